import PyProof.Rows.All
import Wide.All
import OpenK.AllK
import Wide.FinOn
import Lean
import PySem.Challenge.RW_pq0620_01
open PySem PySem.W PySem.W.X PyProof.Rows PySem.Spec PySem.Calls
set_option Elab.async false
set_option genInjectivity false
set_option genSizeOf false
set_option maxRecDepth 100000
set_option maxHeartbeats 0
set_option linter.all false
namespace Mine
theorem mcm{α:Type}{a b:α}{l:List α}(h:a∈b::l):a=b\/a∈l:=List.mem_cons.1 h
theorem mmp{α β:Type}{f:α->β}{b:β}{l:List α}(h:b∈l.map f):∃ a,a∈l/\f a=b:=List.mem_map.1 h
theorem msp{α:Type}{a b:α}(h:a∈[b]):a=b:=List.mem_singleton.1 h
theorem mai{α:Type}{a:α}{l r:List α}(h:a∈l):a∈l++r:=List.mem_append.2 (.inl h)
theorem maj{α:Type}{a:α}{l r:List α}(h:a∈r):a∈l++r:=List.mem_append.2 (.inr h)
noncomputable abbrev AO:=Addr × Obj
noncomputable abbrev AL:=(Nat->Addr)->(Nat->Tok)->List AO->Prop
noncomputable abbrev SP:=Params->Nat->Option Obj
noncomputable abbrev tT{α:Type}:α->Prop:=λ_=>True
noncomputable abbrev nL:AL:=λ_ _ L=>L=[]
noncomputable def g0N:Nat:=0xc41041000010c00820000020000000810c00820000020000000810830c30020800000800000020400000010c0082000002000000081000040040001
noncomputable def g1N:Nat:=0x830c30020800000800000020400000010c0082000002000000081000040040001
noncomputable def g2N:Nat:=0x30460051400001400000050410010c20420010c2000000080000080000081000040040040001
noncomputable def g3N:Nat:=0x10010c20420010c2000000080000080000081000040040040001
noncomputable def g4N:Nat:=0x80000000040001001
noncomputable def g5N:Nat:=0x1440c20440030800000020000020000020451030810c00c20000000800000800000811440c2042003080000002000002000002040001001
noncomputable def g6N:Nat:=0x40001801450000050000001430810c00430800000020000020000020401440c20420010c2000000080000080000081000040040001
noncomputable def g7N:Nat:=0x1c00000000060051400001400000050c20460030800000020000020000020451030811400c20000000800000800000811440c20440030800000020000020000020451030810c00c20000000800000800000811440c2042003080000002000002000002040001001
noncomputable def g8N:Nat:=0xc10422c208008008004004108b08200200200a2810090092492492490000002c00040040040041020c30420c70c30030030000000400420c70c30030030030030030c00401001041820c31460420c30c00c00c00810800800000400000420c30c00c00c00c00c00c3001000040001001
noncomputable def g9N:Nat:=0xc10422c208008008004004108b08200200200a2810090092492492490000002c00040040040041020c30420c70c30030030000000400420c70c30030030000401001041820c31460420c30c00c00c00810800800000400000420c30c00c00c0001000040001001
noncomputable def g10N:Nat:=0x304108b0820020020010010422c208008008004004108b08200200200a2810090092492492490000002c00040040040041020c30420c70c30030030000000400420c70c30030030000000400420c70c30030030030030030c00401001041820c31460420c30c00c00c00810800800000400000420c30c00c00c00810800800000400000420c30c00c00c00c00c00c3001000040001001
noncomputable def g11N:Nat:=0x304108b0820020020010010422c208008008004004108b08200200200a2810090092492492490000002c00040040040041020c30420c70c30030030000000400420c70c30030030000000400420c70c30030030000401001041820c31460420c30c00c00c00810800800000400000420c30c00c00c00810800800000400000420c30c00c00c0001000040001001
noncomputable def g12N:Nat:=0x31800000060051400001400000050851030811000c20000000800000800000810050000001801450000050000001430810c00c20000000800000800000811440c2042003080000002000002000002040001001
noncomputable def g13N:Nat:=0x30820420851030811400401440c20440030800000020000020000020451030810c00c20000000800000800000811440c2042003080000002000002000002040001001001
noncomputable def g14N:Nat:=0xc21440c20430000401440c2042001000001001
noncomputable def g15N:Nat:=0x440c00000010010010410010010410810821440c2042001000043002080000080000002040001001
noncomputable def g16N:Nat:=0x51030810c00401440c2042001000001001
noncomputable def g17N:Nat:=0x30030030c30400000030030030c30410000000800800820810000000c00c00c30c1040002002002082040001001001
noncomputable def g18N:Nat:=0x2002002082040001001001
noncomputable def g19N:Nat:=0x51471850c01c60000001800001800001851471850801c6000000180000180000185140105105040042041001001001081040040040042041001001040040041040001001
noncomputable def g20N:Nat:=0x810c00410000420c2042001000043002080000080000002040001001001
noncomputable def g21N:Nat:=0x21031040431051040040040030830030010010831030c00c00c00c00c00c3001001001040001000040001001
noncomputable def g22N:Nat:=0x21031040431051040040040030830030010010831030c00c00c0001001001040001000040001001
noncomputable def g23N:Nat:=0x20c51051411051851401401401031001000810831051040040040030830030010010831030c00c00c00c00c00c3001001001040001000040001001
noncomputable def g24N:Nat:=0x20c51051411051851401401401031001000810831051040040040030830030010010831030c00c00c0001001001040001000040001001
noncomputable def g25N:Nat:=0x3012c00000c10421820800800800400410860820020020051410040041041041040000000830c10830c30030030020420020000010000010830c30030030030030030c0040003000040001001
noncomputable def g26N:Nat:=0x3012c00000c10421820800800800400410860820020020051410040041041041040000000830c10830c30030030020420020000010000010830c3003003000040003000040001001
noncomputable def g27N:Nat:=0xc04b0000030410860820020020010010421820800800800400410860820020020051410040041041041040000000830c10830c30030030020420020000010000010830c30030030020420020000010000010830c30030030030030030c0040003000040001001
noncomputable def g28N:Nat:=0xc04b0000030410860820020020010010421820800800800400410860820020020051410040041041041040000000830c10830c30030030020420020000010000010830c30030030020420020000010000010830c3003003000040003000040001001
noncomputable def g29N:Nat:=0x420176155176155185d65542986094004004104164004004104162402402492562c02c02cb2d658f0080500551401c11811c01c01c71d40061870471400070070071c74934d34d24524520400460410010010011810400400400460410010010401401451472070c028010a24a24a0400440410010010011010400400400440410010010400c00c30c10810801000c4
noncomputable def g30N:Nat:=0x420155934955934965544d229658938038038e39438038038e39424024024925424024024925450d00804e0531401c11811c01c01c71d20041850451400050050051454114514503d03d00400440410010010011010400400400440410010010400c00c30c72070c028010a24a24a0400440410010010011010400400400440410010010400c00c30c10810801000c4
noncomputable def g31N:Nat:=0x1c02ca28918a00624b280101041040040041040040041000000000209203008005200007207201001081040040040042041001001001081040040041001001041080080082083103080080080080001000040040001001001001000001001
noncomputable def g32N:Nat:=0x81042042042082001001041042042081001001
noncomputable def g33N:Nat:=0xc204f38b28f38b2903ce30b2843cf0c30830020000020020000800000020410c20c00800000800800020000000810430830020000020020000800000020410c20c00800000800800020000000810400010010010010010000400000010010000000000000000000000000000000000000000000000000022cb2c028b28b04004b0410010010012c104004004004b04100100104028028a287201001141040040040045041001001001141040040041004004104
noncomputable def g34N:Nat:=0x148f35034b4914041cd30b21040739145144e34e34e04004204100100100108104004004004204100100104004004104d00604e04900914a04a0c01c01ca1841cb1c61851851810012010400400400480410010010012010400400410070071c7040040081
noncomputable def g35N:Nat:=0x24648f34008b30b20c01040739145144e34e34e04004204100100100108104004004004204100100104004004104d00604e04900914a04a0c01c01ca1841cb1c61851851810012010400400400480410010010012010400400410070071c7040040081
noncomputable def g36N:Nat:=0x4f30a34a20f38d0402892062c800c2ca04834014100d00d3481c80071080480c01801851851810012010400400400480410010010012010400400410070071c7040040081
noncomputable def g37N:Nat:=0x20cf30a0022092062402c800c2ca04834014100d00d3481c80071080480c01801851851810012010400400400480410010010012010400400410070071c7040040081
noncomputable def g38N:Nat:=0xc20030800c20402830c92070000000000001830001051030000000000000c00000020c0040081
noncomputable def g39N:Nat:=0x401010010050000000050050001400000000050c30400440040000000040040001000000000040820c410000300300104000000000100100100004000000000200208000000000000000000000000000000b00a28000028000000a0090090092490c20c10420c2080080081000001083082002002040040041083082002002040040040041000000100100100003002080000080000002040003002080000080000002040003002080000080000002041004004004004103002080000080000002040001001001
noncomputable def g40N:Nat:=0x10830030c00c3103081003000006081000000040000040000046103081002006081000000040000040000046
noncomputable def g41N:Nat:=0x60830030800000020000020000021c61c1103081002006000006
noncomputable def g42N:Nat:=0x423830030c00c32892071860081c000000700000700000730118118004604018018118b0002c00400420410010010071851031402451000000040000040000042400092090010810400400401c61440c40091440000001000001000001090002482400420410010010071851030c02451000000040000040000042400092090010810400400401c61440c20091440000001000001000001090002482400420410010010010010010461c0187
noncomputable def prog:Program:=PySem.Challenge.rw_pq0620_01.row.prog
inductive Ko where
 | base
 | ret (c:Code)(hd:Option Value)(k:Result->Sem Fin)(κ:Ko)

noncomputable def Bu(A₀:Around):Ko->Around
 | .base=>A₀
 | .ret c hd _ κ=>((Bu A₀ κ).under c).mark hd

structure Ent where
 a:Addr
 o:Obj
 w:Bool
 f:Bool

inductive It where
 | a (x y:Addr)
 | c (x y:Code)
 | o (x y:Obj)
 | r (x y:Result)
 | g (x y:Args)
 | f (x y:Option (List Env))
 | e (need also:List AO->Prop)
noncomputable def It.diag:It->It
 | .a x _=>.a x x
 | .c x _=>.c x x
 | .o x _=>.o x x
 | .r x _=>.r x x
 | .g x _=>.g x x
 | .f x _=>.f x x
 | .e x y=>.e x y

inductive Ach where
 | stuck (n:Nat)
 | done
 | bad
 | fin (r:Result)(K:List Ent)(m i q:Nat)
 | cut (c:Code)(κ:Ko)(K:List Ent)(m i q:Nat)
inductive Out where
 | nil (f:Ach)
 | cons (i:It)(r:Out)
noncomputable abbrev Ev:=(List AO->Prop) × (List AO->Prop)
noncomputable abbrev EF:=(Nat->Addr)->(Nat->Tok)->List Ev
noncomputable def Out.toE(F:Ach):List Ev->Out->Out
 | E,.nil _=>match E with
  | []=>.nil F
  | _::_=>.nil .bad
 | E,.cons i r=>match i with
  | .e _ _=>match E with
   | []=>.nil .bad
   | v::E=>.cons (.e v.1 v.2) (r.toE F E)
  | i=>.cons i.diag (r.toE F E)
noncomputable def Out.to(F:Ach)(o:Out):Out:=o.toE F []

structure Con where
 code:Code
 pre:List AO
 upd:List (Addr × ((Nat->Tok)->Obj))
 n:Nat
 post:(Nat->Addr)->(Nat->Tok)->List AO
 nt:Nat
 res:(Nat->Addr)->(Nat->Tok)->Result
 deep:Nat

inductive ConX where
 | plain (x:Con)
 | full (x:Con)(need:List AO->Prop)(also:AL)
 | framed (fr:List Env)(x:Con)(need:List AO->Prop)
noncomputable abbrev CF:=(Nat->Addr)->(Nat->Tok)->Code->ConX
noncomputable def ConX.con:ConX->Con
 | .plain x=>x
 | .full x _ _=>x
 | .framed _ x _=>x
noncomputable def Ce:List (Addr × ((Nat->Tok)->Obj))->(Nat->Tok)->List AO
 | [],_=>[]
 | p::r,tk=>(p.1,p.2 tk)::Ce r tk
structure SV where
 w:World
 A₀:Around
 room:Nat
 stat:Nat->Option Obj
 cons:List CF
 den:Code->Sem Fin
 ct:Addr->FuncData->Args->Sem Fin

noncomputable def nth{α:Type}:List α->Nat->Option α
 | [],_=>none
 | x::_,0=>some x
 | _::r,j+1=>nth r j
noncomputable def Ha{α:Type}:List α->Nat->α->List α
 | [],_,_=>[]
 | _::r,0,y=>y::r
 | x::r,j+1,y=>x::Ha r j y

noncomputable abbrev Cont:=Code->Ko->Sem Fin->List Ent->Nat->Nat->Nat->Out
noncomputable def B:Nat:=64
noncomputable def stuck(n:Nat):Out:=.nil (.stuck n)
noncomputable def depK:Ko->Nat
 | .base=>0
 | .ret c _ _ κ=>depK κ+c.weight

noncomputable def uB:Code->Nat
 | .call ..=>1
 | .builtin ..=>10
 | _=>3
noncomputable def unK:Ko->Nat
 | .base=>0
 | .ret c _ _ κ=>unK κ+uB c
noncomputable def retK(ih:Cont)(r:Result)(κ:Ko)(K:List Ent)(m i q:Nat):Out:=match κ with
 | .base=>.nil (.fin r K m i q)
 | .ret c _ k κ=>ih c κ (k r) K m i q

noncomputable def conses:List It->Out->Out
 | [],r=>r
 | i::l,r=>.cons i (conses l r)
noncomputable def adv:Nat->Nat->Nat
 | 0,q=>q
 | n+1,q=>adv n (q / B)
noncomputable def Ds:List AO->List Ent->Nat->Option (List It)
 | [],_,_=>some []
 | p::r,K,q=>match nth K (q % B) with
  | some e=>match Ds r K (q / B) with
   | some l=>some (.a p.1 e.a::.o p.2 e.o::l)
   | none=>none
  | none=>none
noncomputable def Gs:List AO->List Ent->Nat->Option (List It × List Ent)
 | [],K,_=>some ([],K)
 | p::r,K,q=>match nth K (q % B) with
  | some e=>match e.w with
   | true=>match Gs r (Ha K (q % B) ⟨e.a,p.2,true,e.f⟩) (q / B) with
    | some (l,K')=>some (.a p.1 e.a::l,K')
    | none=>none
   | false=>none
  | none=>none
noncomputable def Fb:List AO->List Ent->Nat->Option (List It)
 | [],_,_=>some []
 | p::r,K,q=>match nth K (q % B) with
  | some e=>match e.f with
   | true=>match Fb r K (q / B) with
    | some l=>some (.a p.1 e.a::.o p.2 e.o::l)
    | none=>none
   | false=>none
  | none=>none
noncomputable def digs:Nat->Nat->List Nat
 | 0,_=>[]
 | n+1,q=>q % B::digs n (q / B)
noncomputable def Yb(j:Nat):List Nat->Bool
 | []=>true
 | x::r=>match Nat.beq x j with
  | true=>false
  | false=>Yb j r
noncomputable def Ea:List Nat->Bool
 | []=>true
 | x::r=>match Yb x r with
  | true=>Ea r
  | false=>false
noncomputable def Pr:List AO->List Ent->List Ent
 | [],K=>K
 | p::r,K=>Pr r (⟨p.1,p.2,true,true⟩::K)
noncomputable def cut(n:Nat)(f:Nat->Nat)(j:Nat):Nat:=match Nat.blt j n with
 | true=>f j
 | false=>0
noncomputable def calm:Ko->Bool
 | .base=>true
 | .ret _ hd _ κ=>match hd with
  | none=>calm κ
  | some _=>false

noncomputable def Abt(A₀:Around)(κ:Ko):Bool:=match A₀.handled with
 | none=>calm κ
 | some _=>false
noncomputable def okFd(fd:FuncData):Bool:=!fd.scope.isCoroutine && !fd.scope.isGenerator && match fd.body with
 | .stmts _=>true
 | _=>false
noncomputable def Xa:Code->List Value
 | .call _ a=>a.pos
 | .builtin _ a=>a.pos
 | _=>[]
noncomputable def Aj(c:Code)(j:Nat):Tok:=match nth (Xa c) j with
 | some v=>match v with
  | .int _ t=>t
  | .str _ t=>t
  | _=>0
 | none=>0
noncomputable def Af(c:Code)(j:Nat):Addr:=match nth (Xa c) j with
 | some v=>match v with
  | .ref t=>t
  | _=>0
 | none=>0
noncomputable def eqS(a b:String):Bool:=match PySem.W.S.strDecS a b with
 | .isTrue _=>true
 | .isFalse _=>false
noncomputable def Gm(c c':Code):Option (List It):=match c with
 | .call f a=>match f with
  | .builtin i=>match c' with
   | .call f' a'=>match f' with
    | .builtin j=>match eqS i j with
     | true=>some [.g a a']
     | false=>none
    | _=>none
   | _=>none
  | _=>some [.c c c']
 | .builtin i a=>match c' with
  | .builtin j a'=>match eqS i j with
   | true=>some [.g a a']
   | false=>none
  | _=>none
 | _=>some [.c c c']
noncomputable def evOf(y:ConX)(fr:Option (List Env))(nw:Nat->Addr)(tks:Nat->Tok)(r:Out):Out:=match y with
 | .plain _=>r
 | .framed l _ nd=>.cons (.f (some l) fr) (.cons (.e nd λL=>L=[]) r)
 | .full _ nd al=>.cons (.e nd (al nw tks)) r
noncomputable def Nh(V:SV)(al:Nat->Addr)(tk:Nat->Tok)(ih:Cont)(c':Code)(y:ConX)(x:Con)(κ:Ko)(K:List Ent)(m i q:Nat):Out:=
 match Abt V.A₀ κ && Nat.ble (depK κ+x.deep) V.room && Nat.ble (unK κ+20 * x.deep) (20 * V.room) && Ea (digs x.pre.length (q / B)) with
 | true=>match Ds x.pre K (q / B) with
  | some l=>match Gs (Ce x.upd (cut x.nt λj=>tk (i+j))) K (adv x.pre.length (q / B)) with
   | some (l',K')=>match Gm c' x.code with
    | some l0=>conses l0 (conses l (conses l' (evOf y (Bu V.A₀ κ).frames (cut x.n λj=>al (m+j)) (cut x.nt λj=>tk (i+j)) (retK ih (x.res (cut x.n λj=>al (m+j)) (cut x.nt λj=>tk (i+j))) κ
     (Pr (x.post (cut x.n λj=>al (m+j)) (cut x.nt λj=>tk (i+j))) K') (m+x.n) (i+x.nt) (adv x.upd.length (adv x.pre.length (q / B)))))))
    | none=>stuck 16
   | none=>stuck 12
  | none=>stuck 11
 | false=>stuck 15
noncomputable def Ej(V:SV)(al:Nat->Addr)(tk:Nat->Tok)(ih:Cont)(c':Code)(κ:Ko)(K:List Ent)(m i q:Nat):Out:=match q % B with
 | 0=>ih c' κ (V.den c') K m i (q / B)
 | 1=>match c' with
  | .call f args=>match f with
   | .ref a=>match V.stat a with
    | some o=>match o.data with
     | .func fd=>match okFd fd && Nat.blt (depK κ) V.room with
      | true=>ih c' κ (V.ct a fd args) K m i (q / B)
      | false=>stuck 5
     | _=>stuck 6
    | none=>stuck 7
   | _=>stuck 8
  | _=>stuck 9
 | j+2=>match nth V.cons j with
  | some f=>Nh V al tk ih c' (f (cut m al) (cut i tk) c') (f (cut m al) (cut i tk) c').con κ K m i q
  | none=>.nil (.cut c' κ K m i (q / B))

noncomputable def step(V:SV)(al:Nat->Addr)(tk:Nat->Tok)(ih:Cont)(c:Code)(κ:Ko)(t:Sem Fin)(K:List Ent)(m i q:Nat):Out:=match t with
 | .pure fin=>match fin with
  | .done f=>retK ih (.ok f) κ K m i q
  | .again c'=>match c'.quiet with
   | true=>Ej V al tk ih c' κ K m i q
   | false=>stuck 20
 | .raise e=>retK ih (.error e) κ K m i q
 | .rule _ k=>ih c κ (k ()) K m i q
 | .at _ k=>ih c κ (k ()) K m i q
 | .point _ k=>ih c κ (k ()) K m i q
 | .ask k=>ih c κ (k ⟨prog,V.w.params⟩) K m i q
 | .load a _ k=>match q % B with
  | 0=>match V.stat a with
   | some o=>ih c κ (k o) K m i (q / B)
   | none=>stuck 1
  | j+1=>match nth K j with
   | some e=>.cons (.a a e.a) (ih c κ (k e.o) K m i (q / B))
   | none=>stuck 2
 | .loadIfAlive a k=>match q % B with
  | 0=>match V.stat a with
   | some o=>ih c κ (k (some o)) K m i (q / B)
   | none=>stuck 1
  | j+1=>match nth K j with
   | some e=>.cons (.a a e.a) (ih c κ (k (some e.o)) K m i (q / B))
   | none=>stuck 2
 | .alloc o k=>match o.isFreed with
  | true=>stuck 3
  | false=>ih c κ (k (al m)) (⟨al m,o,true,true⟩::K) (m+1) i q
 | .update a _ f k=>match nth K (q % B) with
  | some e=>match e.w && !(f e.o).isFreed with
   | true=>.cons (.a a e.a) (ih c κ (k ()) (Ha K (q % B) ⟨e.a,f e.o,true,e.f⟩) m i (q / B))
   | false=>stuck 3
  | none=>stuck 4
 | .fresh k=>ih c κ (k (tk i)) K m (i+1) q
 | .handled own k=>match own with
  | false=>ih c κ (k (Bu V.A₀ κ).handled) K m i q
  | true=>stuck 21
 | .call c' hd _ _ k=>match okMark hd with
  | true=>Ej V al tk ih c' (.ret c hd k κ) K m i q
  | false=>stuck 22
 | .unsupported _=>stuck 30
 | .finish _=>stuck 31
 | .register ..=>stuck 32
 | .choose ..=>stuck 33
 | .os ..=>stuck 34
 | .fork ..=>stuck 35
 | .thread _=>stuck 36
 | .await ..=>stuck 37
 | .stack _=>stuck 38
 | .newGen ..=>stuck 39
 | .genState ..=>stuck 40
 | .resume ..=>stuck 41
 | .yield ..=>stuck 42
noncomputable def run(V:SV)(al:Nat->Addr)(tk:Nat->Tok)(n:Nat):Cont:=
 Nat.rec (λ_ _ _ _ _ _ _=>stuck 50) (λ_ ih=>step V al tk ih) n

noncomputable def Out.end:Out->(Result->List Ent->Nat->Out)->Out
 | .nil f,k=>match f with
  | .fin r K _ _ q=>k r K q
  | .stuck n=>.nil (.stuck n)
  | .done=>.nil (.stuck 61)
  | .bad=>.nil (.stuck 61)
  | .cut ..=>.nil (.stuck 61)
 | .cons i r,k=>.cons i (r.end k)
noncomputable def nthD:List Nat->Nat->Nat
 | [],_=>0
 | x::_,0=>x
 | _::r,j+1=>nthD r j
noncomputable def Jz(x:Con)(nw:Nat->Addr)(tks:Nat->Tok)(r:Result)(K:List Ent)(q:Nat):Out:=match Ds (Ce x.upd (cut x.nt tks)) K q with
 | some l=>match Fb (x.post (cut x.n nw) (cut x.nt tks)) K (adv x.upd.length q) with
  | some l'=>match Ea (digs (x.post (cut x.n nw) (cut x.nt tks)).length (adv x.upd.length q)) with
   | true=>.cons (.r r (x.res (cut x.n nw) (cut x.nt tks))) (conses l (conses l' (.nil .done)))
   | false=>stuck 62
  | none=>stuck 63
 | none=>stuck 64
noncomputable def Jn(V:SV)(x:Con)(n q:Nat)(K:List Ent)(σ τ:List Nat)(al:Nat->Addr)(tk:Nat->Tok):Out:=
 (Ej V al tk (run V al tk n) x.code .base K 0 0 q).end (Jz x (λj=>al (nthD σ j)) (λj=>tk (nthD τ j)))

noncomputable def Eb(a:Addr)(fd:FuncData)(args:Args):Sem Fin:=do
 let compiled←match fd.code with
  | .none=>pure fd.qualname
  | c=>do match←field c 1 with
   | .str q _=>pure q
   | _=>pure fd.qualname
 let env←newFunctionEnv fd.scope fd.globals fd.closure (←bindArgs fd args) (compiled++".<locals>.") (some a) fd.code none fd.builtins
 pure (.again (match fd.body with
  | .stmts b=>.func b env
  | .expr e=>.expr e env))
noncomputable def It.ok:It->Prop
 | .a x y=>x=y
 | .c x y=>x=y
 | .o x y=>x=y
 | .r x y=>x=y
 | .g x y=>x=y
 | .f x y=>x=y
 | .e _ _=>True
theorem It.ok_of{i:It}(h:i=i.diag):i.ok:=by
 cases i<;>first|trivial|(simp only [It.diag] at h;injection h with _ h2;exact h2.symm)

noncomputable def Stat(st:Nat->Option Obj)(h:Heap):Prop:=∀ a o,st a=some o->h.get? a=some o

noncomputable def Be(h h':Heap):Prop:=∀ b o,h.get? b=some o->∃ o',h'.get? b=some o'
theorem Be.refl(h:Heap):Be h h:=λ_ o e=>⟨o,e⟩
theorem Be.trans{h h' h'':Heap}(a:Be h h')(b:Be h' h''):Be h h'':=λx o e=>by
 obtain ⟨o',e'⟩:=a x o e
 exact b x o' e'
theorem Be.of_kept{h h':Heap}(a:∀ b o,h.get? b=some o->h'.get? b=some o):Be h h':=λx o e=>⟨o,a x o e⟩
theorem Be.none{h h':Heap}(g:Be h h'){a:Addr}(e:h'.get? a=Option.none):h.get? a=Option.none:=by
 cases q:h.get? a with
 | none=>rfl
 | some o=>obtain ⟨o',q'⟩:=g a o q;rw [e] at q';cases q'
theorem get?_size(h:Heap):h.get? h.objs.size=Option.none:=by
 cases q:h.get? h.objs.size with
 | none=>rfl
 | some o=>exact absurd (Heap.lt_size q) (Nat.lt_irrefl _)
theorem Be.sameBut{h h':Heap}{a:Addr}(hs:Heap.SameBut a h h'){o:Obj}(e:h'.get? a=some o):Be h h':=λb o' eb=>by
 by_cases z:b=a
 ·subst z;exact ⟨o,e⟩
 ·exact ⟨o',(hs.2 b z).trans eb⟩
structure Rep (st:Nat->Option Obj)(W:List Addr)(h₀ h:Heap)(K:List Ent)(X N:List AO):Prop where
 stat:Stat st h
 own:∀ e∈K,h.get? e.a=some e.o
 ownX:∀ p∈X,h.get? p.1=some p.2
 nod:(K.map (·.a)).Nodup
 nodX:(X.map (·.1)).Nodup
 apart:∀ e∈K,∀ p∈X,e.a≠p.1
 new:∀ e∈K,st e.a=none
 newX:∀ p∈X,st p.1=none
 wr:∀ e∈K,e.w=true->e.a∈W\/h₀.get? e.a=none
 old:∀ b o,h₀.get? b=some o->b∉W->h.get? b=some o
 size:Be h₀ h
 fr:∀ e∈K,e.f=true->h₀.get? e.a=none
 frN:∀ p∈N,h₀.get? p.1=none
 suf:∃ X₀,X=X₀++N
theorem Rep.subN{st:Nat->Option Obj}{W:List Addr}{h₀ h:Heap}{K:List Ent}{X N:List AO}(D:Rep st W h₀ h K X N):∀ p∈N,p∈X:=by
 obtain ⟨X₀,e⟩:=D.suf
 intro p hp
 rw [e];exact maj (hp)
theorem Rep.nodN{st:Nat->Option Obj}{W:List Addr}{h₀ h:Heap}{K:List Ent}{X N:List AO}(D:Rep st W h₀ h K X N):(N.map (·.1)).Nodup:=by
 obtain ⟨X₀,e⟩:=D.suf
 have h:=D.nodX
 rw [e,List.map_append,List.nodup_append] at h
 exact h.2.1

noncomputable def Room(A:Around)(deep:Nat):Prop:=A.depth+deep < recursionLimit/\A.units+20 * deep < cLine
theorem Room.le{A:Around}{d d':Nat}(h:Room A d)(hd:d'<=d):Room A d':=by
 obtain ⟨h1,h2⟩:=h
 exact ⟨by omega,by omega⟩
noncomputable def Con.Valid(w:World)(st:Nat->Option Obj)(x:Con):Prop:=
 ∀ (A:Around)(s:Shared)(R:Result->Shared->Prop),A.handled=none->Room A x.deep->Stat st s.heap->(∀ p∈x.pre,s.heap.get? p.1=some p.2/\st p.1=none)->(x.pre.map (·.1)).Nodup->
  (∀ (nw:Nat->Addr)(tks:Nat->Tok)(h':Heap)(t':Nat),Be s.heap h'->
   (∀ b o,s.heap.get? b=some o->(∀ p∈x.upd,p.1≠b)->h'.get? b=some o)->(∀ p∈Ce x.upd (cut x.nt tks),h'.get? p.1=some p.2)->
   (∀ p∈x.post (cut x.n nw) (cut x.nt tks),h'.get? p.1=some p.2/\s.heap.get? p.1=none)->((x.post (cut x.n nw) (cut x.nt tks)).map (·.1)).Nodup->
   R (x.res (cut x.n nw) (cut x.nt tks)) { s with heap:=h',toks:=t' })->
  codeAny (model prog w) A x.code R s

noncomputable def Ad(w:World)(st:Nat->Option Obj)(x:Con)(need:List AO->Prop)(also:AL):Prop:=
 ∀ (A:Around)(s:Shared)(R:Result->Shared->Prop)(X:List AO),A.handled=none->Room A x.deep->Stat st s.heap->(∀ p∈x.pre,s.heap.get? p.1=some p.2/\st p.1=none)->(x.pre.map (·.1)).Nodup->
  (∀ p∈X,s.heap.get? p.1=some p.2/\st p.1=none)->(X.map (·.1)).Nodup->(∀ p∈x.pre,∀ q∈X,p.1≠q.1)->need X->
  (∀ (nw:Nat->Addr)(tks:Nat->Tok)(h':Heap)(t':Nat)(L:List AO),Be s.heap h'->
   (∀ b o,s.heap.get? b=some o->(∀ p∈x.upd,p.1≠b)->h'.get? b=some o)->(∀ p∈Ce x.upd (cut x.nt tks),h'.get? p.1=some p.2)->
   (∀ p∈x.post (cut x.n nw) (cut x.nt tks)++L,h'.get? p.1=some p.2/\s.heap.get? p.1=none)->((x.post (cut x.n nw) (cut x.nt tks)++L).map (·.1)).Nodup->also (cut x.n nw) (cut x.nt tks) L->
   R (x.res (cut x.n nw) (cut x.nt tks)) { s with heap:=h',toks:=t' })->
  codeAny (model prog w) A x.code R s
noncomputable def Jd(w:World)(st:Nat->Option Obj)(l:List Env)(x:Con)(need:List AO->Prop):Prop:=
 ∀ (A:Around)(s:Shared)(R:Result->Shared->Prop)(X:List AO),A.handled=none->A.frames=some l->Room A x.deep->Stat st s.heap->(∀ p∈x.pre,s.heap.get? p.1=some p.2/\st p.1=none)->(x.pre.map (·.1)).Nodup->
  (∀ p∈X,s.heap.get? p.1=some p.2/\st p.1=none)->(X.map (·.1)).Nodup->(∀ p∈x.pre,∀ q∈X,p.1≠q.1)->need X->
  (∀ (nw:Nat->Addr)(tks:Nat->Tok)(h':Heap)(t':Nat),Be s.heap h'->
   (∀ b o,s.heap.get? b=some o->(∀ p∈x.upd,p.1≠b)->h'.get? b=some o)->(∀ p∈Ce x.upd (cut x.nt tks),h'.get? p.1=some p.2)->
   (∀ p∈x.post (cut x.n nw) (cut x.nt tks),h'.get? p.1=some p.2/\s.heap.get? p.1=none)->((x.post (cut x.n nw) (cut x.nt tks)).map (·.1)).Nodup->
   R (x.res (cut x.n nw) (cut x.nt tks)) { s with heap:=h',toks:=t' })->
  codeAny (model prog w) A x.code R s
noncomputable def ConX.Valid(w:World)(st:Nat->Option Obj):ConX->Prop
 | .plain x=>x.Valid w st
 | .full x nd al=>Ad w st x nd al
 | .framed l x nd=>Jd w st l x nd

structure SV.Ok (V:SV):Prop where
 den:V.den=denote table
 ct:V.ct=Eb
 lim:∀ h,Stat V.stat h->h.NoLimit
 dep:Room V.A₀ V.room
 cons:∀ f∈V.cons,∀ a t c,(f a t c).Valid V.w V.stat

noncomputable def plus(Q:Fin->Shared->Prop)(f:Fin)(s:Shared):Prop:=s.heap.NoLimit/\Q f s
section
variable (V:SV)(R₀:Result->Shared->Prop)
noncomputable def endK:Ko->Result->Shared->Prop
 | .base=>R₀
 | .ret c _ k κ=>postR prog V.w (Bu V.A₀ κ) c (plus (postC prog V.w (Bu V.A₀ κ) (endK κ))) (postE (endK κ)) k
noncomputable def Nu(c:Code)(κ:Ko)(t:Sem Fin)(s:Shared):Prop:=
 wpOwn (model prog V.w) (Bu V.A₀ κ) c t (plus (postC prog V.w (Bu V.A₀ κ) (endK V R₀ κ))) (postE (endK V R₀ κ)) s
end

theorem Gl(A₀:Around):∀ κ,(Bu A₀ κ).depth=A₀.depth+depK κ
 | .base=>rfl
 | .ret c hd k κ=>by
  show (Bu A₀ κ).depth+c.weight=A₀.depth+(depK κ+c.weight)
  rw [Gl A₀ κ,Nat.add_assoc]
theorem Ahf{p:Prop} [Decidable p] {a:p->Nat}{b:¬ p->Nat}{n:Nat}(h1:∀ h,a h<=n)(h2:∀ h,b h<=n):dite p a b<=n:=by
 cases (inferInstance:Decidable p) with
 | isTrue h=>rw [dif_pos h];exact h1 h
 | isFalse h=>rw [dif_neg h];exact h2 h
theorem Ads(id:String)(args:Args):(Code.builtin id args).frames<=3:=by
 delta Code.frames Code.frames.match_1
 dsimp only
 repeat (refine Ahf (λh=>?_) (λ_=>?_);· (cases h;decide))
 exact Nat.zero_le 3
theorem Ab1(b:Bool):(if b=true then 1 else 0)<=1:=by cases b<;>decide
theorem Hq(c:Code):c.cUnits<=uB c:=by
 cases c with
 | call=>exact Nat.le_refl _
 | builtin id args=>exact Nat.add_le_add_left (Nat.mul_le_mul_left 3 (Ads id args)) 1
 | compStart e d it a env=>exact Nat.mul_le_mul_left 3 (Ab1 (Code.compStart e d it a env).isFrame)
 | compLoop e d it a env=>exact Nat.mul_le_mul_left 3 (Ab1 (Code.compLoop e d it a env).isFrame)
 | _=>first|exact Nat.le_refl _|exact Nat.zero_le _|exact Nat.mul_le_mul_left 3 (Nat.le_refl 1)|exact (by show 3 * 0<=_;exact Nat.zero_le _)
theorem Jo(A₀:Around):∀ κ,(Bu A₀ κ).units<=A₀.units+unK κ
 | .base=>Nat.le_refl _
 | .ret c hd k κ=>by
  show (Bu A₀ κ).units+c.cUnits<=A₀.units+(unK κ+uB c)
  have:=Jo A₀ κ
  have:=Hq c
  omega
theorem Hj{A₀:Around}(h:A₀.handled=none):∀ κ,calm κ=true->(Bu A₀ κ).handled=none
 | .base,_=>h
 | .ret c hd k κ,e=>by
  unfold calm at e
  cases hd with
  | some v=>cases e
  | none=>
   show (none:Option Value).or (Bu A₀ κ).handled=none
   rw [Hj h κ e];rfl

theorem Hi{A₀:Around}{κ:Ko}(e:Abt A₀ κ=true):(Bu A₀ κ).handled=none:=by
 unfold Abt at e
 split at e
 ·rename_i h;exact Hj h κ e
 ·cases e
noncomputable def Ahg{α:Type}(c:Value)(n:Str)(jp:Str->Sem α):Sem α:=match c with
 | .none=>(pure n:Sem Str) >>= jp
 | c=>field c 1 >>= λx=>match x with
  | .str q _=>(pure q:Sem Str) >>= jp
  | _=>(pure n:Sem Str) >>= jp
theorem Yn{α β:Type}{M:Model}{Γ:PySem.Ctx}{c:Value}{n:Str}{j1:Str->Sem α}{j2:Str->Sem β}{Q:α->Pos->Shared->Prop}{E:Value->Pos->Shared->Prop}{Q':β->Pos->Shared->Prop}{E':Value->Pos->Shared->Prop}
  (hE:∀ e p s,E e p s->E' e p s)(h:∀ q p s,Sem.wp M Γ (j1 q) Q E p s->Sem.wp M Γ (j2 q) Q' E' p s)(p:Pos)(s:Shared)(z:Sem.wp M Γ (Ahg c n j1) Q E p s):Sem.wp M Γ (Ahg c n j2) Q' E' p s:=by
 have one:∀ q p s,Sem.wp M Γ ((pure q:Sem Str) >>= j1) Q E p s->Sem.wp M Γ ((pure q:Sem Str) >>= j2) Q' E' p s:=λq p s z=>by
  rw [Sem.wp_bind'] at z ⊢
  exact h _ _ _ z
 have two:∀ c,Sem.wp M Γ (field c 1 >>= λx=>match x with
  | .str q _=>(pure q:Sem Str) >>= j1
  | _=>(pure n:Sem Str) >>= j1) Q E p s->Sem.wp M Γ (field c 1 >>= λx=>match x with
  | .str q _=>(pure q:Sem Str) >>= j2
  | _=>(pure n:Sem Str) >>= j2) Q' E' p s:=λc z=>by
  rw [Sem.wp_bind'] at z ⊢
  refine Sem.wp_mono _ _ _ (λv p s z=>?_) (λe p s z=>hE e p s z) _ _ z
  cases v<;>exact one _ _ _ z
 cases c<;>first|exact one _ _ _ z|exact two _ z
theorem Abu{w:World}{A:Around}{R:Result->Shared->Prop}{s:Shared}{a:Addr}{args:Args}{o:Obj}{fd:FuncData}
  (hroom:A.depth < recursionLimit)(ho:s.heap.get? a=some o)(hd:o.data=.func fd)(ok:okFd fd=true)
  (x:wpOwn (model prog w) A (.call (.ref a) args) (Eb a fd args) (plus (postC prog w A R)) (postE R) s) :
  codeAny (model prog w) A (.call (.ref a) args) R s:=by
 refine codeAny_of_own ?_
 show wpOwn _ A _ (callAny (.ref a) args) _ _ s
 unfold callAny
 refine wpOwn_bind (wpOwn_of_wpAny (wpAny_load ho ?_))
 simp only [hd]
 unfold okFd at ok
 simp only [Bool.and_eq_true,Bool.not_eq_true'] at ok
 obtain ⟨⟨hco,hgen⟩,hb⟩:=ok
 intro Γ p hc hΓ
 have z:=x Γ p hc hΓ
 have hin:Γ.In (A.under (.call (.ref a) args)):=hc▸hΓ.in
 have hroom':(A.under (.call (.ref a) args)).depth < recursionLimit:=by
  show A.depth+(Code.call (.ref a) args).weight < recursionLimit
  exact hroom
 refine Yn (λ_ _ _ h=>h) (λq p s h1=>?_) p s (show Sem.wp (model prog w) Γ (Ahg fd.code fd.qualname _) _ _ p s from z)
 rw [Sem.wp_bind'] at h1 ⊢
 refine Sem.wp_mono _ _ _ (λbs p s h2=>?_) (λ_ _ _ h2=>h2) _ _ h1
 rw [Sem.wp_bind'] at h2 ⊢
 refine Sem.wp_mono _ _ _ (λenv p s h3=>?_) (λ_ _ _ h3=>h3) _ _ h2
 obtain ⟨hl,h3⟩:=h3
 refine wpAny_bind (A:=A.under (.call (.ref a) args)) (wpAny_enterFrame hl hroom' ?_) Γ p hin
 simp only [hco,hgen]
 exact wpAny_pure h3

section
variable (V:SV)(R₀:Result->Shared->Prop)(W:List Addr)(h₀:Heap)(g:Array GenState)(d:Drawn)(os:OsState)
noncomputable def Good:List AO->List AO->Out->Prop
 | X,N,.nil f=>match f with
  | .stuck _=>False
  | .done=>False
  | .bad=>False
  | .fin r K _ _ _=>∀ h t,Rep V.stat W h₀ h K X N->R₀ r ⟨h,g,d,t,os⟩
  | .cut c κ K _ _ _=>∀ h t,Rep V.stat W h₀ h K X N->codeAny (model prog V.w) (Bu V.A₀ κ) c (endK V R₀ κ) ⟨h,g,d,t,os⟩
 | X,N,.cons i r=>match i with
  | .e nd al=>nd X/\∀ L,al L->Good (X++L) (N++L) r
  | i=>i.ok/\Good X N r
end
section
variable {V:SV}{R₀:Result->Shared->Prop}{W:List Addr}{h₀:Heap}{g:Array GenState}{d:Drawn}{os:OsState}{X N:List AO}
noncomputable def It.isE:It->Bool
 | .e _ _=>true
 | _=>false
theorem Good.cons_ne{i:It}(h:i.isE=false){r:Out}(H:Good V R₀ W h₀ g d os X N (.cons i r)):i.ok/\Good V R₀ W h₀ g d os X N r:=by
 cases i<;>first|exact H|cases h
theorem Good.conses{r:Out}:∀ {l:List It},(∀ i∈l,i.isE=false)->Good V R₀ W h₀ g d os X N (conses l r)->(∀ i∈l,i.ok)/\Good V R₀ W h₀ g d os X N r
 | [],_,h=>⟨λ_ hi=>(nomatch hi),h⟩
 | i::l,hl,h=>by
  obtain ⟨h1,h2⟩:=Good.cons_ne (hl i (.head _)) h
  obtain ⟨h3,h4⟩:=Good.conses (l:=l) (λj hj=>hl j (.tail _ hj)) h2
  exact ⟨λj hj=>by
   rcases mcm hj with rfl|hj
   ·exact h1
   ·exact h3 j hj,h4⟩
theorem Dd{α:Type}:∀ {l:List α}{j:Nat}{x:α},nth l j=some x->x∈l
 | _::_,0,_,h=>by cases h;exact .head _
 | _::_,_+1,_,h=>.tail _ (Dd h)
theorem Kl{K:List Ent}:∀ {j:Nat}{e:Ent}{o:Obj}{b b':Bool},nth K j=some e->(Ha K j ⟨e.a,o,b,b'⟩).map (·.a)=K.map (·.a):=by
 induction K with
 | nil=>intro j e o b b' h;cases h
 | cons x r ih=>
  intro j e o b b' h
  cases j with
  | zero=>cases h;rfl
  | succ j=>exact congrArg (x.a::·) (ih h)
theorem Fu{K:List Ent}:∀ {j:Nat}{e e' y:Ent},(K.map (·.a)).Nodup->nth K j=some e->e'∈Ha K j y->e'=y\/(e'∈K/\e'.a≠e.a):=by
 induction K with
 | nil=>intro j e e' y _ h;cases h
 | cons x r ih=>
  intro j e e' y hn h hm
  rw [List.map_cons,List.nodup_cons] at hn
  cases j with
  | zero=>
   cases h
   rcases mcm hm with rfl|hm
   ·exact .inl rfl
   ·exact .inr ⟨.tail _ hm,λz=>hn.1 (z▸List.mem_map_of_mem (f:=(·.a)) hm)⟩
  | succ j=>
   rcases mcm hm with rfl|hm
   ·have hr:nth r j=some e:=h
    exact .inr ⟨.head _,λz=>hn.1 (z▸List.mem_map_of_mem (f:=(·.a)) (Dd hr))⟩
   ·rcases ih hn.2 h hm with z|z
    ·exact .inl z
    ·exact .inr ⟨.tail _ z.1,z.2⟩
theorem Rep.update{K:List Ent}{h:Heap}(D:Rep V.stat W h₀ h K X N){j:Nat}{e:Ent}(hj:nth K j=some e)(hw:e.w=true){f:Obj->Obj}(hf:(f e.o).isFreed=false) :
  Rep V.stat W h₀ (h.update e.a f) (Ha K j ⟨e.a,f e.o,true,e.f⟩) X N:=by
 have hs:Heap.SameBut e.a h (h.update e.a f):=Heap.SameBut.update ..
 have he:=Dd hj
 have ho:=D.own e he
 have key:∀ {e':Ent},e'∈Ha K j ⟨e.a,f e.o,true,e.f⟩->∃ e''∈K,e''.a=e'.a/\(e'.w=true->e''.w=true)/\e''.f=e'.f:=λhm=>by
  rcases Fu D.nod hj hm with rfl|⟨hm,_⟩
  ·exact ⟨e,he,rfl,λ_=>hw,rfl⟩
  ·exact ⟨_,hm,rfl,λz=>z,rfl⟩
 refine ⟨λb o eb=>?_,λe' hm=>?_,λp hp=>?_,?_,D.nodX,λe' hm p hp=>?_,λe' hm=>?_,D.newX,λe' hm hw'=>?_,λb o eb hb=>?_,?_,λe' hm hf'=>?_,D.frN,D.suf⟩
 ·refine (hs.2 b ?_).trans (D.stat b o eb)
  rintro rfl
  rw [D.new e he] at eb;cases eb
 ·rcases Fu D.nod hj hm with rfl|⟨hm,hne⟩
  ·first|exact Heap.get?_update_self f ho hf|exact Heap.get?_update_self _ ho hf
  ·exact (hs.2 e'.a hne).trans (D.own e' hm)
 ·exact (hs.2 p.1 λz=>D.apart e he p hp z.symm).trans (D.ownX p hp)
 ·rw [Kl hj];exact D.nod
 ·obtain ⟨e'',h1,h2,_⟩:=key hm
  rw [←h2];exact D.apart e'' h1 p hp
 ·obtain ⟨e'',h1,h2,_⟩:=key hm
  rw [←h2];exact D.new e'' h1
 ·obtain ⟨e'',h1,h2,h3,_⟩:=key hm
  rw [←h2];exact D.wr e'' h1 (h3 hw')
 ·refine (hs.2 b ?_).trans (D.old b o eb hb)
  rintro rfl
  rcases D.wr e he hw with z|z
  ·exact hb z
  ·rw [z] at eb;cases eb
 ·exact D.size.trans (Be.sameBut hs (Heap.get?_update_self f ho hf))
 ·obtain ⟨e'',h1,h2,_,h4⟩:=key hm
  rw [←h2];exact D.fr e'' h1 (h4.trans hf')
theorem Rep.alloc{K:List Ent}{h:Heap}(D:Rep V.stat W h₀ h K X N){o:Obj}(hf:o.isFreed=false):Rep V.stat W h₀ (h.push o) (⟨h.objs.size,o,true,true⟩::K) X N:=by
 refine ⟨λb o' eb=>Heap.get?_push_of_some _ (D.stat b o' eb),λe' hm=>?_,λp hp=>Heap.get?_push_of_some _ (D.ownX p hp),?_,D.nodX,λe' hm p hp=>?_,λe' hm=>?_,D.newX,λe' hm hw'=>?_,λb o' eb hb=>Heap.get?_push_of_some _ (D.old b o' eb hb),?_,λe' hm hf'=>?_,D.frN,D.suf⟩
 ·rcases mcm hm with rfl|hm
  ·exact Heap.get?_push_size _ hf
  ·exact Heap.get?_push_of_some _ (D.own e' hm)
 ·rw [List.map_cons,List.nodup_cons]
  refine ⟨λhm=>?_,D.nod⟩
  obtain ⟨e,he,z⟩:=mmp hm
  have:=Heap.lt_size (D.own e he)
  rw [z] at this
  exact Nat.lt_irrefl _ this
 ·rcases mcm hm with rfl|hm
  ·exact Nat.ne_of_gt (Heap.lt_size (D.ownX p hp))
  ·exact D.apart e' hm p hp
 ·rcases mcm hm with rfl|hm
  ·cases q:V.stat h.objs.size with
   | none=>rfl
   | some o'=>exact absurd (Heap.lt_size (D.stat _ _ q)) (Nat.lt_irrefl _)
  ·exact D.new e' hm
 ·rcases mcm hm with rfl|hm
  ·exact .inr (D.size.none (get?_size h))
  ·exact D.wr e' hm hw'
 ·exact D.size.trans (.of_kept λb o' eb=>Heap.get?_push_of_some _ eb)
 ·rcases mcm hm with rfl|hm
  ·exact D.size.none (get?_size h)
  ·exact D.fr e' hm hf'

inductive PrI (x:AO)(r:List AO)(K:List Ent)(q:Nat):List It->Prop
 | mk (en:Ent)(l:List It)(h1:nth K (q % B)=some en)(h2:Ds r K (q / B)=some l):PrI x r K q (.a x.1 en.a::.o x.2 en.o::l)
theorem Ib{x:AO}{r:List AO}{K:List Ent}{q:Nat}{its:List It}(e:Ds (x::r) K q=some its):PrI x r K q its:=by
  unfold Ds at e
  cases h1:nth K (q % B) with
  | none=>rw [h1] at e;cases e
  | some en=>
   rw [h1] at e
   dsimp only at e
   cases h2:Ds r K (q / B) with
   | none=>rw [h2] at e;cases e
   | some l=>
    rw [h2] at e
    cases e
    exact ⟨en,l,h1,h2⟩
inductive UpI (x:AO)(r:List AO)(K:List Ent)(q:Nat):List It->List Ent->Prop
 | mk (en:Ent)(l:List It)(K1:List Ent)(h1:nth K (q % B)=some en)(h3:en.w=true)(h2:Gs r (Ha K (q % B) ⟨en.a,x.2,true,en.f⟩) (q / B)=some (l,K1)):UpI x r K q (.a x.1 en.a::l) K1
theorem Ox{x:AO}{r:List AO}{K K':List Ent}{q:Nat}{its:List It}(e:Gs (x::r) K q=some (its,K')):UpI x r K q its K':=by
  unfold Gs at e
  cases h1:nth K (q % B) with
  | none=>rw [h1] at e;cases e
  | some en=>
   rw [h1] at e
   dsimp only at e
   cases h3:en.w with
   | false=>rw [h3] at e;cases e
   | true=>
    rw [h3] at e
    dsimp only at e
    cases h2:Gs r (Ha K (q % B) ⟨en.a,x.2,true,en.f⟩) (q / B) with
    | none=>rw [h2] at e;cases e
    | some l=>
     obtain ⟨l,K1⟩:=l
     rw [h2] at e
     cases e
     exact ⟨en,l,_,h1,h3,h2⟩
theorem He{K:List Ent}:∀ {l:List AO}{q:Nat}{its:List It},Ds l K q=some its->(∀ i∈its,i.ok)->∀ p∈l,∃ e∈K,p=(e.a,e.o)
 | [],_,_,_,_,_,hp=>nomatch hp
 | x::r,q,its,e,hok,p,hp=>by
  obtain ⟨en,l,h1,h2⟩:=Ib e
  rcases mcm hp with rfl|hp
  ·have a1:p.1=en.a:=hok _ (.head _)
   have a2:p.2=en.o:=hok _ (.tail _ (.head _))
   exact ⟨en,Dd h1,by rw [←a1,←a2]⟩
  ·exact He h2 (λi hi=>hok i (.tail _ (.tail _ hi))) p hp
theorem nth_ne{K:List Ent}:∀ {i j:Nat}{e e':Ent},(K.map (·.a)).Nodup->nth K i=some e->nth K j=some e'->i≠j->e.a≠e'.a:=by
 induction K with
 | nil=>intro i j e e' _ h;cases h
 | cons x r ih=>
  intro i j e e' hn h1 h2 hij
  rw [List.map_cons,List.nodup_cons] at hn
  cases i with
  | zero=>
   cases h1
   cases j with
   | zero=>exact absurd rfl hij
   | succ j=>
    have h2:nth r j=some e':=h2
    exact λz=>hn.1 (z▸List.mem_map_of_mem (f:=(·.a)) (Dd h2))
  | succ i=>
   have h1:nth r i=some e:=h1
   cases j with
   | zero=>
    cases h2
    exact λz=>hn.1 (z▸List.mem_map_of_mem (f:=(·.a)) (Dd h1))
   | succ j=>exact ih hn.2 h1 h2 λz=>hij (congrArg (·+1) z)
theorem Wg{j:Nat}:∀ {l:List Nat},Yb j l=true->∀ x∈l,x≠j
 | [],_,_,hx=>nomatch hx
 | y::r,h,x,hx=>by
  unfold Yb at h
  cases q:Nat.beq y j with
  | true=>rw [q] at h;cases h
  | false=>
   rw [q] at h
   rcases mcm hx with rfl|hx
   ·exact λz=>by rw [z,Nat.beq_refl] at q;cases q
   ·exact Wg h x hx
theorem Sg{K:List Ent}:∀ {l:List AO}{q:Nat}{its:List It},Ds l K q=some its->(∀ i∈its,i.ok)->∀ p∈l,∃ j∈digs l.length q,∃ e,nth K j=some e/\p.1=e.a
 | [],_,_,_,_,_,hp=>nomatch hp
 | x::r,q,its,e,hok,p,hp=>by
  obtain ⟨en,l,h1,h2⟩:=Ib e
  rcases mcm hp with rfl|hp
  ·exact ⟨q % B,.head _,en,h1,hok _ (.head _)⟩
  ·obtain ⟨j,hj,z⟩:=Sg h2 (λi hi=>hok i (.tail _ (.tail _ hi))) p hp
   exact ⟨j,.tail _ hj,z⟩
theorem Jr{K:List Ent}(hn:(K.map (·.a)).Nodup):∀ {l:List AO}{q:Nat}{its:List It},Ds l K q=some its->(∀ i∈its,i.ok)->Ea (digs l.length q)=true->(l.map (·.1)).Nodup
 | [],_,_,_,_,_=>List.nodup_nil
 | x::r,q,its,e,hok,hd=>by
  obtain ⟨en,l,h1,h2⟩:=Ib e
  have hd':(match Yb (q % B) (digs r.length (q / B)) with|true=>Ea (digs r.length (q / B))|false=>false)=true:=hd
  cases h3:Yb (q % B) (digs r.length (q / B)) with
  | false=>rw [h3] at hd';cases hd'
  | true=>
   rw [h3] at hd'
   have hok':∀ i∈l,i.ok:=λi hi=>hok i (.tail _ (.tail _ hi))
   rw [List.map_cons,List.nodup_cons]
   refine ⟨λhm=>?_,Jr hn h2 hok' hd'⟩
   obtain ⟨p,hp,z⟩:=mmp hm
   obtain ⟨j,hj,e',h4,h5⟩:=Sg h2 hok' p hp
   have h6:x.1=en.a:=hok _ (.head _)
   exact nth_ne hn h4 h1 (Wg h3 j hj) (h5.symm.trans (z.trans h6))
theorem Rt:∀ {l:List AO}{K K':List Ent}{q:Nat}{its:List It},(K.map (·.a)).Nodup->Gs l K q=some (its,K')->(∀ i∈its,i.ok)->
  K'.map (·.a)=K.map (·.a)/\(∀ e∈K',(e∈K/\∀ p∈l,p.1≠e.a)\/(e.w=true/\(e.a,e.o)∈l/\∃ e'∈K,e'.a=e.a/\e'.f=e.f))/\∀ p∈l,∃ e∈K,e.a=p.1/\e.w=true
 | [],K,K',_,_,_,e,_=>by
  cases e
  exact ⟨rfl,λe he=>.inl ⟨he,λ_ hp=>(nomatch hp)⟩,λ_ hp=>(nomatch hp)⟩
 | x::r,K,K',q,its,hn,e,hok=>by
  obtain ⟨en,l,K1,h1,h3,h2⟩:=Ox e
  have a1:x.1=en.a:=hok _ (.head _)
  have hn':((Ha K (q % B) ⟨en.a,x.2,true,en.f⟩).map (·.a)).Nodup:=by rw [Kl h1];exact hn
  obtain ⟨b1,b2,b3⟩:=Rt hn' h2 λi hi=>hok i (.tail _ hi)
  refine ⟨b1.trans (Kl h1),λe he=>?_,λp hp=>?_⟩
  ·rcases b2 e he with ⟨c1,c2⟩|⟨c1,c2,e',d1,d2,d3⟩
   ·rcases Fu hn h1 c1 with rfl|⟨c3,c4⟩
    ·exact .inr ⟨rfl,by rw [←a1];exact .head _,en,Dd h1,rfl,rfl⟩
    ·refine .inl ⟨c3,λp hp=>?_⟩
     rcases mcm hp with rfl|hp
     ·rw [a1];exact λz=>c4 z.symm
     ·exact c2 p hp
   ·refine .inr ⟨c1,.tail _ c2,?_⟩
    rcases Fu hn h1 d1 with rfl|⟨d4,_⟩
    ·exact ⟨en,Dd h1,d2,d3⟩
    ·exact ⟨e',d4,d2,d3⟩
  ·rcases mcm hp with rfl|hp
   ·exact ⟨en,Dd h1,a1.symm,h3⟩
   ·obtain ⟨e,c1,c2,c3⟩:=b3 p hp
    rcases Fu hn h1 c1 with rfl|⟨c4,_⟩
    ·exact ⟨en,Dd h1,c2,h3⟩
    ·exact ⟨e,c4,c2,c3⟩
theorem Ew{e:Ent}:∀ {l:List AO}{K:List Ent},e∈Pr l K->(e.w=true/\(e.a,e.o)∈l)\/e∈K
 | [],_,h=>.inr h
 | x::r,K,h=>by
  rcases Ew (l:=r) h with ⟨h1,h2⟩|h
  ·exact .inl ⟨h1,.tail _ h2⟩
  ·rcases mcm h with rfl|h
   ·exact .inl ⟨rfl,.head _⟩
   ·exact .inr h
theorem Lk:∀ {l:List AO}{K:List Ent},(l.map (·.1)).Nodup->(K.map (·.a)).Nodup->(∀ p∈l,∀ e∈K,p.1≠e.a)->((Pr l K).map (·.a)).Nodup
 | [],_,_,h,_=>h
 | x::r,K,h1,h2,h3=>by
  rw [List.map_cons,List.nodup_cons] at h1
  refine Lk (l:=r) h1.2 ?_ λp hp e he=>?_
  ·rw [List.map_cons,List.nodup_cons]
   refine ⟨λhm=>?_,h2⟩
   obtain ⟨e,he,z⟩:=mmp hm
   exact h3 x (.head _) e he z.symm
  ·rcases mcm he with rfl|he
   ·intro z
    have z:p.1=x.1:=z
    exact h1.1 (z▸List.mem_map_of_mem (f:=(·.1)) hp)
   ·exact h3 p (.tail _ hp) e he
theorem Rep.contract{K K':List Ent}{h h':Heap}(D:Rep V.stat W h₀ h K X N){upd post L:List AO}{q:Nat}{its:List It}(hu:Gs upd K q=some (its,K'))(hok:∀ i∈its,i.ok)
  (h1:Be h h')(h2:∀ b o,h.get? b=some o->(∀ p∈upd,p.1≠b)->h'.get? b=some o)(h3:∀ p∈upd,h'.get? p.1=some p.2)
  (h4:∀ p∈post++L,h'.get? p.1=some p.2/\h.get? p.1=none)(h5:((post++L).map (·.1)).Nodup):Rep V.stat W h₀ h' (Pr post K') (X++L) (N++L):=by
 obtain ⟨b1,b2,b3⟩:=Rt D.nod hu hok
 have key:∀ e∈K',∃ e'∈K,e'.a=e.a:=λe he=>by
  have:e.a∈K'.map (·.a):=List.mem_map_of_mem he
  rw [b1] at this
  exact mmp this
 rw [List.map_append,List.nodup_append] at h5
 obtain ⟨h5,h6,h7⟩:=h5
 have hp4:∀ p∈post,h'.get? p.1=some p.2/\h.get? p.1=none:=λp hp=>h4 p (mai (hp))
 have hl4:∀ p∈L,h'.get? p.1=some p.2/\h.get? p.1=none:=λp hp=>h4 p (maj (hp))
 have stNew:∀ {a:Addr},h.get? a=none->V.stat a=none:=λ{a} ha=>by
  cases q:V.stat a with
  | none=>rfl
  | some o'=>have:=D.stat _ _ q;rw [ha] at this;cases this
 refine ⟨λb o eb=>?_,λe hm=>?_,λp hp=>?_,?_,?_,λe hm p hp=>?_,λe hm=>?_,λp hp=>?_,λe hm hw=>?_,λb o eb hb=>?_,D.size.trans h1,λe hm hf=>?_,λp hp=>?_,?_⟩
 ·refine h2 b o (D.stat b o eb) λp hp z=>?_
  obtain ⟨e,he,c1,_⟩:=b3 p hp
  have:=D.new e he
  rw [c1,z,eb] at this;cases this
 ·rcases Ew hm with ⟨_,hm⟩|hm
  ·exact (hp4 _ hm).1
  ·rcases b2 e hm with ⟨c1,c2⟩|⟨_,c2,_⟩
   ·exact h2 e.a e.o (D.own e c1) c2
   ·exact h3 _ c2
 ·rcases List.mem_append.mp hp with hp|hp
  ·refine h2 p.1 p.2 (D.ownX p hp) λq hq z=>?_
   obtain ⟨e,he,c1,_⟩:=b3 q hq
   exact D.apart e he p hp (c1.trans z)
  ·exact (hl4 p hp).1
 ·refine Lk h5 (b1▸D.nod) λp hp e he z=>?_
  obtain ⟨e',c1,c2⟩:=key e he
  have:=D.own e' c1
  rw [c2,←z,(hp4 p hp).2] at this
  cases this
 ·rw [List.map_append,List.nodup_append]
  refine ⟨D.nodX,h6,λa ha b hb z=>?_⟩
  obtain ⟨p,hp,rfl⟩:=mmp ha
  obtain ⟨q,hq,rfl⟩:=mmp hb
  have:=D.ownX p hp
  have z:p.1=q.1:=z
  rw [z,(hl4 q hq).2] at this
  cases this
 ·rcases Ew hm with ⟨_,hm⟩|hm
  ·rcases List.mem_append.mp hp with hp|hp
   ·have:=D.ownX p hp
    have h8:=(hp4 _ hm).2
    intro z
    have h8:h.get? e.a=none:=h8
    rw [z,this] at h8
    cases h8
   ·exact h7 _ (List.mem_map_of_mem (f:=(·.1)) hm) _ (List.mem_map_of_mem (f:=(·.1)) hp)
  ·obtain ⟨e',c1,c2⟩:=key e hm
   rcases List.mem_append.mp hp with hp|hp
   ·rw [←c2];exact D.apart e' c1 p hp
   ·have:=D.own e' c1
    intro z
    rw [c2,z,(hl4 p hp).2] at this
    cases this
 ·rcases Ew hm with ⟨_,hm⟩|hm
  ·exact stNew (hp4 _ hm).2
  ·obtain ⟨e',c1,c2⟩:=key e hm
   rw [←c2];exact D.new e' c1
 ·rcases List.mem_append.mp hp with hp|hp
  ·exact D.newX p hp
  ·exact stNew (hl4 p hp).2
 ·rcases Ew hm with ⟨_,hm⟩|hm
  ·exact .inr (D.size.none (hp4 _ hm).2)
  ·rcases b2 e hm with ⟨c1,_⟩|⟨_,c2,_⟩
   ·exact D.wr e c1 hw
   ·obtain ⟨e',d1,d2,d3⟩:=b3 _ c2
    have d2:e'.a=e.a:=d2
    rw [←d2];exact D.wr e' d1 d3
 ·refine h2 b o (D.old b o eb hb) λp hp z=>?_
  obtain ⟨e,he,c1,c2⟩:=b3 p hp
  have hz:e.a=b:=c1.trans z
  rcases D.wr e he c2 with y|y
  ·exact hb (hz▸y)
  ·rw [hz,eb] at y;cases y
 ·rcases Ew hm with ⟨_,hm⟩|hm
  ·exact D.size.none (hp4 _ hm).2
  ·rcases b2 e hm with ⟨c1,_⟩|⟨_,_,e',d1,d2,d3⟩
   ·exact D.fr e c1 hf
   ·rw [←d2];exact D.fr e' d1 (d3.trans hf)
 ·rcases List.mem_append.mp hp with hp|hp
  ·exact D.frN p hp
  ·exact D.size.none (hl4 p hp).2
 ·obtain ⟨X₀,e⟩:=D.suf
  exact ⟨X₀,by rw [e,List.append_assoc]⟩
theorem Dc{K:List Ent}:∀ {l:List AO}{q:Nat}{its:List It},Ds l K q=some its->∀ i∈its,i.isE=false
 | [],_,_,e,i,hi=>by cases e;cases hi
 | x::r,q,its,e,i,hi=>by
  obtain ⟨en,l,h1,h2⟩:=Ib e
  rcases mcm hi with rfl|hi
  ·rfl
  ·rcases mcm hi with rfl|hi
   ·rfl
   ·exact Dc h2 i hi
theorem Iw:∀ {l:List AO}{K K':List Ent}{q:Nat}{its:List It},Gs l K q=some (its,K')->∀ i∈its,i.isE=false
 | [],_,_,_,_,e,i,hi=>by cases e;cases hi
 | x::r,K,K',q,its,e,i,hi=>by
  obtain ⟨en,l,K1,h1,h3,h2⟩:=Ox e
  rcases mcm hi with rfl|hi
  ·rfl
  ·exact Iw h2 i hi

end

noncomputable def Af5(y:ConX)(nw:Nat->Addr)(tks:Nat->Tok)(L:List AO):Prop:=match y with
 | .plain _=>L=[]
 | .framed _ _ _=>L=[]
 | .full _ _ al=>al nw tks L
noncomputable def needOf(y:ConX)(fr:Option (List Env))(X:List AO):Prop:=match y with
 | .plain _=>True
 | .framed l _ nd=>some l=fr/\nd X
 | .full _ nd _=>nd X
theorem Sz{V:SV}{R₀:Result->Shared->Prop}{W:List Addr}{h₀:Heap}{g:Array GenState}{d:Drawn}{os:OsState}{y:ConX}{fr:Option (List Env)}{nw:Nat->Addr}{tks:Nat->Tok}{r:Out}{X N:List AO}(H:Good V R₀ W h₀ g d os X N (evOf y fr nw tks r)) :
  needOf y fr X/\∀ L,Af5 y nw tks L->Good V R₀ W h₀ g d os (X++L) (N++L) r:=by
 cases y with
 | plain x=>exact ⟨trivial,λL e=>by cases (e:L=[]);rw [List.append_nil,List.append_nil];exact H⟩
 | framed l x nd=>exact ⟨⟨H.1,H.2.1⟩,H.2.2⟩
 | full x nd al=>exact H
theorem Kt{a b:String}(h:eqS a b=true):a=b:=by
 unfold eqS at h
 split at h
 ·assumption
 ·cases h
theorem Hp{c c':Code}{l:List It}(h:Gm c c'=some l):∀ i∈l,i.isE=false:=by
 have one:∀ {l:List It},some [It.c c c']=some l->∀ i∈l,i.isE=false:=λe i hi=>by
  cases e
  rcases mcm hi with rfl|hi
  ·rfl
  ·cases hi
 have two:∀ {a a':Args}{l:List It},some [It.g a a']=some l->∀ i∈l,i.isE=false:=λe i hi=>by
  cases e
  rcases mcm hi with rfl|hi
  ·rfl
  ·cases hi
 unfold Gm at h
 repeat' (split at h)
 all_goals first|exact one h|exact two h|cases h
theorem Pm{c c':Code}{l:List It}(h:Gm c c'=some l)(hok:∀ i∈l,i.ok):c=c':=by
 have one:∀ {l:List It},some [It.c c c']=some l->(∀ i∈l,i.ok)->c=c':=λe hok=>by
  cases e;exact hok _ (.head _)
 unfold Gm at h
 split at h
 ·split at h
  ·split at h
   ·split at h
    ·split at h
     ·rename_i e
      cases h
      have:_=_:=hok _ (.head _)
      rw [Kt e,this]
     ·cases h
    ·cases h
   ·cases h
  ·exact one h hok
 ·split at h
  ·split at h
   ·rename_i e
    cases h
    have:_=_:=hok _ (.head _)
    rw [Kt e,this]
   ·cases h
  ·cases h
 ·exact one h hok
noncomputable abbrev Hv(m:Nat)(al al':Nat->Nat):Prop:=∀ j,j < m->al' j=al j
theorem Ac3{a b:Nat}(h:Nat.blt a b=true):a < b:=Nat.le_of_ble_eq_true h
theorem Td{m:Nat}{al al':Nat->Nat}(h:Hv m al al'):cut m al'=cut m al:=by
 funext j
 unfold cut
 cases q:Nat.blt j m with
 | true=>exact h j (Ac3 q)
 | false=>rfl
theorem cut_eq{n m:Nat}{f nw:Nat->Nat}(h:∀ j,j < n->f (m+j)=nw j):cut n (λj=>f (m+j))=cut n nw:=by
 funext j
 unfold cut
 cases q:Nat.blt j n with
 | true=>exact h j (Ac3 q)
 | false=>rfl
section
variable {V:SV}{al:Nat->Addr}{tk:Nat->Tok}{ih:Cont}{c c':Code}{κ:Ko}{K:List Ent}{m i q:Nat}{Gd:Out->Prop}
theorem g0(hq:q % B=0):Ej V al tk ih c' κ K m i q=ih c' κ (V.den c') K m i (q / B):=by unfold Ej;rw [hq]
theorem g2n{j:Nat}(hq:q % B=j+1+1)(hx:nth V.cons j=none):Ej V al tk ih c' κ K m i q=.nil (.cut c' κ K m i (q / B)):=by unfold Ej;rw [hq];show (match nth V.cons j with|some f=>_|none=>_)=_;rw [hx]
theorem g2s{j:Nat}{f:CF}(hq:q % B=j+1+1)(hx:nth V.cons j=some f):Ej V al tk ih c' κ K m i q=Nh V al tk ih c' (f (cut m al) (cut i tk) c') (f (cut m al) (cut i tk) c').con κ K m i q:=by
 unfold Ej;rw [hq];show (match nth V.cons j with|some f=>_|none=>_)=_;rw [hx]
theorem g1(hq:q % B=0+1)(hs:∀ n,¬ Gd (stuck n))(H:Gd (Ej V al tk ih c' κ K m i q)):∃ a args o fd,c'=.call (.ref a) args/\V.stat a=some o/\o.data=.func fd/\okFd fd=true/\Nat.blt (depK κ) V.room=true:=by
 unfold Ej at H
 rw [hq] at H
 cases c' with
 | call f args=>
  cases f with
  | ref a=>
   have H:Gd (match V.stat a with|some o=>_|none=>stuck 7):=H
   cases ho:V.stat a with
   | none=>rw [ho] at H;exact (hs _ H).elim
   | some o=>
    rw [ho] at H
    have H:Gd (match o.data with|.func fd=>_ | _=>stuck 6):=H
    cases hd:o.data with
    | func fd=>
     rw [hd] at H
     have H:Gd (match okFd fd && Nat.blt (depK κ) V.room with|true=>_|false=>stuck 5):=H
     cases hb:okFd fd && Nat.blt (depK κ) V.room with
     | false=>rw [hb] at H;exact (hs _ H).elim
     | true=>
      obtain ⟨hk,hr⟩:=Bool.and_eq_true_iff.mp hb
      exact ⟨a,args,o,fd,rfl,ho,hd,hk,hr⟩
    | _=>rw [hd] at H;exact (hs _ H).elim
  | _=>exact (hs _ H).elim
 | _=>exact (hs _ H).elim
theorem g1e{a:Addr}{args:Args}{o:Obj}{fd:FuncData}(hq:q % B=0+1)(ho:V.stat a=some o)(hd:o.data=.func fd)(hk:okFd fd=true)(hr:Nat.blt (depK κ) V.room=true) :
  Ej V al tk ih (.call (.ref a) args) κ K m i q=ih (.call (.ref a) args) κ (V.ct a fd args) K m i (q / B):=by
 unfold Ej
 rw [hq]
 show (match V.stat a with|some o=>_|none=>stuck 7)=_
 rw [ho]
 show (match o.data with|.func fd=>_ | _=>stuck 6)=_
 rw [hd]
 show (match okFd fd && Nat.blt (depK κ) V.room with|true=>_|false=>stuck 5)=_
 rw [hk,hr]
 rfl
theorem s_ag(h:c'.quiet=true):step V al tk ih c κ (.pure (.again c')) K m i q=Ej V al tk ih c' κ K m i q:=by
 show (match c'.quiet with|true=>_|false=>stuck 20)=_
 rw [h]
theorem s_agn(h:c'.quiet=false):step V al tk ih c κ (.pure (.again c')) K m i q=stuck 20:=by
 show (match c'.quiet with|true=>_|false=>stuck 20)=_
 rw [h]
noncomputable def rdI(V:SV)(ih:Obj->Nat->Out)(a:Addr)(K:List Ent)(q:Nat):Out:=match q % B with
 | 0=>match V.stat a with
  | some o=>ih o (q / B)
  | none=>stuck 1
 | j+1=>match nth K j with
  | some e=>.cons (.a a e.a) (ih e.o (q / B))
  | none=>stuck 2
theorem rd0{ih:Obj->Nat->Out}{a:Addr}{o:Obj}(hq:q % B=0)(ho:V.stat a=some o):rdI V ih a K q=ih o (q / B):=by
 unfold rdI
 rw [hq]
 show (match V.stat a with|some o=>_|none=>stuck 1)=_
 rw [ho]
theorem rd1{ih:Obj->Nat->Out}{a:Addr}{e:Ent}{j:Nat}(hq:q % B=j+1)(hn:nth K j=some e):rdI V ih a K q=.cons (.a a e.a) (ih e.o (q / B)):=by
 unfold rdI
 rw [hq]
 show (match nth K j with|some e=>_|none=>stuck 2)=_
 rw [hn]
theorem rdC{ih:Obj->Nat->Out}{a:Addr}(hs:∀ n,¬ Gd (stuck n))(H:Gd (rdI V ih a K q)):(∃ o,q % B=0/\V.stat a=some o)\/∃ j e,q % B=j+1/\nth K j=some e/\∃ r,Gd (.cons (.a a e.a) r):=by
 unfold rdI at H
 cases hq:q % B with
 | zero=>
  rw [hq] at H
  have H:Gd (match V.stat a with|some o=>_|none=>stuck 1):=H
  cases ho:V.stat a with
  | none=>rw [ho] at H;exact (hs _ H).elim
  | some o=>exact .inl ⟨o,rfl,rfl⟩
 | succ j=>
  rw [hq] at H
  have H:Gd (match nth K j with|some e=>_|none=>stuck 2):=H
  cases hn:nth K j with
  | none=>rw [hn] at H;exact (hs _ H).elim
  | some e=>rw [hn] at H;exact .inr ⟨j,e,rfl,hn,_,H⟩
theorem s_ld{a:Addr}{p:Option Value}{k:Obj->Sem Fin}(hs:∀ n,¬ Gd (stuck n))(H:Gd (step V al tk ih c κ (.load a p k) K m i q)):(∃ o,q % B=0/\V.stat a=some o)\/∃ j e,q % B=j+1/\nth K j=some e/\∃ r,Gd (.cons (.a a e.a) r):=rdC (ih:=λo q=>ih c κ (k o) K m i q) hs H
theorem s_ld0{a:Addr}{p:Option Value}{k:Obj->Sem Fin}{o:Obj}(hq:q % B=0)(ho:V.stat a=some o):step V al tk ih c κ (.load a p k) K m i q=ih c κ (k o) K m i (q / B):=rd0 (ih:=λo q=>ih c κ (k o) K m i q) hq ho
theorem s_ld1{a:Addr}{p:Option Value}{k:Obj->Sem Fin}{e:Ent}{j:Nat}(hq:q % B=j+1)(hn:nth K j=some e):step V al tk ih c κ (.load a p k) K m i q=.cons (.a a e.a) (ih c κ (k e.o) K m i (q / B)):=rd1 (ih:=λo q=>ih c κ (k o) K m i q) hq hn
theorem s_la{a:Addr}{k:Option Obj->Sem Fin}(hs:∀ n,¬ Gd (stuck n))(H:Gd (step V al tk ih c κ (.loadIfAlive a k) K m i q)):(∃ o,q % B=0/\V.stat a=some o)\/∃ j e,q % B=j+1/\nth K j=some e/\∃ r,Gd (.cons (.a a e.a) r):=rdC (ih:=λo q=>ih c κ (k (some o)) K m i q) hs H
theorem s_la0{a:Addr}{k:Option Obj->Sem Fin}{o:Obj}(hq:q % B=0)(ho:V.stat a=some o):step V al tk ih c κ (.loadIfAlive a k) K m i q=ih c κ (k (some o)) K m i (q / B):=rd0 (ih:=λo q=>ih c κ (k (some o)) K m i q) hq ho
theorem s_la1{a:Addr}{k:Option Obj->Sem Fin}{e:Ent}{j:Nat}(hq:q % B=j+1)(hn:nth K j=some e):step V al tk ih c κ (.loadIfAlive a k) K m i q=.cons (.a a e.a) (ih c κ (k (some e.o)) K m i (q / B)):=rd1 (ih:=λo q=>ih c κ (k (some o)) K m i q) hq hn
theorem s_al{o:Obj}{k:Addr->Sem Fin}(h:o.isFreed=false):step V al tk ih c κ (.alloc o k) K m i q=ih c κ (k (al m)) (⟨al m,o,true,true⟩::K) (m+1) i q:=by
 show (match o.isFreed with|true=>stuck 3|false=>_)=_
 rw [h]
theorem s_aln{o:Obj}{k:Addr->Sem Fin}(h:o.isFreed=true):step V al tk ih c κ (.alloc o k) K m i q=stuck 3:=by
 show (match o.isFreed with|true=>stuck 3|false=>_)=_
 rw [h]
theorem s_upe{a:Addr}{p:Option Value}{f:Obj->Obj}{k:Unit->Sem Fin}{e:Ent}(hn:nth K (q % B)=some e)(hw:e.w=true)(hf:(f e.o).isFreed=false):step V al tk ih c κ (.update a p f k) K m i q=.cons (.a a e.a) (ih c κ (k ()) (Ha K (q % B) ⟨e.a,f e.o,true,e.f⟩) m i (q / B)):=by
 show (match nth K (q % B) with|some e=>_|none=>stuck 4)=_
 rw [hn]
 show (match e.w && !(f e.o).isFreed with|true=>_|false=>stuck 3)=_
 rw [hw,hf]
 rfl
theorem s_up{a:Addr}{p:Option Value}{f:Obj->Obj}{k:Unit->Sem Fin}(hs:∀ n,¬ Gd (stuck n))(H:Gd (step V al tk ih c κ (.update a p f k) K m i q)):∃ e,nth K (q % B)=some e/\e.w=true/\(f e.o).isFreed=false/\∃ r,Gd (.cons (.a a e.a) r):=by
 have H:Gd (match nth K (q % B) with|some e=>_|none=>stuck 4):=H
 cases hn:nth K (q % B) with
 | none=>rw [hn] at H;exact (hs _ H).elim
 | some e=>
  rw [hn] at H
  have H:Gd (match e.w && !(f e.o).isFreed with|true=>_|false=>stuck 3):=H
  cases hw:e.w with
  | false=>rw [hw] at H;exact (hs _ H).elim
  | true=>
   cases hf:(f e.o).isFreed with
   | true=>rw [hw,hf] at H;exact (hs _ H).elim
   | false=>rw [hw,hf] at H;exact ⟨e,rfl,hw,hf,_,H⟩
theorem s_cl{hd:Option Value}{gd:Bool}{l:List Value}{k:Result->Sem Fin}(h:okMark hd=true):step V al tk ih c κ (.call c' hd gd l k) K m i q=Ej V al tk ih c' (.ret c hd k κ) K m i q:=by
 show (match okMark hd with|true=>_|false=>stuck 22)=_
 rw [h]
theorem s_cln{hd:Option Value}{gd:Bool}{l:List Value}{k:Result->Sem Fin}(h:okMark hd=false):step V al tk ih c κ (.call c' hd gd l k) K m i q=stuck 22:=by
 show (match okMark hd with|true=>_|false=>stuck 22)=_
 rw [h]
end
noncomputable def csT(ih:Cont)(nw:Nat->Addr)(tks:Nat->Tok)(x:Con)(κ:Ko)(K':List Ent)(m i q:Nat):Out:=retK ih (x.res nw tks) κ (Pr (x.post nw tks) K') (m+x.n) (i+x.nt) (adv x.upd.length (adv x.pre.length (q / B)))
noncomputable def csO(V:SV)(ih:Cont)(nw:Nat->Addr)(tks:Nat->Tok)(y:ConX)(x:Con)(κ:Ko)(K':List Ent)(m i q:Nat):Out:=evOf y (Bu V.A₀ κ).frames nw tks (csT ih nw tks x κ K' m i q)
inductive CSI (Gd:Out->Prop)(V:SV)(ih:Cont)(c':Code)(y:ConX)(x:Con)(κ:Ko)(K:List Ent)(m i q:Nat)(nw:Nat->Addr)(tks:Nat->Tok):Prop
 | mk (l l':List It)(K':List Ent)(l0:List It)(h1:Abt V.A₀ κ=true)(h2:Nat.ble (depK κ+x.deep) V.room=true)(h3:Nat.ble (unK κ+20 * x.deep) (20 * V.room)=true)(h4:Ea (digs x.pre.length (q / B))=true)
  (hp:Ds x.pre K (q / B)=some l)(hu:Gs (Ce x.upd tks) K (adv x.pre.length (q / B))=some (l',K'))(hco:Gm c' x.code=some l0)
  (hg:Gd (conses l0 (conses l (conses l' (csO V ih nw tks y x κ K' m i q))))):CSI Gd V ih c' y x κ K m i q nw tks
theorem Ut{Gd:Out->Prop}(hs:∀ n,¬ Gd (stuck n)){V:SV}{al:Nat->Addr}{tk:Nat->Tok}{ih:Cont}{c':Code}{y:ConX}{x:Con}{κ:Ko}{K:List Ent}{m i q:Nat}(H:Gd (Nh V al tk ih c' y x κ K m i q)) :
  CSI Gd V ih c' y x κ K m i q (cut x.n λj=>al (m+j)) (cut x.nt λj=>tk (i+j)):=by
 unfold Nh at H
 cases hb:Abt V.A₀ κ && Nat.ble (depK κ+x.deep) V.room && Nat.ble (unK κ+20 * x.deep) (20 * V.room) && Ea (digs x.pre.length (q / B)) with
 | false=>rw [hb] at H;exact (hs _ H).elim
 | true=>
  rw [hb] at H
  cases hp:Ds x.pre K (q / B) with
  | none=>rw [hp] at H;exact (hs _ H).elim
  | some l=>
   rw [hp] at H
   cases hu:Gs (Ce x.upd (cut x.nt λj=>tk (i+j))) K (adv x.pre.length (q / B)) with
   | none=>rw [hu] at H;exact (hs _ H).elim
   | some lk=>
    obtain ⟨l',K'⟩:=lk
    rw [hu] at H
    cases hco:Gm c' x.code with
    | none=>rw [hco] at H;exact (hs _ H).elim
    | some l0=>
     rw [hco] at H
     obtain ⟨hb',h4⟩:=Bool.and_eq_true_iff.mp hb
     obtain ⟨hb',h3⟩:=Bool.and_eq_true_iff.mp hb'
     obtain ⟨h1,h2⟩:=Bool.and_eq_true_iff.mp hb'
     exact ⟨l,l',K',l0,h1,h2,h3,h4,hp,hu,hco,H⟩
theorem Act{L:List (Addr × ((Nat->Tok)->Obj))}{tk:Nat->Tok}:(Ce L tk).map (·.1)=L.map (·.1):=by
 induction L with
 | nil=>rfl
 | cons x r ih=>show _::_=_::_;rw [ih]
theorem ltA{al nw:Nat->Nat}{m n:Nat}{al':Nat->Nat}(h:Hv (m+n) (λj=>if j < m then al j else nw (j - m)) al'):cut n (λj=>al' (m+j))=cut n nw/\Hv m al al':=by
 refine ⟨cut_eq λj hj=>?_,λj hj=>?_⟩
 ·rw [h (m+j) (by omega)]
  show (if m+j < m then al (m+j) else nw (m+j - m))=nw j
  rw [if_neg (by omega),Nat.add_sub_cancel_left]
 ·rw [h j (by omega)]
  show (if j < m then al j else nw (j - m))=al j
  rw [if_pos hj]
section
variable {V:SV}{R₀:Result->Shared->Prop}{W:List Addr}{h₀:Heap}{g:Array GenState}{d:Drawn}{os:OsState}
 (O:V.Ok)(ih:(Nat->Addr)->(Nat->Tok)->Cont)
 (IH:∀ X N c κ t K m i q al tk h ts,(∀ al' tk',Hv m al al'->Hv i tk tk'->Good V R₀ W h₀ g d os X N (ih al' tk' c κ t K m i q))->Rep V.stat W h₀ h K X N->Nu V R₀ c κ t ⟨h,g,d,ts,os⟩)
include IH
theorem Kp{X N:List AO}{r:Result}{κ:Ko}{K:List Ent}{m i q:Nat}{al:Nat->Addr}{tk:Nat->Tok}{h:Heap}{ts:Nat}
  (H:∀ al' tk',Hv m al al'->Hv i tk tk'->Good V R₀ W h₀ g d os X N (retK (ih al' tk') r κ K m i q))(D:Rep V.stat W h₀ h K X N):endK V R₀ κ r ⟨h,g,d,ts,os⟩:=by
 cases κ with
 | base=>exact H al tk (λ_ _=>rfl) (λ_ _=>rfl) h ts D
 | ret c hd k κ=>exact IH _ _ _ _ _ _ _ _ _ al tk h ts H D
include O
theorem Rh{X N:List AO}{c':Code}{y:ConX}{κ:Ko}{K:List Ent}{m i q:Nat}{al:Nat->Addr}{tk:Nat->Tok}{h:Heap}{ts:Nat}(hv:y.Valid V.w V.stat)
  (H:∀ al' tk',Hv m al al'->Hv i tk tk'->Good V R₀ W h₀ g d os X N (Nh V al' tk' (ih al' tk') c' y y.con κ K m i q))(D:Rep V.stat W h₀ h K X N) :
  codeAny (model prog V.w) (Bu V.A₀ κ) c' (endK V R₀ κ) ⟨h,g,d,ts,os⟩:=by
 have inv:=λal' tk' g1 g2=>Ut (Gd:=Good V R₀ W h₀ g d os X N) (λ_ h=>h) (H al' tk' g1 g2)
 clear H
 obtain ⟨l,l1,K1,l0,hcl,hr,hu,hdi,hp,hu1,hco,hg⟩:=inv al tk (λ_ _=>rfl) (λ_ _=>rfl)
 obtain ⟨hc,hg⟩:=hg.conses (Hp hco)
 obtain ⟨hl,hg⟩:=hg.conses (Dc hp)
 have hev:=(Sz (hg.conses (Iw hu1)).2).1
 clear hg hu1
 rw [Pm hco hc]
 clear hc
 generalize hx:y.con=x at *
 have hdep:Room (Bu V.A₀ κ) x.deep:=by
  have h1:=Nat.le_of_ble_eq_true hr
  have h2:=Nat.le_of_ble_eq_true hu
  obtain ⟨h3,h4⟩:=O.dep
  have h5:=Jo V.A₀ κ
  refine ⟨?_,by omega⟩
  rw [Gl]
  omega
 have hpre:∀ p∈x.pre,h.get? p.1=some p.2/\V.stat p.1=none:=λp hpm=>by
  obtain ⟨e,he,z⟩:=He hp hl p hpm
  rw [z];exact ⟨D.own e he,D.new e he⟩
 have hap:∀ p∈x.pre,∀ r∈X,p.1≠r.1:=λp hpm r hr z=>by
  obtain ⟨e,he,ze⟩:=He hp hl p hpm
  rw [ze] at z
  exact D.apart e he r hr z
 have hnod:=Jr D.nod hp hl hdi
 -- what is done when the contract is through
 have after:∀ (nw:Nat->Addr)(tks:Nat->Tok)(h':Heap)(t':Nat)(L:List AO),Be h h'->
   (∀ b o,h.get? b=some o->(∀ p∈x.upd,p.1≠b)->h'.get? b=some o)->(∀ p∈Ce x.upd (cut x.nt tks),h'.get? p.1=some p.2)->
   (∀ p∈x.post (cut x.n nw) (cut x.nt tks)++L,h'.get? p.1=some p.2/\h.get? p.1=none)->((x.post (cut x.n nw) (cut x.nt tks)++L).map (·.1)).Nodup->
   Af5 y (cut x.n nw) (cut x.nt tks) L->
   endK V R₀ κ (x.res (cut x.n nw) (cut x.nt tks)) ⟨h',g,d,t',os⟩:=by
  intro nw tks h' t' L a1 a2 a3 a4 a5 a6
  have each:∀ al' tk',Hv (m+x.n) (λj=>if j < m then al j else nw (j - m)) al'->Hv (i+x.nt) (λj=>if j < i then tk j else tks (j - i)) tk'->∃ l' K',Gs (Ce x.upd (cut x.nt tks)) K (adv x.pre.length (q / B))=some (l',K')/\(∀ i∈l',i.ok)/\
    Good V R₀ W h₀ g d os (X++L) (N++L) (csT (ih al' tk') (cut x.n nw) (cut x.nt tks) x κ K' m i q):=λal' tk' f1 f2=>by
   obtain ⟨e1,g1⟩:=ltA f1
   obtain ⟨e2,g2⟩:=ltA f2
   have z:=inv al' tk' g1 g2
   rw [e1,e2] at z
   obtain ⟨l2,l',K',l3,_,_,_,_,hp2,hu2,hco2,hg2⟩:=z
   obtain ⟨hl',hg2⟩:=(((hg2.conses (Hp hco2)).2.conses (Dc hp2)).2.conses (Iw hu2))
   exact ⟨l',K',hu2,hl',(Sz hg2).2 L a6⟩
  obtain ⟨l',K',hu',hl',_⟩:=each _ _ (λ_ _=>rfl) (λ_ _=>rfl)
  have D':=D.contract hu' hl' a1 (λb o hb hne=>a2 b o hb λp hp z=>by
   have hm:p.1∈(Ce x.upd (cut x.nt tks)).map (·.1):=by rw [Act];exact List.mem_map_of_mem hp
   obtain ⟨p',hp',e⟩:=mmp hm
   exact hne p' hp' (e.trans z)) a3 a4 a5
  refine Kp ih IH (al:=λj=>if j < m then al j else nw (j - m)) (tk:=λj=>if j < i then tk j else tks (j - i)) (m:=m+x.n) (i:=i+x.nt) (q:=adv x.upd.length (adv x.pre.length (q / B))) (λal' tk' f1 f2=>?_) D'
  obtain ⟨l2,K2,hu2,_,z⟩:=each al' tk' f1 f2
  rw [hu'] at hu2
  cases hu2
  exact z
 cases y with
 | plain x'=>
  cases (show x'=x from hx)
  exact hv _ _ _ (Hi hcl) hdep D.stat hpre hnod λnw tks h' t' a1 a2 a3 a4 a5=>after nw tks h' t' [] a1 a2 a3 (by rw [List.append_nil];exact a4) (by rw [List.append_nil];exact a5) rfl
 | framed fl x' nd=>
  cases (show x'=x from hx)
  exact hv _ _ _ X (Hi hcl) hev.1.symm hdep D.stat hpre hnod (λp hpx=>⟨D.ownX p hpx,D.newX p hpx⟩) D.nodX hap hev.2 λnw tks h' t' a1 a2 a3 a4 a5=>after nw tks h' t' [] a1 a2 a3 (by rw [List.append_nil];exact a4) (by rw [List.append_nil];exact a5) rfl
 | full x' nd al'=>
  cases (show x'=x from hx)
  exact hv _ _ _ X (Hi hcl) hdep D.stat hpre hnod (λp hpx=>⟨D.ownX p hpx,D.newX p hpx⟩) D.nodX hap hev λnw tks h' t' L a1 a2 a3 a4 a5 a6=>after nw tks h' t' L a1 a2 a3 a4 a5 a6
theorem Hk{X N:List AO}{c':Code}{κ:Ko}{K:List Ent}{m i q:Nat}{al:Nat->Addr}{tk:Nat->Tok}{h:Heap}{ts:Nat}
  (H:∀ al' tk',Hv m al al'->Hv i tk tk'->Good V R₀ W h₀ g d os X N (Ej V al' tk' (ih al' tk') c' κ K m i q))(D:Rep V.stat W h₀ h K X N) :
  codeAny (model prog V.w) (Bu V.A₀ κ) c' (endK V R₀ κ) ⟨h,g,d,ts,os⟩:=by
 have hme:=H al tk (λ_ _=>rfl) (λ_ _=>rfl)
 cases hq:q % B with
 | zero=>
  have z:=IH _ _ _ _ _ _ _ _ _ al tk h ts (λal' tk' g1 g2=>g0 hq▸H al' tk' g1 g2) D
  unfold Nu at z
  rw [O.den] at z
  exact y_code _ _ _ _ _ _ (wpOwn_mono z (λ_ _ x=>x.2) λ_ _ x=>x)
 | succ j=>
  cases j with
  | zero=>
   obtain ⟨a,args,o,fd,rfl,ho,hd,hk,hr⟩:=g1 hq (Gd:=Good V R₀ W h₀ g d os X N) (λ_ h=>h) hme
   clear hme
   have z:=IH _ _ _ _ _ _ _ _ _ al tk h ts (λal' tk' f1 f2=>g1e hq ho hd hk hr▸H al' tk' f1 f2) D
   unfold Nu at z
   rw [O.ct] at z
   refine Abu ?_ (D.stat a o ho) hd hk z
   rw [Gl]
   have:=Ac3 hr
   have:=O.dep.1
   omega
  | succ j=>
   cases hx:nth V.cons j with
   | none=>rw [g2n hq hx] at hme;exact hme h ts D
   | some f=>
    refine Rh O ih IH (y:=f (cut m al) (cut i tk) c') (O.cons f (Dd hx) _ _ c') (al:=al) (tk:=tk) (m:=m) (i:=i) (q:=q) (λal' tk' f1 f2=>?_) D
    have z:=H al' tk' f1 f2
    rw [g2s hq hx,Td f1,Td f2] at z
    exact z
theorem Xg{X N:List AO}{c:Code}{κ:Ko}{t:Sem Fin}{K:List Ent}{m i q:Nat}{al:Nat->Addr}{tk:Nat->Tok}{h:Heap}{ts:Nat}
  (H:∀ al' tk',Hv m al al'->Hv i tk tk'->Good V R₀ W h₀ g d os X N (step V al' tk' (ih al' tk') c κ t K m i q))(D:Rep V.stat W h₀ h K X N):Nu V R₀ c κ t ⟨h,g,d,ts,os⟩:=by
 have hl:=O.lim h D.stat
 cases t with
 | pure fin=>
  cases fin with
  | done f=>exact y_pure _ _ _ _ _ _ _ _ _ ⟨hl,y_done _ _ _ _ _ _ (Kp ih IH H D)⟩
  | again c'=>
   cases hq:c'.quiet with
   | false=>exact (s_agn hq▸H al tk (λ_ _=>rfl) (λ_ _=>rfl):Good V R₀ W h₀ g d os X N (stuck 20)).elim
   | true=>exact y_pure _ _ _ _ _ _ _ _ _ ⟨hl,y_again _ _ _ _ _ _ hq (Hk O ih IH (λal' tk' f1 f2=>s_ag hq▸H al' tk' f1 f2) D)⟩
 | raise e=>exact y_raise _ _ _ _ _ _ _ _ _ (y_err _ _ _ (Kp ih IH H D))
 | rule tag k=>exact y_skim _ _ _ _ _ _ _ _ _ 1 (IH _ _ _ _ _ _ _ _ _ al tk h ts H D)
 | «at» p k=>exact y_skim _ _ _ _ _ _ _ _ _ 1 (IH _ _ _ _ _ _ _ _ _ al tk h ts H D)
 | point l k=>exact y_skim _ _ _ _ _ _ _ _ _ 1 (IH _ _ _ _ _ _ _ _ _ al tk h ts H D)
 | ask k=>exact y_skim _ _ _ _ _ _ _ _ _ 1 (IH _ _ _ _ _ _ _ _ _ al tk h ts H D)
 | load a p k=>
  rcases s_ld (Gd:=Good V R₀ W h₀ g d os X N) (λ_ h=>h) (H al tk (λ_ _=>rfl) (λ_ _=>rfl)) with ⟨o,hq,ho⟩|⟨j,e,hq,hn,r,hg⟩
  ·exact y_load _ _ _ _ _ _ _ _ _ _ _ _ _ _ _ o (D.stat a o ho) (IH _ _ _ _ _ _ _ _ _ al tk h ts (λal' tk' f1 f2=>s_ld0 hq ho▸H al' tk' f1 f2) D)
  ·cases (hg.1:a=e.a)
   exact y_load _ _ _ _ _ _ _ _ _ _ _ _ _ _ _ e.o (D.own e (Dd hn)) (IH _ _ _ _ _ _ _ _ _ al tk h ts (λal' tk' f1 f2=>(s_ld1 hq hn▸H al' tk' f1 f2:Good V R₀ W h₀ g d os X N (.cons (.a e.a e.a) _)).2) D)
 | loadIfAlive a k=>
  rcases s_la (Gd:=Good V R₀ W h₀ g d os X N) (λ_ h=>h) (H al tk (λ_ _=>rfl) (λ_ _=>rfl)) with ⟨o,hq,ho⟩|⟨j,e,hq,hn,r,hg⟩
  ·exact y_alive _ _ _ _ _ _ _ _ _ _ _ _ _ _ o (D.stat a o ho) (IH _ _ _ _ _ _ _ _ _ al tk h ts (λal' tk' f1 f2=>s_la0 hq ho▸H al' tk' f1 f2) D)
  ·cases (hg.1:a=e.a)
   exact y_alive _ _ _ _ _ _ _ _ _ _ _ _ _ _ e.o (D.own e (Dd hn)) (IH _ _ _ _ _ _ _ _ _ al tk h ts (λal' tk' f1 f2=>(s_la1 hq hn▸H al' tk' f1 f2:Good V R₀ W h₀ g d os X N (.cons (.a e.a e.a) _)).2) D)
 | alloc o k=>
  cases hf:o.isFreed with
  | true=>exact (s_aln hf▸H al tk (λ_ _=>rfl) (λ_ _=>rfl):Good V R₀ W h₀ g d os X N (stuck 3)).elim
  | false=>
   have D':=D.alloc hf
   have z:Nu V R₀ c κ (k h.objs.size) ⟨h.push o,g,d,ts,os⟩:=by
    refine IH _ _ _ _ _ _ (m+1) i q (λj=>if j < m then al j else h.objs.size) tk _ ts (λal' tk' g1 g2=>?_) D'
    have z:=(s_al hf▸H al' tk' (λj hj=>(g1 j (Nat.lt_succ_of_lt hj)).trans (if_pos hj)) g2:Good V R₀ W h₀ g d os X N _)
    rw [(g1 m (Nat.lt_succ_self _)).trans (if_neg (Nat.lt_irrefl _))] at z
    exact z
   exact wpOwn_bind (m:=alloc o) (f:=k) (wpOwn_of_wpAny (wpAny_alloc z))
 | update a p f k=>
  obtain ⟨e,hn,hw,hf,r,hg⟩:=s_up (Gd:=Good V R₀ W h₀ g d os X N) (λ_ h=>h) (H al tk (λ_ _=>rfl) (λ_ _=>rfl))
  cases (hg.1:a=e.a)
  have z:=IH _ _ _ _ _ _ _ _ _ al tk _ ts (λal' tk' g1 g2=>(s_upe hn hw hf▸H al' tk' g1 g2:Good V R₀ W h₀ g d os X N (.cons (.a e.a e.a) _)).2) (D.update hn hw hf)
  exact wpOwn_bind (m:=updatePart e.a p f) (f:=k) (wpOwn_of_wpAny (wpAny_updatePart (D.own e (Dd hn)) z))
 | fresh k=>
  refine y_fresh _ _ _ _ _ _ _ _ _ _ _ _ _ (IH _ _ _ _ _ _ m (i+1) q al (λj=>if j < i then tk j else ts) h (ts+1) (λal' tk' g1 g2=>?_) D)
  have z:Good V R₀ W h₀ g d os X N (ih al' tk' c κ (k (tk' i)) K m (i+1) q):=H al' tk' g1 λj hj=>(g2 j (Nat.lt_succ_of_lt hj)).trans (if_pos hj)
  rw [(g2 i (Nat.lt_succ_self _)).trans (if_neg (Nat.lt_irrefl _))] at z
  exact z
 | handled own k=>
  cases own with
  | true=>exact (H al tk (λ_ _=>rfl) (λ_ _=>rfl):Good V R₀ W h₀ g d os X N (stuck 21)).elim
  | false=>exact y_handled _ _ _ _ _ _ _ _ _ (IH _ _ _ _ _ _ _ _ _ al tk h ts H D)
 | call c' hd gd l k=>
  cases hq:okMark hd with
  | false=>exact (s_cln hq▸H al tk (λ_ _=>rfl) (λ_ _=>rfl):Good V R₀ W h₀ g d os X N (stuck 22)).elim
  | true=>
   have hnb:hd≠some byPass:=by
    intro e
    subst e
    simp [okMark] at hq
   exact y_call _ _ _ _ _ _ _ _ _ _ _ _ _ hnb (Hk O ih IH (κ:=.ret c hd k κ) (λal' tk' f1 f2=>s_cl hq▸H al' tk' f1 f2) D)
 | _=>exact (H al tk (λ_ _=>rfl) (λ_ _=>rfl)).elim
end
theorem Fv{V:SV}{R₀:Result->Shared->Prop}{W:List Addr}{h₀:Heap}{g:Array GenState}{d:Drawn}{os:OsState}(O:V.Ok):∀ n X N c κ t K m i q al tk h ts,
  (∀ al' tk',Hv m al al'->Hv i tk tk'->Good V R₀ W h₀ g d os X N (run V al' tk' n c κ t K m i q))->Rep V.stat W h₀ h K X N->Nu V R₀ c κ t ⟨h,g,d,ts,os⟩
 | 0=>λ_ _ _ _ _ _ _ _ _ al tk _ _ H _=>by cases H al tk (λ_ _=>rfl) (λ_ _=>rfl)
 | n+1=>λ_ _ _ _ _ _ _ _ _ _ _ _ _ H D=>Xg O (λal' tk'=>run V al' tk' n) (Fv O n) H D
theorem Zl{F:Ach}{E:List Ev}{i:It}(h:i.isE=false){r:Out}:(Out.cons i r).toE F E=.cons i.diag (r.toE F E):=by
 cases i<;>first|rfl|cases h
theorem Gc{r:Out}{F:Ach}{E:List Ev}:∀ {l:List It},(∀ i∈l,i.isE=false)->conses l r=(conses l r).toE F E->(∀ i∈l,i.ok)/\r=r.toE F E
 | [],_,h=>⟨λ_ hi=>(nomatch hi),h⟩
 | i::l,hl,h=>by
  have h:Out.cons i (conses l r)=(Out.cons i (conses l r)).toE F E:=h
  rw [Zl (hl i (.head _))] at h
  injection h with h1 h2
  obtain ⟨h3,h4⟩:=Gc (l:=l) (λj hj=>hl j (.tail _ hj)) h2
  exact ⟨λj hj=>by
   rcases mcm hj with rfl|hj
   ·exact It.ok_of h1
   ·exact h3 j hj,h4⟩
theorem Kq{K:List Ent}:∀ {l:List AO}{q:Nat}{its:List It},Fb l K q=some its->(∀ i∈its,i.ok)->∀ p∈l,∃ e∈K,p=(e.a,e.o)/\e.f=true
 | [],_,_,_,_,_,hp=>nomatch hp
 | x::r,q,its,e,hok,p,hp=>by
  unfold Fb at e
  cases h1:nth K (q % B) with
  | none=>rw [h1] at e;cases e
  | some en=>
   rw [h1] at e
   dsimp only at e
   cases h3:en.f with
   | false=>rw [h3] at e;cases e
   | true=>
    rw [h3] at e
    dsimp only at e
    cases h2:Fb r K (q / B) with
    | none=>rw [h2] at e;cases e
    | some l=>
     rw [h2] at e
     cases e
     rcases mcm hp with rfl|hp
     ·have a1:p.1=en.a:=hok _ (.head _)
      have a2:p.2=en.o:=hok _ (.tail _ (.head _))
      exact ⟨en,Dd h1,by rw [←a1,←a2],h3⟩
     ·exact Kq h2 (λi hi=>hok i (.tail _ (.tail _ hi))) p hp
theorem Fa{K:List Ent}:∀ {l:List AO}{q:Nat}{its:List It},Fb l K q=some its->Ds l K q=some its
 | [],_,_,e=>e
 | x::r,q,its,e=>by
  unfold Fb at e
  unfold Ds
  cases h1:nth K (q % B) with
  | none=>rw [h1] at e;cases e
  | some en=>
   rw [h1] at e
   dsimp only at e ⊢
   cases h3:en.f with
   | false=>rw [h3] at e;cases e
   | true=>
    rw [h3] at e
    dsimp only at e
    cases h2:Fb r K (q / B) with
    | none=>rw [h2] at e;cases e
    | some l=>
     rw [h2] at e
     rw [Fa h2]
     exact e
noncomputable def Ch(F:List AO->Prop):List Ev->List AO->List AO->Prop
 | [],_,N=>F N
 | v::E,X,N=>v.1 X/\∀ L,v.2 L->Ch F E (X++L) (N++L)
section
variable {V:SV}{R₀:Result->Shared->Prop}{W:List Addr}{h₀:Heap}{g:Array GenState}{d:Drawn}{os:OsState}
theorem Ih{F:List AO->Prop}{f:Result->List Ent->Nat->Out}(hf:∀ r K q E X N,f r K q=(f r K q).toE .done E->Ch F E X N->∀ h t,Rep V.stat W h₀ h K X N->R₀ r ⟨h,g,d,t,os⟩) :
  ∀ (o:Out)(E:List Ev)(X N:List AO),o.end f=(o.end f).toE .done E->Ch F E X N->Good V R₀ W h₀ g d os X N o
 | .nil (.fin r K m i q),E,X,N,e,c=>hf r K q E X N e c
 | .nil (.stuck n),E,X,N,e,_=>by
  have e:Out.nil (.stuck n)=(Out.nil (.stuck n)).toE .done E:=e
  cases E with
  | nil=>have e:Out.nil (.stuck n)=.nil .done:=e;injection e with e;cases e
  | cons=>have e:Out.nil (.stuck n)=.nil .bad:=e;injection e with e;cases e
 | .nil .done,E,X,N,e,_=>by
  have e:Out.nil (.stuck 61)=(Out.nil (.stuck 61)).toE .done E:=e
  cases E with
  | nil=>have e:Out.nil (.stuck 61)=.nil .done:=e;injection e with e;cases e
  | cons=>have e:Out.nil (.stuck 61)=.nil .bad:=e;injection e with e;cases e
 | .nil .bad,E,X,N,e,_=>by
  have e:Out.nil (.stuck 61)=(Out.nil (.stuck 61)).toE .done E:=e
  cases E with
  | nil=>have e:Out.nil (.stuck 61)=.nil .done:=e;injection e with e;cases e
  | cons=>have e:Out.nil (.stuck 61)=.nil .bad:=e;injection e with e;cases e
 | .nil (.cut ..),E,X,N,e,_=>by
  have e:Out.nil (.stuck 61)=(Out.nil (.stuck 61)).toE .done E:=e
  cases E with
  | nil=>have e:Out.nil (.stuck 61)=.nil .done:=e;injection e with e;cases e
  | cons=>have e:Out.nil (.stuck 61)=.nil .bad:=e;injection e with e;cases e
 | .cons i r,E,X,N,e,c=>by
  have e:Out.cons i (r.end f)=(Out.cons i (r.end f)).toE .done E:=e
  cases hi:i.isE with
  | false=>
   rw [Zl hi] at e
   injection e with e1 e2
   have h:=Ih hf r E X N e2 c
   have ok:=It.ok_of e1
   cases i<;>first|exact ⟨ok,h⟩|cases hi
  | true=>
   cases i with
   | e nd al=>
    cases E with
    | nil=>have e:Out.cons _ _=Out.nil .bad:=e;cases e
    | cons v E=>
     have e:Out.cons (.e nd al) (r.end f)=.cons (.e v.1 v.2) ((r.end f).toE .done E):=e
     injection e with e1 e2
     injection e1 with e3 e4
     subst e3 e4
     exact ⟨c.1,λL hL=>Ih hf r E _ _ e2 (c.2 L hL)⟩
   | _=>cases hi
end
theorem Dl{n:Nat}{E:List Ev}(e:stuck n=(stuck n).toE .done E):False:=by
 cases E with
 | nil=>have e:Out.nil (.stuck n)=.nil .done:=e;injection e with e;cases e
 | cons=>have e:Out.nil (.stuck n)=.nil .bad:=e;injection e with e;cases e
theorem Jy{x:Con}{nw:Nat->Addr}{tks:Nat->Tok}{r:Result}{K:List Ent}{q:Nat}{E:List Ev}(hn:(K.map (·.a)).Nodup)(e:Jz x nw tks r K q=(Jz x nw tks r K q).toE .done E) :
  E=[]/\r=x.res (cut x.n nw) (cut x.nt tks)/\(∀ p∈Ce x.upd (cut x.nt tks),∃ e∈K,p=(e.a,e.o))/\(∀ p∈x.post (cut x.n nw) (cut x.nt tks),∃ e∈K,p=(e.a,e.o)/\e.f=true)/\((x.post (cut x.n nw) (cut x.nt tks)).map (·.1)).Nodup:=by
 unfold Jz at e
 cases h1:Ds (Ce x.upd (cut x.nt tks)) K q with
 | none=>simp only [h1] at e;exact (Dl e).elim
 | some l=>
  simp only [h1] at e
  cases h2:Fb (x.post (cut x.n nw) (cut x.nt tks)) K (adv x.upd.length q) with
  | none=>simp only [h2] at e;exact (Dl e).elim
  | some l'=>
   simp only [h2] at e
   cases h3:Ea (digs (x.post (cut x.n nw) (cut x.nt tks)).length (adv x.upd.length q)) with
   | false=>simp only [h3] at e;exact (Dl e).elim
   | true=>
    simp only [h3] at e
    have e:Out.cons (.r r (x.res (cut x.n nw) (cut x.nt tks))) (conses l (conses l' (.nil .done)))=.cons (It.diag (.r r (x.res (cut x.n nw) (cut x.nt tks)))) ((conses l (conses l' (.nil .done))).toE .done E):=e
    injection e with e1 e2
    obtain ⟨h4,e3⟩:=Gc (Dc h1) e2
    obtain ⟨h5,e4⟩:=Gc (Dc (Fa h2)) e3
    refine ⟨?_,It.ok_of e1,He h1 h4,Kq h2 h5,Jr hn (Fa h2) h5 h3⟩
    cases E with
    | nil=>rfl
    | cons=>have e4:Out.nil .done=.nil .bad:=e4;injection e4 with e4;cases e4

theorem Hd{st:Nat->Option Obj}{x:Con}{h:Heap}{K:List Ent}{X:List AO}(hst:Stat st h)(hpre:∀ p∈x.pre,h.get? p.1=some p.2/\st p.1=none)(hnod:(x.pre.map (·.1)).Nodup)(hX:∀ p∈X,h.get? p.1=some p.2/\st p.1=none)(hXn:(X.map (·.1)).Nodup)(hap:∀ p∈x.pre,∀ q∈X,p.1≠q.1)
  (hK:K.map (λe=>(e.a,e.o))=x.pre)(hw:∀ e∈K,e.w=true->e.a∈x.upd.map (·.1))(hf:∀ e∈K,e.f=false):Rep st (x.upd.map (·.1)) h h K X []:=by
 have hmem:∀ e∈K,(e.a,e.o)∈x.pre:=λe he=>hK▸List.mem_map_of_mem (f:=λe:Ent=>(e.a,e.o)) he
 refine ⟨hst,λe he=>(hpre _ (hmem e he)).1,λp hp=>(hX p hp).1,?_,hXn,λe he p hp=>hap _ (hmem e he) p hp,λe he=>(hpre _ (hmem e he)).2,λp hp=>(hX p hp).2,λe he hw'=>.inl (hw e he hw'),λ_ _ e _=>e,Be.refl _,λe he hf'=>?_,λ_ hp=>(nomatch hp),⟨X,(List.append_nil X).symm⟩⟩
 ·have:K.map (·.a)=x.pre.map (·.1):=by rw [←hK,List.map_map];rfl
  rw [this];exact hnod
 ·rw [hf e he] at hf';cases hf'
theorem Mt{st:Nat->Option Obj}{U P:List AO}{x:Con}{h₀ h':Heap}{K:List Ent}{X N:List AO}(D:Rep st (x.upd.map (·.1)) h₀ h' K X N)(e2:∀ p∈U,∃ e∈K,p=(e.a,e.o))(e3:∀ p∈P,∃ e∈K,p=(e.a,e.o)/\e.f=true)(e4:(P.map (·.1)).Nodup) :
  (∀ b o,h₀.get? b=some o->(∀ p∈x.upd,p.1≠b)->h'.get? b=some o)/\(∀ p∈U,h'.get? p.1=some p.2)/\(∀ p∈P++N,h'.get? p.1=some p.2/\h₀.get? p.1=none)/\((P++N).map (·.1)).Nodup:=by
 refine ⟨λb o hb hne=>D.old b o hb λhm=>?_,λp hp=>?_,λp hp=>?_,?_⟩
 ·obtain ⟨p,hp,z⟩:=mmp hm
  exact hne p hp z
 ·obtain ⟨e,he,z⟩:=e2 p hp
  rw [z];exact D.own e he
 ·rcases List.mem_append.mp hp with hp|hp
  ·obtain ⟨e,he,z,zf⟩:=e3 p hp
   rw [z];exact ⟨D.own e he,D.fr e he zf⟩
  ·exact ⟨D.ownX p (D.subN p hp),D.frN p hp⟩
 ·rw [List.map_append,List.nodup_append]
  refine ⟨e4,D.nodN,λa ha b hb z=>?_⟩
  obtain ⟨p,hp,rfl⟩:=mmp ha
  obtain ⟨r',hr',rfl⟩:=mmp hb
  obtain ⟨e,he,ze,_⟩:=e3 p hp
  rw [ze] at z
  exact D.apart e he r' (D.subN r' hr') z
theorem Wo{w:World}{st:Nat->Option Obj}{cons:List CF}{den:Code->Sem Fin}{ct:Addr->FuncData->Args->Sem Fin}(x:Con)(need:List AO->Prop)(also:AL)
  (K:List Ent)(n q:Nat)(σ τ:List Nat)(E:EF)
  (hden:den=denote table)(hct:ct=Eb)(hlim:∀ h,Stat st h->h.NoLimit)(hcons:∀ f∈cons,∀ a t c,(f a t c).Valid w st)
  (hK:K.map (λe=>(e.a,e.o))=x.pre)(hw:∀ e∈K,e.w=true->e.a∈x.upd.map (·.1))(hf:∀ e∈K,e.f=false)
  (hrun:∀ dp fr gd un al tk,Jn ⟨w,⟨none,dp,fr,gd,un⟩,x.deep,st,cons,den,ct⟩ x n q K σ τ al tk=(Jn ⟨w,⟨none,dp,fr,gd,un⟩,x.deep,st,cons,den,ct⟩ x n q K σ τ al tk).toE .done (E al tk))
  (hfin:∀ al tk X,need X->Ch (also (cut x.n λj=>al (nthD σ j)) (cut x.nt λj=>tk (nthD τ j))) (E al tk) X []) :
  Ad w st x need also:=by
 intro A s R X hn hdep hst hpre hnod hX hXn hap hnd hR
 obtain ⟨hd,dp,fr,gd,un⟩:=A
 obtain ⟨h,g,d,ts,os⟩:=s
 have hn:hd=none:=hn
 subst hn
 let V:SV:=⟨w,⟨none,dp,fr,gd,un⟩,x.deep,st,cons,den,ct⟩
 have O:V.Ok:=⟨hden,hct,hlim,hdep,hcons⟩
 have D:=Hd (st:=st) hst hpre hnod hX hXn hap hK hw hf
 refine Hk (V:=V) (R₀:=R) (W:=x.upd.map (·.1)) (h₀:=h) (g:=g) (d:=d) (os:=os) O (λal' tk'=>run V al' tk' n) (Fv O n) (κ:=.base) (K:=K) (X:=X) (N:=[]) (m:=0) (i:=0) (q:=q) (al:=λ_=>0) (tk:=λ_=>0) (λal' tk' _ _=>?_) D
 refine Ih (F:=also (cut x.n λj=>al' (nthD σ j)) (cut x.nt λj=>tk' (nthD τ j))) (f:=Jz x (λj=>al' (nthD σ j)) (λj=>tk' (nthD τ j))) (λr K' q' E' X' N' e c h' t' D'=>?_) _ (E al' tk') X [] (hrun dp fr gd un al' tk') (hfin al' tk' X hnd)
 obtain ⟨e0,e1,e2,e3,e4⟩:=Jy D'.nod e
 subst e0
 rw [e1]
 obtain ⟨r1,r2,r3,r4⟩:=Mt D' e2 e3 e4
 exact hR (λj=>al' (nthD σ j)) (λj=>tk' (nthD τ j)) h' t' N' D'.size r1 r2 r3 r4 c
theorem Vw{w:World}{st:Nat->Option Obj}{x:Con}{also:AL}(h:Ad w st x tT also):x.Valid w st:=by
 intro A s R hn hdep hst hpre hnod hR
 refine h A s R [] hn hdep hst hpre hnod (λ_ hp=>(nomatch hp)) List.nodup_nil (λ_ _ _ hq=>(nomatch hq)) trivial λnw tks h' t' L a1 a2 a3 a4 a5 _=>?_
 rw [List.map_append,List.nodup_append] at a5
 exact hR nw tks h' t' a1 a2 a3 (λp hp=>a4 p (mai (hp))) a5.1
theorem Abo{w:World}{st:Nat->Option Obj}{cons:List CF}{den:Code->Sem Fin}{ct:Addr->FuncData->Args->Sem Fin}(x:Con)(K:List Ent)(n q:Nat)(σ τ:List Nat)
  (hden:den=denote table)(hct:ct=Eb)(hlim:∀ h,Stat st h->h.NoLimit)(hcons:∀ f∈cons,∀ a t c,(f a t c).Valid w st)
  (hK:K.map (λe=>(e.a,e.o))=x.pre)(hw:∀ e∈K,e.w=true->e.a∈x.upd.map (·.1))(hf:∀ e∈K,e.f=false)
  (hrun:∀ dp fr gd un al tk,Jn ⟨w,⟨none,dp,fr,gd,un⟩,x.deep,st,cons,den,ct⟩ x n q K σ τ al tk=(Jn ⟨w,⟨none,dp,fr,gd,un⟩,x.deep,st,cons,den,ct⟩ x n q K σ τ al tk).to .done) :
  x.Valid w st:=
 Vw (Wo x tT (λ_ _ _=>True) K n q σ τ (λ_ _=>[]) hden hct hlim hcons hK hw hf hrun λ_ _ _ _=>trivial)
noncomputable abbrev Ypw:Program:=PySem.Challenge.pw_pq0620_01
noncomputable def Aej(l:List Stmt)(k:Nat):Stmt:=(l[k]?).getD (.Pass default)
noncomputable def YstK(k:Nat):Stmt:=match Nat.blt k 1000 with
 | true=>Aej Ypw.main.body k
 | false=>match Aej Ypw.main.body (k / 1000) with
  | .ClassDef _ _ _ bd _ _ _ _ _ _ _=>Aej bd (k % 1000)
  | s=>s
noncomputable def Ycst(k:Nat):Str:=match YstK k with
 | .Assign _ (.Constant (.str s) _ _) _=>s
 | _=>""
noncomputable def YE(P:Params)(s:Str)(t:Nat)(v:Value):DictEntry:=⟨PyData.keyHash P s,.str s t,v⟩
noncomputable def YoT(vs:List Value):Obj:={ cls:=.type "tuple",data:=.seq vs.toArray }
noncomputable def YoL(vs:List Value):Obj:={ cls:=.none,data:=.fields vs.toArray }
noncomputable def YoK(c:String)(vs:List Value):Obj:={ cls:=.type c,data:=.fields vs.toArray }
noncomputable def YoD(es:List DictEntry)(n:Nat):Obj:={ cls:=.type "dict",data:=.dict es.toArray n }
noncomputable def YoC(nm:Str)(t l a:Nat):Obj:=YoK "code" [.str nm t,.str nm (t+1),.str "/claim/cut.py" (t+2),.int l 0,.int 0 0,.int 0 0,.int 0 0,.int 0 0,.ref a,.bool false,.int 181 0,.ref (a+1),.none,.none,.none,.none,.int (t+3) 0,.int l 0,.str "/claim/cut.py" (t+4)]
noncomputable def YoF(c l:Nat)(nm:Str)(t:Nat):Obj:={ cls:=.type "frame",slots:=#[some (.ref c),some (.ref 3),some (.ref l),none,some (.str nm t),none,some (.ref 0)] }
noncomputable def YnE(s:Str)(t:Nat)(v:Value):Str × Nat × Value:=(s,t,v)
noncomputable def YpmT:List (Str × Nat):=[("__main__",164),("ledgerspeak.errors",194),("ledgerspeak.decimals",268),("ledgerspeak.references",343),("ledgerspeak.expressions",445),("ledgerspeak.readarith",524),("ledgerspeak.readdata",554),("ledgerspeak.reader",628),("ledgerspeak.tokens",853),("law_pq0620_01",899)]
noncomputable def YfnT:List (Nat × Nat × Nat × Nat × Nat × Nat):=[(37,238,528,7,0,5),(38,245,538,7,0,5),(39,252,545,7,0,5),(41,259,556,7,0,6),(42,266,563,7,0,6),(43,273,572,7,0,6),(44,280,579,7,0,6),(45,287,588,7,0,6),(46,294,596,7,0,6),(47,301,606,7,0,6),(48,308,618,7,0,6),(52,315,634,7,0,7),(53,322,641,5,0,7),(58,530,901,5,0,9),(59,535,907,7,0,9),(60,542,918,7,0,9),(61,549,926,5,0,9),(62,554,932,5,0,9),(63,559,938,5,0,9),(64,564,944,7,0,9),(65,571,954,7,0,9),(66,578,965,7,0,9),(67,585,981,7,0,9),(68,592,997,7,0,9),(69,599,1006,5,0,9),(2000,31,210,7,30,1),(2001,38,219,7,0,1),(54000,335,660,7,334,7),(54001,343,670,7,342,7),(54002,350,678,7,0,7),(54003,357,685,7,0,7),(54004,364,693,7,0,7),(54005,372,702,7,371,7),(54006,379,712,7,0,7),(54007,386,722,7,0,7),(54008,393,730,7,0,7),(54009,400,738,7,0,7),(54010,407,747,7,0,7),(54011,415,755,7,414,7),(54012,422,763,7,0,7),(54013,429,770,7,0,7),(54014,437,778,7,436,7),(54015,444,787,7,0,7),(54016,451,795,7,0,7),(54017,458,803,7,0,7),(54018,465,810,7,0,7),(54019,472,819,7,0,7),(54020,479,827,7,0,7),(54021,486,834,7,0,7),(56000,509,869,7,508,8),(56001,516,880,7,0,8),(0,15,187,7,0,0),(7,75,272,7,0,2),(8,83,281,7,82,2),(9,90,289,7,0,2),(10,97,296,7,0,2),(11,104,307,7,0,2),(12,111,314,7,0,2),(13,118,321,7,0,2),(14,125,330,7,0,2),(18,133,381,7,0,3),(19,140,390,7,0,3),(20,147,399,7,0,3),(21,154,409,7,0,3),(22,161,421,7,0,3),(23,168,429,7,0,3),(24,175,436,7,0,3),(27,182,449,7,0,4),(28,189,456,7,0,4),(29,196,465,7,0,4),(30,203,475,7,0,4),(31,210,485,7,0,4),(32,217,496,7,0,4),(33,224,505,7,0,4),(34,231,514,7,0,4)]
noncomputable def YmET(g:Str × Str):List (Str × Nat × Value):=[YnE "_wall" 193 (.ref 21),YnE "LedgerError" 235 (.ref 47),YnE "TokenFault" 251 (.ref 60),YnE "GrammarFault" 267 (.ref 72),YnE "FIGURES" 271 (.str "0123456789" 270),YnE "cut_quotient" 279 (.ref 81),YnE "decimal" 288 (.ref 89),YnE "negated" 295 (.ref 96),YnE "units_at" 306 (.ref 103),YnE "is_whole" 313 (.ref 110),YnE "whole_of" 320 (.ref 117),YnE "worth_of" 329 (.ref 124),YnE "read_decimal" 342 (.ref 131),YnE "MOST_SUBSCRIPTS" 346 (.int 7 345),YnE "FIGURE_NAMES" 380 (.ref 132),YnE "is_part_next" 389 (.ref 139),YnE "read_subscripts" 398 (.ref 146),YnE "read_part" 408 (.ref 153),YnE "read_ref" 420 (.ref 160),YnE "read_all" 428 (.ref 167),YnE "read_figure" 435 (.ref 174),YnE "read_operand" 444 (.ref 181),YnE "MOST_DEEP" 448 (.int 20 447),YnE "read_expression" 455 (.ref 188),YnE "sign_among" 464 (.ref 195),YnE "read_sum" 474 (.ref 202),YnE "read_product" 484 (.ref 209),YnE "read_factor" 495 (.ref 216),YnE "is_lone_number" 504 (.ref 223),YnE "read_power" 513 (.ref 230),YnE "read_primary" 523 (.ref 237),YnE "FIGURE_WORDS" 527 (.str g.2 526),YnE "word_ahead" 537 (.ref 244),YnE "begins_operand" 544 (.ref 251),YnE "refuse_at" 553 (.ref 258),YnE "operand_here" 562 (.ref 265),YnE "text_here" 571 (.ref 272),YnE "begins_text" 578 (.ref 279),YnE "bounds_here" 587 (.ref 286),YnE "widths_meet" 595 (.ref 293),YnE "by_here" 605 (.ref 300),YnE "exchange_here" 617 (.ref 307),YnE "replaced_rows" 627 (.ref 314),YnE "MOST_OCTET" 631 (.int 255 630),YnE "RESERVED" 633 (.str g.1 632),YnE "is_reserved" 640 (.ref 321),YnE "octets_of_text" 646 (.ref 326),YnE "Reader" 852 (.ref 495),YnE "Token" 898 (.ref 525),YnE "_law_pen" 906 (.ref 534),YnE "_law_draw" 917 (.ref 541),YnE "_law_pick" 925 (.ref 548),YnE "_law_words" 931 (.ref 553),YnE "_law_reader" 937 (.ref 558),YnE "_law_literal" 943 (.ref 563),YnE "_law_exchange" 953 (.ref 570),YnE "_law_bounds" 964 (.ref 577),YnE "_law_sort" 980 (.ref 584),YnE "_law_right" 996 (.ref 591),YnE "_law_refused" 1005 (.ref 598),YnE "law" 1011 (.ref 603)]
noncomputable def Yl12:List (Nat × Nat):=[(1,20),(5,27),(14,56),(16,68),(20,80),(24,88),(31,95),(33,102),(41,109),(43,116),(45,123),(50,130),(68,138),(81,145),(89,152),(96,159),(106,166),(113,173),(117,180),(128,187),(130,194),(135,201),(143,208),(149,215),(159,222),(164,229),(170,236),(180,243),(183,250),(187,257),(191,264),(195,271),(201,278),(203,285),(214,292),(218,299),(224,306),(230,313),(248,320),(250,325),(255,332),(376,505),(387,533),(390,540),(399,547),(401,552),(403,557),(405,562),(407,569),(412,576),(418,583),(429,590),(441,597),(447,602)]
noncomputable def YspO(P:Params):List (Nat × Obj):=[(0,boot_o_0 P),
 (1,boot_o_1 P),
 (2,{ cls:=.none,data:=.dict #[YE P "type.__subclasses__.Exception.0" 232 (.int 47 0),YE P "type.__subclasses__.Exception.n" 233 (.int 1 0)] 2 }),
 (4,boot_o_4 P),
 (5,boot_o_5 P),
 (6,boot_o_6 P),
 (7,boot_o_7 P),
 (8,boot_o_8 P),
 (9,boot_o_9 P),
 (10,boot_o_10 P),
 (11,YoT []),
 (13,YoC "<module>" 182 1 11),
 (14,YoF 13 3 "__main__" 164),
 (22,YoT [.type "Exception"]),
 (23,YoK "builtin_function_or_method" [.builtin "type.__prepare__",.type "type"]),
 (24,YoD [YE P "__module__" 203 (.str "ledgerspeak.errors" 194),YE P "__qualname__" 205 (.str "LedgerError" 204),YE P "__firstlineno__" 207 (.int 5 206),YE P "__init__" 218 (.ref 37),YE P "told" 225 (.ref 44),YE P "__static_attributes__" 228 (.ref 45)] 6),
 (25,YoT []),
 (26,YoL [.int 7 0,.int 4 0,.ref 36,.int 12 0,.int 4 0,.ref 43]),
 (27,YoC "LedgerError" 198 5 25),
 (28,YoF 27 24 "ledgerspeak.errors" 194),
 (29,YoT [.int 0 208,.int 0 209]),
 (30,YoT [.ref 29]),
 (45,YoT [.str "at" 226,.str "what" 227]),
 (46,YoD [YE P "__module__" 203 (.str "ledgerspeak.errors" 194),YE P "__firstlineno__" 207 (.int 5 206),YE P "__init__" 218 (.ref 37),YE P "told" 225 (.ref 44),YE P "__static_attributes__" 228 (.ref 45),YE P "__weakref__" 230 (.ref 48),YE P "__doc__" 231 .none] 3),
 (47,{ cls:=.type "type",data:=Data.cls { name:="LedgerError",bases:=[.type "Exception"],mro:=[.ref 47,.type "Exception",.type "BaseException",.type "object"],ns:=46,qualname:="LedgerError",subclasses:=[.ref 60,.ref 72] },slots:=#[some (.ref 22),none,some (.str "LedgerError" 196),some (.str "LedgerError" 204),some (.builtin "Exception.__new__"),some (.bool true)] }),
 (48,YoK "getset_descriptor" [.str "__weakref__" 229,.ref 47,.builtin "ExceptionGroup.__weakref__",.none]),
 (49,YoK "super" [.ref 47,.ref 47,.ref 47]),
 (50,YoK "builtin_function_or_method" [.builtin "object.__init_subclass__",.ref 47]),
 (51,YoT [.ref 47]),
 (52,YoK "builtin_function_or_method" [.builtin "type.__prepare__",.type "type"]),
 (53,YoD [YE P "__module__" 243 (.str "ledgerspeak.errors" 194),YE P "__qualname__" 245 (.str "TokenFault" 244),YE P "__firstlineno__" 247 (.int 14 246),YE P "__static_attributes__" 248 (.ref 58)] 4),
 (54,YoT []),
 (55,YoL []),
 (56,YoC "TokenFault" 238 14 54),
 (57,YoF 56 53 "ledgerspeak.errors" 194),
 (58,YoT []),
 (59,YoD [YE P "__module__" 243 (.str "ledgerspeak.errors" 194),YE P "__firstlineno__" 247 (.int 14 246),YE P "__static_attributes__" 248 (.ref 58),YE P "__doc__" 249 .none] 2),
 (60,{ cls:=.type "type",data:=Data.cls { name:="TokenFault",bases:=[.ref 47],mro:=[.ref 60,.ref 47,.type "Exception",.type "BaseException",.type "object"],ns:=59,qualname:="TokenFault" },slots:=#[some (.ref 51),none,some (.str "TokenFault" 236),some (.str "TokenFault" 244),some (.builtin "Exception.__new__"),some (.bool true)] }),
 (61,YoK "super" [.ref 60,.ref 60,.ref 60]),
 (62,YoK "builtin_function_or_method" [.builtin "object.__init_subclass__",.ref 60]),
 (63,YoT [.ref 47]),
 (64,YoK "builtin_function_or_method" [.builtin "type.__prepare__",.type "type"]),
 (65,YoD [YE P "__module__" 259 (.str "ledgerspeak.errors" 194),YE P "__qualname__" 261 (.str "GrammarFault" 260),YE P "__firstlineno__" 263 (.int 16 262),YE P "__static_attributes__" 264 (.ref 70)] 4),
 (66,YoT []),
 (67,YoL []),
 (68,YoC "GrammarFault" 254 16 66),
 (69,YoF 68 65 "ledgerspeak.errors" 194),
 (70,YoT []),
 (71,YoD [YE P "__module__" 259 (.str "ledgerspeak.errors" 194),YE P "__firstlineno__" 263 (.int 16 262),YE P "__static_attributes__" 264 (.ref 70),YE P "__doc__" 265 .none] 2),
 (72,{ cls:=.type "type",data:=Data.cls { name:="GrammarFault",bases:=[.ref 47],mro:=[.ref 72,.ref 47,.type "Exception",.type "BaseException",.type "object"],ns:=71,qualname:="GrammarFault" },slots:=#[some (.ref 63),none,some (.str "GrammarFault" 252),some (.str "GrammarFault" 260),some (.builtin "Exception.__new__"),some (.bool true)] }),
 (73,YoK "super" [.ref 72,.ref 72,.ref 72]),
 (74,YoK "builtin_function_or_method" [.builtin "object.__init_subclass__",.ref 72]),
 (82,YoT [.int 0 280]),
 (132,YoD [YE P "ZERO" 347 (.str "ZERO" 348),YE P "ZEROS" 349 (.str "ZERO" 350),YE P "ZEROES" 351 (.str "ZERO" 352),YE P "SPACE" 353 (.str "SPACE" 354),YE P "SPACES" 355 (.str "SPACE" 356),YE P "HIGH-VALUE" 357 (.str "HIGH" 358),YE P "HIGH-VALUES" 359 (.str "HIGH" 360),YE P "LOW-VALUE" 361 (.str "LOW" 362),YE P "LOW-VALUES" 363 (.str "LOW" 364),YE P "QUOTE" 365 (.str "QUOTE" 366),YE P "QUOTES" 367 (.str "QUOTE" 368)] 11),
 (327,YoT []),
 (328,YoK "builtin_function_or_method" [.builtin "type.__prepare__",.type "type"]),
 (329,YoD [YE P "__module__" 654 (.str "ledgerspeak.reader" 628),YE P "__qualname__" 656 (.str "Reader" 655),YE P "__firstlineno__" 658 (.int 255 657),YE P "__init__" 668 (.ref 341),YE P "peek" 677 (.ref 349),YE P "is_done" 684 (.ref 356),YE P "fault" 692 (.ref 363),YE P "take" 700 (.ref 370),YE P "is_kind" 711 (.ref 378),YE P "is_word" 721 (.ref 385),YE P "skip" 729 (.ref 392),YE P "need" 737 (.ref 399),YE P "one_of" 746 (.ref 406),YE P "word" 753 (.ref 413),YE P "is_name" 762 (.ref 421),YE P "name" 769 (.ref 428),YE P "names" 776 (.ref 435),YE P "is_sign" 786 (.ref 443),YE P "skip_sign" 794 (.ref 450),YE P "need_sign" 802 (.ref 457),YE P "is_number" 809 (.ref 464),YE P "signed" 818 (.ref 471),YE P "whole" 826 (.ref 478),YE P "literal" 833 (.ref 485),YE P "octets" 841 (.ref 492),YE P "__static_attributes__" 845 (.ref 493)] 26),
 (330,YoT []),
 (331,YoL [.int 257 0,.int 4 0,.ref 340,.int 262 0,.int 4 0,.ref 348,.int 267 0,.int 4 0,.ref 355,.int 270 0,.int 4 0,.ref 362,.int 275 0,.int 4 0,.ref 369,.int 282 0,.int 4 0,.ref 377,.int 286 0,.int 4 0,.ref 384,.int 294 0,.int 4 0,.ref 391,.int 300 0,.int 4 0,.ref 398,.int 304 0,.int 4 0,.ref 405,.int 310 0,.int 4 0,.ref 412,.int 315 0,.int 4 0,.ref 420,.int 318 0,.int 4 0,.ref 427,.int 323 0,.int 4 0,.ref 434,.int 326 0,.int 4 0,.ref 442,.int 329 0,.int 4 0,.ref 449,.int 335 0,.int 4 0,.ref 456,.int 339 0,.int 4 0,.ref 463,.int 344 0,.int 4 0,.ref 470,.int 353 0,.int 4 0,.ref 477,.int 362 0,.int 4 0,.ref 484,.int 367 0,.int 4 0,.ref 491]),
 (332,YoC "Reader" 649 255 330),
 (333,YoF 332 329 "ledgerspeak.reader" 628),
 (334,YoT [.int 0 659]),
 (342,YoT [.int 0 669]),
 (371,YoT [.int 0 701]),
 (414,YoT [.int 0 754]),
 (436,YoT [.int 0 777]),
 (493,YoT [.str "at" 842,.str "named" 843,.str "tokens" 844]),
 (494,YoD [YE P "__module__" 654 (.str "ledgerspeak.reader" 628),YE P "__firstlineno__" 658 (.int 255 657),YE P "__init__" 668 (.ref 341),YE P "peek" 677 (.ref 349),YE P "is_done" 684 (.ref 356),YE P "fault" 692 (.ref 363),YE P "take" 700 (.ref 370),YE P "is_kind" 711 (.ref 378),YE P "is_word" 721 (.ref 385),YE P "skip" 729 (.ref 392),YE P "need" 737 (.ref 399),YE P "one_of" 746 (.ref 406),YE P "word" 753 (.ref 413),YE P "is_name" 762 (.ref 421),YE P "name" 769 (.ref 428),YE P "names" 776 (.ref 435),YE P "is_sign" 786 (.ref 443),YE P "skip_sign" 794 (.ref 450),YE P "need_sign" 802 (.ref 457),YE P "is_number" 809 (.ref 464),YE P "signed" 818 (.ref 471),YE P "whole" 826 (.ref 478),YE P "literal" 833 (.ref 485),YE P "octets" 841 (.ref 492),YE P "__static_attributes__" 845 (.ref 493),YE P "__dict__" 847 (.ref 496),YE P "__weakref__" 849 (.ref 497),YE P "__doc__" 850 .none] 4),
 (495,{ cls:=.type "type",data:=Data.cls { name:="Reader",bases:=[.type "object"],mro:=[.ref 495,.type "object"],ns:=494,qualname:="Reader" },slots:=#[none,none,some (.str "Reader" 647),some (.str "Reader" 655),some (.builtin "object.__new__"),some (.bool true)] }),
 (496,YoK "getset_descriptor" [.str "__dict__" 846,.ref 495,.builtin "function.__dict__",.builtin "function.__dict__#set"]),
 (497,YoK "getset_descriptor" [.str "__weakref__" 848,.ref 495,.builtin "ExceptionGroup.__weakref__",.none]),
 (498,YoK "super" [.ref 495,.ref 495,.ref 495]),
 (499,YoK "builtin_function_or_method" [.builtin "object.__init_subclass__",.ref 495]),
 (500,YoT []),
 (501,YoK "builtin_function_or_method" [.builtin "type.__prepare__",.type "type"]),
 (502,YoD [YE P "__module__" 862 (.str "ledgerspeak.tokens" 853),YE P "__qualname__" 864 (.str "Token" 863),YE P "__firstlineno__" 866 (.int 376 865),YE P "__init__" 879 (.ref 515),YE P "told" 886 (.ref 522),YE P "__static_attributes__" 891 (.ref 523)] 6),
 (503,YoT []),
 (504,YoL [.int 378 0,.int 4 0,.ref 514,.int 384 0,.int 4 0,.ref 521]),
 (505,YoC "Token" 857 376 503),
 (506,YoF 505 502 "ledgerspeak.tokens" 853),
 (507,YoT [.int 0 867,.int 0 868]),
 (508,YoT [.ref 507,.bool false]),
 (523,YoT [.str "at" 887,.str "is_in_a" 888,.str "kind" 889,.str "worth" 890]),
 (524,YoD [YE P "__module__" 862 (.str "ledgerspeak.tokens" 853),YE P "__firstlineno__" 866 (.int 376 865),YE P "__init__" 879 (.ref 515),YE P "told" 886 (.ref 522),YE P "__static_attributes__" 891 (.ref 523),YE P "__dict__" 893 (.ref 526),YE P "__weakref__" 895 (.ref 527),YE P "__doc__" 896 .none] 4),
 (525,{ cls:=.type "type",data:=Data.cls { name:="Token",bases:=[.type "object"],mro:=[.ref 525,.type "object"],ns:=524,qualname:="Token" },slots:=#[none,none,some (.str "Token" 855),some (.str "Token" 863),some (.builtin "object.__new__"),some (.bool true)] }),
 (526,YoK "getset_descriptor" [.str "__dict__" 892,.ref 525,.builtin "function.__dict__",.builtin "function.__dict__#set"]),
 (527,YoK "getset_descriptor" [.str "__weakref__" 894,.ref 525,.builtin "ExceptionGroup.__weakref__",.none]),
 (528,YoK "super" [.ref 525,.ref 525,.ref 525]),
 (529,YoK "builtin_function_or_method" [.builtin "object.__init_subclass__",.ref 525])]
noncomputable def Kg(l:List (Str × NameKind))(t:Nat):List Value:=match l with
 | []=>[]
 | (x,.local)::r=>.str x t::Kg r (t+1)
 | (x,.cell)::r=>.str x t::Kg r (t+1)
 | _::r=>Kg r t
noncomputable def Rm(l:List (Str × NameKind))(t:Nat):List Value:=match l with
 | []=>[]
 | (x,.cell)::r=>.str x t::Rm r (t+1)
 | _::r=>Rm r t
noncomputable def YfnO(st:Stmt)(pre:Str)(a t n d:Nat)(pm:Str × Nat):List Obj:=match st with
 | .FunctionDef nm ar bd _ _ _ sc _ _ ps=>
  let qn:Str:=⟨pre.cps++nm.cps⟩
  let dv:Value:=match d with|0=>.none|d=>.ref d
  match Nat.beq n 7 with
  | true=>
   let vs:=Kg sc.names (t+3)
   let cs:=Rm sc.names (t+3+vs.length)
   let u:=t+3+vs.length+cs.length
   let fd:FuncData:={ name:=nm,qualname:=qn,params:=ar,body:=.stmts bd,scope:=sc,globals:=0,closure:=[],defaults:=.none,kwdefaults:=.none }
   [YoT [],YoL [],YoT vs,YoT cs,{ cls:=.none,data:=.func fd },
    YoK "code" [.str nm t,.str qn (t+1),.str "/claim/cut.py" (t+2),.int ps.line 0,.int ar.args.length 0,.int 0 0,.int 0 0,.int 3 0,.ref a,.bool true,.int 181 0,.ref (a+1),.none,.ref (a+2),.ref (a+3),.ref (a+4),.int u 0,.int ps.line 0,.str "/claim/cut.py" (u+1)],
    { cls:=.type "function",data:=.func { fd with globals:=3,defaults:=dv,pyModule:=.str pm.1 pm.2,code:=.ref (a+5) } }]
  | false=>
   let fd:FuncData:={ name:=nm,qualname:=qn,params:=ar,body:=.stmts bd,scope:=sc,globals:=0,closure:=[],defaults:=.none,kwdefaults:=.none }
   [YoT [],YoL [],{ cls:=.none,data:=.func fd },
    YoK "code" [.str nm t,.str qn (t+1),.str "/claim/cut.py" (t+2),.int ps.line 0,.int ar.args.length 0,.int 0 0,.int 0 0,.int 3 0,.ref a,.bool true,.int 181 0,.ref (a+1),.none,.none,.none,.ref (a+2),.int (t+3) 0,.int ps.line 0,.str "/claim/cut.py" (t+4)],
    { cls:=.type "function",data:=.func { fd with globals:=3,defaults:=dv,pyModule:=.str pm.1 pm.2,code:=.ref (a+3) } }]
 | _=>[]
noncomputable def YpreOf(k:Nat):Str:=match Nat.blt k 1000 with
 | true=>""
 | false=>match Aej Ypw.main.body (k / 1000) with
  | .ClassDef nm _ _ _ _ _ _ _ _ _ _=>⟨nm.cps++#[46]⟩
  | _=>""
structure YSrc where
 st:Nat->Stmt
 sp:Params->List (Nat × Obj)
 b3:Params->Obj
 mE:List (Str × Nat × Value)
 pm:List (Str × Nat)
noncomputable def Ace:YSrc:=⟨YstK,YspO,boot_o_3,YmET (Ycst 51,Ycst 36),YpmT⟩
noncomputable def Af7(g:YSrc)(P:Params)(nm:Str)(t m:Nat):Obj:=match g.b3 P with
 | ⟨c,d,.dict es n,sl⟩=>match es.toList with
  | e::r=>⟨c,d,.dict (({ e with val:=.str nm t }::(r++(g.mE.take m).map λx=>YE P x.1 x.2.1 x.2.2)).toArray) (n+m),sl⟩
  | []=>default
 | _=>default
noncomputable def Yo12(m:Nat):Obj:=YoL ((Yl12.take m).flatMap λx=>[.int x.1 0,.int 0 0,.ref x.2])
noncomputable def Ysub47(o:Obj)(l:List Value):Obj:=match o with
 | ⟨c,d,.cls x,sl⟩=>⟨c,d,.cls { x with subclasses:=l },sl⟩
 | o=>o
noncomputable def YfndS(i:Nat)(l:List (Nat × Obj)):Option Obj:=match l with
 | []=>none
 | x::r=>match Nat.beq x.1 i with
  | true=>some x.2
  | false=>YfndS i r
noncomputable def YfndF(g:YSrc)(i:Nat)(l:List (Nat × Nat × Nat × Nat × Nat × Nat)):Option Obj:=match l with
 | []=>none
 | x::r=>match Nat.ble x.2.1 i && Nat.blt i (x.2.1+x.2.2.2.1) with
  | true=>(YfnO (g.st x.1) (YpreOf x.1) x.2.1 x.2.2.1 x.2.2.2.1 x.2.2.2.2.1 ((g.pm[x.2.2.2.2.2]?).getD default))[i - x.2.1]?
  | false=>YfndF g i r
noncomputable def Yobj?(g:YSrc)(P:Params)(i:Nat):Option Obj:=match YfndF g i YfnT with
 | some o=>some o
 | none=>match YfndS i (g.sp P) with
  | some o=>some o
  | none=>match Nat.beq i 3 with
   | true=>some (Af7 g P "law_pq0620_01" 899 61)
   | false=>match Nat.beq i 12 with
    | true=>some (Yo12 54)
    | false=>none
noncomputable def Yob(P:Params)(i:Nat):Obj:=(Yobj? Ace P i).getD default
noncomputable def YobK(nm:Str)(t m k s:Nat)(P:Params)(i:Nat):Obj:=match Nat.beq i 3 with
 | true=>Af7 Ace P nm t m
 | false=>match Nat.beq i 12 with
  | true=>Yo12 k
  | false=>match Nat.beq i 2 with
   | true=>match Nat.beq s 0 with
    | true=>boot_o_2 P
    | false=>Yob P 2
   | false=>match Nat.beq i 47 with
    | true=>Ysub47 (Yob P 47) ([.ref 60,.ref 72].take (s - 1))
    | false=>Yob P i
noncomputable def Ytr(f:Nat->Obj)(n:Nat):Nat->Nat->Nat->BT
 | 0,_,_=>.nil
 | k+1,a,b=>match Nat.blt b n with
  | true=>.node (f b) (Ytr f n k (2 * a) (a+b)) (Ytr f n k (2 * a) (2 * a+b))
  | false=>.nil
noncomputable def YstT(nm:Str)(t m k s n u:Nat)(w:World)(os:OsState):SharedT:=⟨Ytr (YobK nm t m k s w.params) n 11 1 0,n,{},#[],{},u,os⟩
noncomputable def Yh1(P:Params):Heap:=⟨((List.range 604).map (Yob P)).toArray,{}⟩
noncomputable def YsOf(cs:List Char):Str:=⟨(cs.map Char.toNat).toArray⟩
theorem ofL(cs:List Char):Str.ofString (no_index (String.ofList cs))=YsOf cs:=by
 rw [Str.ofString_eq_toList,String.toList_ofList]
 rfl
noncomputable def Yrhs{α:Type}{a b:α}(_:a=b):α:=b
noncomputable def Aei:{ cs:List Char // Ycst 51=Str.ofString (String.ofList cs) }:=⟨_,rfl⟩
noncomputable def Aek:{ cs:List Char // Ycst 36=Str.ofString (String.ofList cs) }:=⟨_,rfl⟩
noncomputable def YqI(k:Nat)(s:Stmt)(h:YstK k=s):{ x:Nat × Stmt // YstK x.1=x.2 }:=⟨(k,s),h⟩
noncomputable def YqL:List { x:Nat × Stmt // YstK x.1=x.2 }:=[(letI r:=_;haveI:YstK 18=r:=(by show Stmt.FunctionDef ..=_;simp only [↓ofL];rfl);YqI 18 r (by rfl)),
 (letI r:=_;haveI:YstK 21=r:=(by show Stmt.FunctionDef ..=_;simp only [↓ofL];rfl);YqI 21 r (by rfl)),
 (letI r:=_;haveI:YstK 23=r:=(by show Stmt.FunctionDef ..=_;simp only [↓ofL];rfl);YqI 23 r (by rfl)),
 (letI r:=_;haveI:YstK 24=r:=(by show Stmt.FunctionDef ..=_;simp only [↓ofL];rfl);YqI 24 r (by rfl)),
 (letI r:=_;haveI:YstK 37=r:=(by show Stmt.FunctionDef ..=_;simp only [↓ofL];rfl);YqI 37 r (by rfl)),
 (letI r:=_;haveI:YstK 38=r:=(by show Stmt.FunctionDef ..=_;simp only [↓ofL];rfl);YqI 38 r (by rfl)),
 (letI r:=_;haveI:YstK 39=r:=(by show Stmt.FunctionDef ..=_;simp only [↓ofL];rfl);YqI 39 r (by rfl)),
 (letI r:=_;haveI:YstK 41=r:=(by show Stmt.FunctionDef ..=_;simp only [↓ofL];rfl);YqI 41 r (by rfl)),
 (letI r:=_;haveI:YstK 42=r:=(by show Stmt.FunctionDef ..=_;simp only [↓ofL];rfl);YqI 42 r (by rfl)),
 (letI r:=_;haveI:YstK 43=r:=(by show Stmt.FunctionDef ..=_;simp only [↓ofL];rfl);YqI 43 r (by rfl)),
 (letI r:=_;haveI:YstK 44=r:=(by show Stmt.FunctionDef ..=_;simp only [↓ofL];rfl);YqI 44 r (by rfl)),
 (letI r:=_;haveI:YstK 45=r:=(by show Stmt.FunctionDef ..=_;simp only [↓ofL];rfl);YqI 45 r (by rfl)),
 (letI r:=_;haveI:YstK 46=r:=(by show Stmt.FunctionDef ..=_;simp only [↓ofL];rfl);YqI 46 r (by rfl)),
 (letI r:=_;haveI:YstK 47=r:=(by show Stmt.FunctionDef ..=_;simp only [↓ofL];rfl);YqI 47 r (by rfl)),
 (letI r:=_;haveI:YstK 48=r:=(by show Stmt.FunctionDef ..=_;simp only [↓ofL];rfl);YqI 48 r (by rfl)),
 (letI r:=_;haveI:YstK 52=r:=(by show Stmt.FunctionDef ..=_;simp only [↓ofL];rfl);YqI 52 r (by rfl)),
 (letI r:=_;haveI:YstK 53=r:=(by show Stmt.FunctionDef ..=_;simp only [↓ofL];rfl);YqI 53 r (by rfl)),
 (letI r:=_;haveI:YstK 58=r:=(by show Stmt.FunctionDef ..=_;simp only [↓ofL];rfl);YqI 58 r (by rfl)),
 (letI r:=_;haveI:YstK 59=r:=(by show Stmt.FunctionDef ..=_;simp only [↓ofL];rfl);YqI 59 r (by rfl)),
 (letI r:=_;haveI:YstK 60=r:=(by show Stmt.FunctionDef ..=_;simp only [↓ofL];rfl);YqI 60 r (by rfl)),
 (letI r:=_;haveI:YstK 61=r:=(by show Stmt.FunctionDef ..=_;simp only [↓ofL];rfl);YqI 61 r (by rfl)),
 (letI r:=_;haveI:YstK 62=r:=(by show Stmt.FunctionDef ..=_;simp only [↓ofL];rfl);YqI 62 r (by rfl)),
 (letI r:=_;haveI:YstK 63=r:=(by show Stmt.FunctionDef ..=_;simp only [↓ofL];rfl);YqI 63 r (by rfl)),
 (letI r:=_;haveI:YstK 64=r:=(by show Stmt.FunctionDef ..=_;simp only [↓ofL];rfl);YqI 64 r (by rfl)),
 (letI r:=_;haveI:YstK 65=r:=(by show Stmt.FunctionDef ..=_;simp only [↓ofL];rfl);YqI 65 r (by rfl)),
 (letI r:=_;haveI:YstK 66=r:=(by show Stmt.FunctionDef ..=_;simp only [↓ofL];rfl);YqI 66 r (by rfl)),
 (letI r:=_;haveI:YstK 67=r:=(by show Stmt.FunctionDef ..=_;simp only [↓ofL];rfl);YqI 67 r (by rfl)),
 (letI r:=_;haveI:YstK 68=r:=(by show Stmt.FunctionDef ..=_;simp only [↓ofL];rfl);YqI 68 r (by rfl)),
 (letI r:=_;haveI:YstK 69=r:=(by show Stmt.FunctionDef ..=_;simp only [↓ofL];rfl);YqI 69 r (by rfl)),
 (letI r:=_;haveI:YstK 2000=r:=(by show Stmt.FunctionDef ..=_;simp only [↓ofL];rfl);YqI 2000 r (by rfl)),
 (letI r:=_;haveI:YstK 54000=r:=(by show Stmt.FunctionDef ..=_;simp only [↓ofL];rfl);YqI 54000 r (by rfl)),
 (letI r:=_;haveI:YstK 54001=r:=(by show Stmt.FunctionDef ..=_;simp only [↓ofL];rfl);YqI 54001 r (by rfl)),
 (letI r:=_;haveI:YstK 54003=r:=(by show Stmt.FunctionDef ..=_;simp only [↓ofL];rfl);YqI 54003 r (by rfl)),
 (letI r:=_;haveI:YstK 54004=r:=(by show Stmt.FunctionDef ..=_;simp only [↓ofL];rfl);YqI 54004 r (by rfl)),
 (letI r:=_;haveI:YstK 54005=r:=(by show Stmt.FunctionDef ..=_;simp only [↓ofL];rfl);YqI 54005 r (by rfl)),
 (letI r:=_;haveI:YstK 54006=r:=(by show Stmt.FunctionDef ..=_;simp only [↓ofL];rfl);YqI 54006 r (by rfl)),
 (letI r:=_;haveI:YstK 54007=r:=(by show Stmt.FunctionDef ..=_;simp only [↓ofL];rfl);YqI 54007 r (by rfl)),
 (letI r:=_;haveI:YstK 54008=r:=(by show Stmt.FunctionDef ..=_;simp only [↓ofL];rfl);YqI 54008 r (by rfl)),
 (letI r:=_;haveI:YstK 54009=r:=(by show Stmt.FunctionDef ..=_;simp only [↓ofL];rfl);YqI 54009 r (by rfl)),
 (letI r:=_;haveI:YstK 54011=r:=(by show Stmt.FunctionDef ..=_;simp only [↓ofL];rfl);YqI 54011 r (by rfl)),
 (letI r:=_;haveI:YstK 54012=r:=(by show Stmt.FunctionDef ..=_;simp only [↓ofL];rfl);YqI 54012 r (by rfl)),
 (letI r:=_;haveI:YstK 54014=r:=(by show Stmt.FunctionDef ..=_;simp only [↓ofL];rfl);YqI 54014 r (by rfl)),
 (letI r:=_;haveI:YstK 54017=r:=(by show Stmt.FunctionDef ..=_;simp only [↓ofL];rfl);YqI 54017 r (by rfl)),
 (letI r:=_;haveI:YstK 54021=r:=(by show Stmt.FunctionDef ..=_;simp only [↓ofL];rfl);YqI 54021 r (by rfl)),
 (letI r:=_;haveI:YstK 56000=r:=(by show Stmt.FunctionDef ..=_;simp only [↓ofL];rfl);YqI 56000 r (by rfl))]
noncomputable def fndQ(k:Nat)(l:List { x:Nat × Stmt // YstK x.1=x.2 }):Stmt:=match l with
 | []=>YstK k
 | x::r=>match Nat.beq x.1.1 k with
  | true=>x.1.2
  | false=>fndQ k r
theorem Ab9(k:Nat):∀ l,fndQ k l=YstK k
 | []=>rfl
 | x::r=>by
  unfold fndQ
  split
  ·rename_i h
   rw [←x.2,Nat.eq_of_beq_eq_true h]
  ·exact Ab9 k r
noncomputable def Yqsp:=λP=>letI r:=_;haveI:YspO P=r:=(by unfold YspO boot_o_0 boot_o_1 boot_o_4 boot_o_5 boot_o_6 boot_o_7 boot_o_8 boot_o_9 boot_o_10;simp only [↓ofL];rfl);(by exact rfl:YspO P=r)
noncomputable def Yqb3:=λP=>letI r:=_;haveI:boot_o_3 P=r:=(by unfold boot_o_3;simp only [↓ofL];rfl);(by exact rfl:boot_o_3 P=r)
noncomputable def YqmE:=λg=>letI r:=_;haveI:YmET g=r:=(by unfold YmET;simp only [↓ofL];rfl);(by exact rfl:YmET g=r)
noncomputable def Yqpm:=letI r:=_;haveI:YpmT=r:=(by unfold YpmT;simp only [↓ofL];rfl);(by exact rfl:YpmT=r)
noncomputable def Acf:YSrc:=⟨λk=>fndQ k YqL,λP=>Yrhs (Yqsp P),λP=>Yrhs (Yqb3 P),Yrhs (YqmE (YsOf Aei.1,YsOf Aek.1)),Yrhs Yqpm⟩
theorem Zp:Ace=Acf:=by
 have e1:YspO=λP=>Yrhs (Yqsp P):=funext Yqsp
 have e2:boot_o_3=λP=>Yrhs (Yqb3 P):=funext Yqb3
 have e3:YmET (Ycst 51,Ycst 36)=Yrhs (YqmE (YsOf Aei.1,YsOf Aek.1)):=by
  refine Eq.trans ?_ (YqmE (YsOf Aei.1,YsOf Aek.1))
  exact congrArg YmET (Prod.ext (Aei.2.trans (ofL _)) (Aek.2.trans (ofL _)))
 have e4:YstK=λk=>fndQ k YqL:=funext λk=>(Ab9 k YqL).symm
 show YSrc.mk _ _ _ _ _=YSrc.mk _ _ _ _ _
 exact congr (congr (congr (congr (congrArg YSrc.mk e4) e1) e2) e3) Yqpm
noncomputable def Aa(P:Params)(a:Nat):Option Obj:=match Nat.blt a 604 with
 | true=>Yobj? Acf P a
 | false=>none
noncomputable def denZ:Code->Sem Fin:=ZFast.zw11892475500146522536 ZFast.tableZ
theorem Ku:denZ=denote table:=by
 unfold denZ
 rw [←ZFast.ze11892475500146522536,←ZFast.tableZ_eq]
noncomputable def Gf(a:Addr)(fd:FuncData)(args:Args):Sem Fin:=
 let jp:Str->Sem Fin:=λcompiled=>R.bindR (ZFast.zw9782568553167038054 fd args) λbs=>
  R.bindR (ZFast.zw11113344188204177931 fd.scope fd.globals fd.closure bs (compiled++".<locals>.") (some a) fd.code none fd.builtins) λenv=>
  Sem.pure (.again (match fd.body with
   | .stmts b=>.func b env
   | .expr e=>.expr e env))
 match fd.code with
 | .none=>R.bindR (Sem.pure fd.qualname) jp
 | c=>R.bindR (ZFast.zw6609576154772507232 c 1) λx=>match x with
  | .str q _=>R.bindR (Sem.pure q) jp
  | _=>R.bindR (Sem.pure fd.qualname) jp
theorem Cp:Gf=Eb:=by
 funext a fd args
 unfold Gf Eb
 rw [←ZFast.ze9782568553167038054,←ZFast.ze11113344188204177931,←ZFast.ze6609576154772507232,←R.bindR_eq]
 rfl
structure B3 where
 x:Bool
 y:Bool
 z:Bool
variable {w:World}{b:B3}
noncomputable def ftZ(P:Params)(b:B3)(s:String):Bool:=match eqS s "special-get-raises" with
 | true=>b.x
 | false=>match eqS s "comprehension-iter-twice" with
  | true=>b.y
  | false=>match eqS s "for-iterable-display-folded" with
   | true=>b.z
   | false=>P.followText s
noncomputable def PZ(P:Params)(b:B3):Params:={ P with followText:=ftZ P b }
noncomputable def wZ(w:World)(b:B3):World:={ w with params:=PZ w.params b }
noncomputable def b3Of(P:Params):B3:=⟨P.followText "special-get-raises",P.followText "comprehension-iter-twice",P.followText "for-iterable-display-folded"⟩
theorem wZ_of(w:World):wZ w (b3Of w.params)=w:=by
 have:ftZ w.params (b3Of w.params)=w.params.followText:=by
  funext s
  unfold ftZ
  cases h1:eqS s "special-get-raises" with
  | true=>rw [Kt h1];rfl
  | false=>
   cases h2:eqS s "comprehension-iter-twice" with
   | true=>rw [Kt h2];rfl
   | false=>
    cases h3:eqS s "for-iterable-display-folded" with
    | true=>rw [Kt h3];rfl
    | false=>rfl
 unfold wZ PZ
 rw [this]
noncomputable def limOk(o:Option Obj):Bool:=match o with
 | some ⟨_,_,.dict es _,_⟩=>(es.toList.all λe=>match e.key with
  | .str _ _=>true
  | _=>false) && (nsFind es "sys.recursionlimit").isNone
 | _=>false
theorem limZ(P:Params):limOk (Aa P 2)=true:=by kernel_rfl
theorem Ic{P:Params}{h:Heap}(S:Stat (Aa P) h):h.NoLimit:=by
 have z:=limZ P
 unfold limOk at z
 split at z
 ·rename_i c d es n sl e
  obtain ⟨h1,h2⟩:=Bool.and_eq_true_iff.mp z
  refine ⟨nsFind es,⟨_,es,n,S _ _ e,rfl,λe' he=>?_,λ_=>rfl⟩,Option.isNone_iff_eq_none.mp h2⟩
  have:=List.all_eq_true.mp h1 e' (Array.mem_toList_iff.mpr he)
  revert this
  cases e'.key<;>intro this<;>first|exact ⟨_,_,rfl⟩|cases this
 ·cases z
noncomputable abbrev Ok(w:World)(b:B3)(x:Con):Prop:=x.Valid (wZ w b) (Aa w.params)
noncomputable abbrev OkX(w:World)(b:B3)(y:ConX):Prop:=y.Valid (wZ w b) (Aa w.params)
noncomputable abbrev OkF(w:World)(b:B3)(x:Con)(need:List AO->Prop)(also:AL):Prop:=Ad (wZ w b) (Aa w.params) x need also
noncomputable def VZ(w:World)(b:B3)(cons:List CF)(room dp un:Nat)(fr:Option (List Env))(gd:Option (List Code)):SV:=
 ⟨wZ w b,⟨none,dp,fr,gd,un⟩,room,Aa w.params,cons,denZ,Gf⟩
theorem ok_of{cons:List CF}(x:Con)(K:List Ent)(n q:Nat)(σ τ:List Nat)(hcons:∀ f∈cons,∀ a t c,OkX w b (f a t c))
  (hK:K.map (λe=>(e.a,e.o))=x.pre)(hw:∀ e∈K,e.w=true->e.a∈x.upd.map (·.1))(hf:∀ e∈K,e.f=false)
  (hrun:∀ dp fr gd un al tk,Jn (VZ w b cons x.deep dp un fr gd) x n q K σ τ al tk=(Jn (VZ w b cons x.deep dp un fr gd) x n q K σ τ al tk).to .done):Ok w b x:=
 Abo x K n q σ τ Ku Cp (λ_=>Ic) hcons hK hw hf hrun
theorem okF_of{cons:List CF}(x:Con)(need:List AO->Prop)(also:AL)(K:List Ent)(n q:Nat)(σ τ:List Nat)(E:EF)(hcons:∀ f∈cons,∀ a t c,OkX w b (f a t c))
  (hK:K.map (λe=>(e.a,e.o))=x.pre)(hw:∀ e∈K,e.w=true->e.a∈x.upd.map (·.1))(hf:∀ e∈K,e.f=false)
  (hrun:∀ dp fr gd un al tk,Jn (VZ w b cons x.deep dp un fr gd) x n q K σ τ al tk=(Jn (VZ w b cons x.deep dp un fr gd) x n q K σ τ al tk).toE .done (E al tk))
  (hfin:∀ al tk X,need X->Ch (also (cut x.n λj=>al (nthD σ j)) (cut x.nt λj=>tk (nthD τ j))) (E al tk) X []):OkF w b x need also:=
 Wo x need also K n q σ τ E Ku Cp (λ_=>Ic) hcons hK hw hf hrun hfin
noncomputable def redZ(i:Int):Int:=
 cond (@decide (-2 ^ 63<=i) (Z.leZ (-2 ^ 63) i) && @decide (i < 2 ^ 63) (Z.ltZ i (2 ^ 63))) (cond (@BEq.beq Int (@instBEqOfDecidableEq Int Z.eqZ) i (-1)) (-2) i)
  (have h:Int:=(i.natAbs:Int) % (2 ^ 61 - 1)
   have h:Int:=@ite Int (i < 0) (Z.ltZ i 0) (-h) h
   cond (@BEq.beq Int (@instBEqOfDecidableEq Int Z.eqZ) h (-1)) (-2) h)
noncomputable def hz(P:Params)(x:Str):Int:=cond x.cps.isEmpty 0 (redZ (P.strHash x.cps))
noncomputable def ent(P:Params)(x:Str)(t:Tok)(v:Value):DictEntry:=⟨hz P x,.str x t,v⟩
noncomputable def Lo(d:Addr):Obj:={ cls:=.ref 495,dict:=some d,data:=.plain }
noncomputable def Dq(es:List DictEntry)(n:Nat):Obj:={ cls:=.type "dict",data:=.dict es.toArray n }
noncomputable def Ac(vs:List Value)(n:Nat):Obj:={ cls:=.type "list",data:=.seq vs.toArray n }
noncomputable def wOf:List Ent->List Addr
 | []=>[]
 | e::r=>match e.w with
  | true=>e.a::wOf r
  | false=>wOf r
noncomputable def fOf:List Ent->Bool
 | []=>false
 | e::r=>match e.f with
  | true=>true
  | false=>fOf r
noncomputable abbrev WsOk(K:List Ent)(L:List Addr):Prop:=∀ e∈K,e.w=true->e.a∈L
theorem Ze:∀ {K:List Ent},∀ e∈K,e.w=true->e.a∈wOf K:=by
 intro K
 induction K with
 | nil=>intro e h;cases h
 | cons x r ih=>
  intro e he hw
  unfold wOf
  rcases mcm he with rfl|he
  ·rw [hw];exact .head _
  ·cases x.w
   ·exact ih e he hw
   ·exact .tail _ (ih e he hw)
theorem wS{K:List Ent}{L:List Addr}(h:wOf K=L):WsOk K L:=λe he hw=>h▸Ze e he hw
theorem wP{K:List Ent}{L:List Addr}(s:List Nat)(h:wOf K=s.map λi=>L.getD i 0)(hs:(s.all λi=>Nat.blt i L.length)=true):WsOk K L:=λe he hw=>by
 have z:=Ze e he hw
 rw [h] at z
 obtain ⟨i,hi,e⟩:=mmp z
 have hl:=Nat.le_of_ble_eq_true (List.all_eq_true.mp hs i hi)
 rw [←e,List.getD_eq_getElem?_getD,List.getElem?_eq_getElem hl]
 exact List.getElem_mem hl
theorem f_ok:∀ {K:List Ent},fOf K=false->∀ e∈K,e.f=false:=by
 intro K h
 induction K with
 | nil=>intro e h;cases h
 | cons x r ih=>
  intro e he
  unfold fOf at h
  cases hx:x.f with
  | true=>rw [hx] at h;cases h
  | false=>
   rw [hx] at h
   rcases mcm he with rfl|he
   ·exact hx
   ·exact ih h e he
@[elab_as_elim] theorem gg2 {P:Bool->Bool->Prop}(a b:Bool)(ff:P false false)(ft:P false true)(tf:P true false)(tt:P true true):P a b:=by cases a<;>cases b<;>assumption
noncomputable abbrev Fm(w:World)(b:B3):={f:CF // ∀ a t c,OkX w b (f a t c)}
noncomputable def fms:List (Fm w b)->List CF
 | []=>[]
 | p::r=>p.1::fms r
theorem Pk:∀ (l:List (Fm w b)),∀ f∈fms l,∀ a t c,OkX w b (f a t c)
 | p::r,f,hf=>by
  rcases mcm hf with rfl|hf
  ·exact p.2
  ·exact Pk r f hf
theorem wokA{K:List Ent}{l:List Addr}(h:WsOk K l:=by first|exact wS rfl|exact wP [0,2,1] rfl rfl|exact wP [1,0] rfl rfl|exact wP [1,0,2] rfl rfl|exact wP [0,1,3,2] rfl rfl|exact wP [1] rfl rfl|exact wP [0,1,2,4,3] rfl rfl|exact wP [0,2,3,1] rfl rfl|exact wP [0,3,1,2] rfl rfl|exact wP [1,2,0] rfl rfl|exact wP [2,0,1] rfl rfl|exact wP [2,1,0] rfl rfl):WsOk K l:=h
section
variable {w:World}{A:Around}{R:Result->Shared->Prop}{s:Shared}
theorem Bj{T:String}{name:Str}{id:String}{b:Builtin}{self:Value}{rest:List Value}(h:Slot T name id)(hT:s.TypeIs self T)(hb:entryFor table id=some b)(ha:argsOk id ⟨self::rest,[]⟩)
  (hc:wpAny (model prog w) A.in1 (b ⟨self::rest,[]⟩) (λfin s'=>∃ v,fin=.done (.ret v)/\R (.ok (.ret v)) s') (λe s'=>R (.error e) s') s) :
  codeAny (model prog w) A (.call (.builtin id) ⟨self::rest,[]⟩) R s:=by
 refine codeAny_call_builtin h.plain hb (h.check _ _ _ _ _ _ _ _ hT ha (wpAny_mono hc (λfin s' h'=>?_) λ_ _ h'=>h'))
 obtain ⟨v,rfl,hv⟩:=h';exact hv
theorem Ae6{id:String}{b:Builtin}{args:List Value}(hk:builtinKind id=none)(hp:plainId id=true)(hb:entryFor table id=some b)(ha:argsOk id ⟨args,[]⟩)
  (hc:wpAny (model prog w) A.in1 (b ⟨args,[]⟩) (λfin s'=>∃ v,fin=.done (.ret v)/\R (.ok (.ret v)) s') (λe s'=>R (.error e) s') s) :
  codeAny (model prog w) A (.call (.builtin id) ⟨args,[]⟩) R s:=by
 refine codeAny_call_builtin hp hb ?_
 have hfin:=wpAny_mono hc (Q':=λfin s'=>match fin with
   | .done f=>R (.ok f) s'
   | .again c'=>c'.quiet=true/\codeAny (model prog w) A c' R s')
  (λfin s' h'=>by obtain ⟨v,rfl,hv⟩:=h';exact hv) λ_ _ h'=>h'
 simp only [checkBuiltinCall,hk]
 cases hsig:Manifest.signature? id with
 | none=>exact wpAny_pure hfin
 | some sig=>
  simp only [argsOk,hsig] at ha
  have h2:Bind.checkArgs id sig ⟨args,[]⟩=pure ():=ha
  show wpAny _ A.in1 (Bind.checkArgs id sig ⟨args,[]⟩) _ _ s
  rw [h2];exact wpAny_pure hfin
end
noncomputable def cLt(a b:Int)(t u:Tok)(r:Bool):Con:=⟨.call (.builtin "int.__lt__") ⟨[.int a t,.int b u],[]⟩,[],[],0,λ_ _=>[],0,λ_ _=>.ok (.ret (.bool r)),0⟩
theorem Wv{w:World}{st:Nat->Option Obj}{a b:Int}{t u:Tok}{r:Bool}(h:decide (a < b)=r):(cLt a b t u r).Valid w st:=by
 intro A s R _ _ _ _ _ hR
 refine Bj slot_int_lt (by first|rfl|exact ⟨_,rfl⟩|simp [Shared.TypeIs]) entry_int_lt (by unfold argsOk;kernel_rfl) ?_
 have g:=gives_int_lt a b t u prog w A R s
 have z:=hR (λ_=>0) (λ_=>0) s.heap s.toks (Be.refl _) (λ_ _ e _=>e) (λ_ hp=>(nomatch hp)) (λ_ hp=>(nomatch hp)) List.nodup_nil
 show wpAny _ _ (Sem.pure (Fin.done (.ret (.bool (decide (a < b)))))) _ _ _
 rw [h]
 exact wpAny_pure ⟨_,rfl,z⟩
noncomputable def cLen(l:Addr)(vs:List Value)(k:Nat):Con:=⟨.call (.builtin "len") ⟨[.ref l],[]⟩,[(l,Ac vs k)],[],0,λ_ _=>[],1,λ_ tk=>.ok (.ret (.int vs.length (tk 0))),0⟩
theorem My{h:Heap}{l:Addr}{vs:List Value}{k:Nat}(e:h.get? l=some (Ac vs k)):h.IsList l vs.toArray:=⟨_,e,rfl,k,rfl⟩
theorem Ht{w:World}{st:Nat->Option Obj}{l:Addr}{vs:List Value}{k:Nat}(hfit:(vs.length:Int) < 2 ^ 63):(cLen l vs k).Valid w st:=by
 intro A s R _ _ _ hp _ hR
 have ho:=(hp _ (.head _)).1
 have hl:=My ho
 have z:=hR (λ_=>0) (λ_=>s.toks+1) s.heap (s.toks+1+1) (Be.refl _) (λ_ _ e _=>e) (λ_ hp=>(nomatch hp)) (λ_ hp=>(nomatch hp)) List.nodup_nil
 refine Ae6 kind_len plain_len entry_len (args_len1 _) ?_
 unfold Builtin.«len»
 refine wpAny_bind (m:=oneArg "len" _) (wpAny_pure ?_)
 refine wpAny_bind (m:=callSpecial? (.ref l) (Str.ofString "__len__")) (wpAny_callSpecial?_slot (name:=Str.ofString "__len__") hl.typeIs slot_list_len
  (wpAny_call_entry slot_list_len hl.typeIs entry_list_len ?_ (args_list_len _)))
 show wpAny _ _ (do retInt (←seqSize l)) _ _ s
 unfold seqSize
 refine wpAny_bind (wpAny_bind (wpAny_load ho ?_))
 refine wpAny_pure (wpAny_bind (wpAny_mkInt (wpAny_pure ⟨_,rfl,?_⟩)))
 refine wpAny_bind (wpAny_holding (wpAny_pure ?_))
 refine wpAny_bind (wpAny_letGo ?_)
 show wpAny _ _ (if ((vs.toArray.size:Nat):Int) < 0 then _ else _) _ _ _
 rw [if_neg (by omega)]
 show wpAny _ _ (if ((vs.toArray.size:Nat):Int) ≥ 2 ^ 63 then _ else _) _ _ _
 rw [if_neg (by simp;omega)]
 exact wpAny_bind (wpAny_mkInt (wpAny_pure ⟨_,rfl,z⟩))
noncomputable def Abz(l:Addr)(vs:List Value)(n:Nat)(k:Int)(t:Tok)(v:Value):Con:=⟨.call (.builtin "list.__getitem__") ⟨[.ref l,.int k t],[]⟩,[(l,Ac vs n)],[],0,λ_ _=>[],0,λ_ _=>.ok (.ret v),0⟩
theorem Mk{w:World}{st:Nat->Option Obj}{l:Addr}{vs:List Value}{n:Nat}{k:Int}{t:Tok}{v:Value}(h0:0<=k)(hfit:k < 2 ^ 63)(hx:vs[k.toNat]?=some v):(Abz l vs n k t v).Valid w st:=by
 intro A s R _ _ _ hp _ hR
 have ho:=(hp _ (.head _)).1
 have hl:=My ho
 have z:=hR (λ_=>0) (λ_=>0) s.heap s.toks (Be.refl _) (λ_ _ e _=>e) (λ_ hp=>(nomatch hp)) (λ_ hp=>(nomatch hp)) List.nodup_nil
 refine Bj slot_list_getitem hl.typeIs entry_list_getitem (args_list_getitem _ _) ?_
 show wpAny _ _ (Builtin.List.listSubscript? (.int k t) >>= _) _ _ s
 refine wpAny_bind (wpAny_listSubscript_int (fitsIndex_of h0 hfit) ?_)
 clear hfit
 obtain ⟨j,rfl⟩:=Int.eq_ofNat_of_zero_le h0
 have hx':vs.toArray[j]?=some v:=by simpa using hx
 show wpAny _ _ ((seqItemAt l j >>= λr=>pure (r.map (j,·))) >>= _) _ _ s
 refine wpAny_bind (wpAny_bind (wpAny_seqItemAt ho rfl (wpAny_pure ?_)))
 rw [hx']
 first
  | exact wpAny_bind (wpAny_pure (wpAny_pure ⟨v,rfl,z⟩))
  | exact wpAny_pure ⟨v,rfl,z⟩

noncomputable def Ac0(vs:List Value)(n:Nat)(c:Code):Con:=
 ⟨.builtin "list.__iadd__" ⟨[.ref (Af c 0),.ref (Af c 1)],[]⟩,[(Af c 0,Ac [] 0),(Af c 1,Ac vs n)],[(Af c 0,λ_=>Obj.mapSeq (·++vs.toArray) (Ac [] 0))],0,λ_ _=>[],0,λ_ _=>.ok (.ret (.ref (Af c 0))),0⟩
theorem Ml{w:World}{st:Nat->Option Obj}{vs:List Value}{n:Nat}(hsz:vs.length<=sizeLine)(c:Code):(Ac0 vs n c).Valid w st:=by
 intro A s R _ _ _ hp hn hR
 have h1:=(hp _ (.head _)).1
 have h2:=(hp _ (.tail _ (.head _))).1
 refine codeAny_builtin F.entry_list_iadd ?_
 rw [Around.under_plainId F.plain_list_iadd _]
 show wpAny _ A.in1 (Builtin.List.listExtendWith (.ref (Af c 0)) (.ref (Af c 1)) (.ref (Af c 0))) _ _ _
 have hs:Heap.SameBut (Af c 0) s.heap (s.heap.update (Af c 0) (Obj.mapSeq (·++vs.toArray))):=Heap.SameBut.update ..
 refine wpAny_extend_seq (hsz:=by simpa using hsz) (Af c 0) (Af c 1) _ 0 (.inl rfl) h1 h2 rfl rfl ?_
 refine hR (λ_=>0) (λ_=>0) _ s.toks (Be.sameBut hs (Heap.get?_update_self _ h1 rfl)) (λb o e hne=>(hs.2 b λz=>hne _ (.head _) z.symm).trans e) (λp hp=>?_) (λ_ hp=>(nomatch hp)) List.nodup_nil
 rcases mcm hp with rfl|hp
 ·have h1':s.heap.get? (Af c 0)=some (Ac [] 0):=h1
  exact (Heap.get?_update_self (Obj.mapSeq (·++vs.toArray)) h1' rfl:_=some (Obj.mapSeq (·++vs.toArray) (Ac [] 0)))
 ·cases hp
structure Rdr where
 rd:Addr
 d:Addr
 tl:Addr
 nd:Addr
 t1:Tok
 t2:Tok
 t3:Tok
 nn:Nat
 kl:Nat
 vs:List Value
structure Tk where
 a:Addr
 d:Addr
 ta:Addr
 kd:Str
 wo:Str
 t1:Tok
 t2:Tok
 t3:Tok
 t4:Tok
 t5:Tok
 t6:Tok
 nn:Nat
noncomputable def Rdr.dict(P:Params)(r:Rdr)(p:Int)(t:Tok):Obj:=Dq [ent P "tokens" r.t1 (.ref r.tl),ent P "at" r.t2 (.int p t),ent P "named" r.t3 (.ref r.nd)] r.nn
noncomputable def Rdr.K(P:Params)(r:Rdr)(p:Int)(t:Tok)(w:Bool):List Ent:=[⟨r.rd,Lo r.d,false,false⟩,⟨r.d,r.dict P p t,w,false⟩,⟨r.tl,Ac r.vs r.kl,false,false⟩]
noncomputable def Tk.obj(k:Tk):Obj:={ cls:=.ref 525,dict:=some k.d,data:=.plain }
noncomputable def Tk.dict(P:Params)(k:Tk):Obj:=Dq [ent P "kind" k.t1 (.str k.kd k.t5),ent P "worth" k.t2 (.str k.wo k.t6),ent P "at" k.t3 (.ref k.ta),ent P "is_in_a" k.t4 (.bool false)] k.nn
noncomputable def Tk.K(P:Params)(k:Tk):List Ent:=[⟨k.a,k.obj,false,false⟩,⟨k.d,k.dict P,false,false⟩]
noncomputable def NxK(P:Params):Option Tk->List Ent
 | none=>[]
 | some k=>k.K P
noncomputable def Au(K:List Ent):List AO:=K.map λe=>(e.a,e.o)
noncomputable def At(r:Rdr)(p:Int)(nx:Option Tk):Prop:=0<=p/\r.vs.length < 2 ^ 62/\match nx with
 | none=>r.vs.length<=p
 | some k=>r.vs[p.toNat]?=some (.ref k.a)
noncomputable def Jh(P:Params)(r:Rdr)(p:Int)(t:Tok)(k:Int)(v:Value)(c:Code):Con:=
 ⟨.call (.ref 349) ⟨[.ref r.rd,.int k (Aj c 1)],[]⟩,Au (r.K P p t false),[],0,λ_ _=>[],0,λ_ _=>.ok (.ret v),10⟩
noncomputable def Ed(P:Params)(r:Rdr)(p:Int)(t:Tok)(v:Value)(_:Code):Con:=
 ⟨.call (.ref 349) ⟨[.ref r.rd],[]⟩,Au (r.K P p t false),[],0,λ_ _=>[],0,λ_ _=>.ok (.ret v),10⟩
noncomputable def nxV:Option Tk->Value
 | none=>.none
 | some k=>.ref k.a
noncomputable def cSEq(x y:Str)(r:Bool)(c:Code):Con:=⟨.call (.builtin "str.__eq__") ⟨[.str x (Aj c 0),.str y (Aj c 1)],[]⟩,[],[],0,λ_ _=>[],0,λ_ _=>.ok (.ret (.bool r)),0⟩
noncomputable def cSNe(x y:Str)(r:Bool)(c:Code):Con:=⟨.call (.builtin "str.__ne__") ⟨[.str x (Aj c 0),.str y (Aj c 1)],[]⟩,[],[],0,λ_ _=>[],0,λ_ _=>.ok (.ret (.bool r)),0⟩
noncomputable def sEqB(x y:Str):Bool:=x.cps.toList == y.cps.toList
theorem Bl{w:World}{st:Nat->Option Obj}{x y:Str}{r:Bool}(h:sEqB x y=r)(c:Code):(cSEq x y r c).Valid w st:=by
 intro A s R _ _ _ _ _ hR
 refine Bj (T:="str") slot_str_eq (by first|rfl|exact ⟨_,rfl⟩) entry_str_eq (by unfold argsOk;kernel_rfl) ?_
 have z:=hR (λ_=>0) (λ_=>0) s.heap s.toks (Be.refl _) (λ_ _ e _=>e) (λ_ hp=>(nomatch hp)) (λ_ hp=>(nomatch hp)) List.nodup_nil
 show wpAny _ _ (Sem.pure (Fin.done (.ret (.bool (sEqB x y))))) _ _ _
 rw [h]
 exact wpAny_pure ⟨_,rfl,z⟩
theorem Ky{w:World}{st:Nat->Option Obj}{x y:Str}{r:Bool}(h:sEqB x y=!r)(c:Code):(cSNe x y r c).Valid w st:=by
 intro A s R _ _ _ _ _ hR
 refine Bj (T:="str") slot_str_ne (by first|rfl|exact ⟨_,rfl⟩) entry_str_ne (by unfold argsOk;kernel_rfl) ?_
 have z:=hR (λ_=>0) (λ_=>0) s.heap s.toks (Be.refl _) (λ_ _ e _=>e) (λ_ hp=>(nomatch hp)) (λ_ hp=>(nomatch hp)) List.nodup_nil
 show wpAny _ _ (Sem.pure (Fin.done (.ret (.bool (!(sEqB x y)))))) _ _ _
 rw [h,Bool.not_not]
 exact wpAny_pure ⟨_,rfl,z⟩
noncomputable def pl(f:Code->Con)(h:∀ c,Ok w b (f c)):Fm w b:=⟨λ_ _ c=>.plain (f c),λ_ _ c=>h c⟩
noncomputable def fl(f:Code->Con)(nd:List AO->Prop)(al:AL)(h:∀ c,OkF w b (f c) nd al):Fm w b:=⟨λ_ _ c=>.full (f c) nd al,λ_ _ c=>h c⟩
noncomputable abbrev RqP(w:World)(b:B3)(d:List CF)(x:Con)(n q:Nat)(K:List Ent)(σ τ:List Nat)(dp:Nat)(fr:Option (List Env))(gd:Option (List Code))(un:Nat)(al:Nat->Addr)(tk:Nat->Tok):Prop:=Jn (VZ w b d x.deep dp un fr gd) x n q K σ τ al tk=(Jn (VZ w b d x.deep dp un fr gd) x n q K σ τ al tk).to .done
noncomputable abbrev RqF(w:World)(b:B3)(d:List CF)(x:Con)(n q:Nat)(K:List Ent)(σ τ:List Nat)(E:EF)(dp:Nat)(fr:Option (List Env))(gd:Option (List Code))(un:Nat)(al:Nat->Addr)(tk:Nat->Tok):Prop:=Jn (VZ w b d x.deep dp un fr gd) x n q K σ τ al tk=(Jn (VZ w b d x.deep dp un fr gd) x n q K σ τ al tk).toE .done (E al tk)
theorem oP{x:Con}(l:List (Fm w b))(K:List Ent)(n q:Nat)(σ τ:List Nat)
  (h:∀ dp fr gd un al tk,RqP w b (fms l) x n q K σ τ dp fr gd un al tk)(hK:K.map (λe=>(e.a,e.o))=x.pre:=by rfl)(hw:WsOk K (x.upd.map (·.1)):=by exact wokA)(hf:fOf K=false:=by rfl):Ok w b x:=ok_of x K n q σ τ (Pk l) hK hw (f_ok hf) h
theorem oPX{x:Con}(l:List (Fm w b))(K:List Ent)(n q:Nat)(σ τ:List Nat)
  (h0:∀ y z dp fr gd un al tk,RqP w ⟨false,y,z⟩ (fms l) x n q K σ τ dp fr gd un al tk)(h1:∀ y z dp fr gd un al tk,RqP w ⟨true,y,z⟩ (fms l) x n q K σ τ dp fr gd un al tk)(hK:K.map (λe=>(e.a,e.o))=x.pre:=by rfl)(hw:WsOk K (x.upd.map (·.1)):=by exact wokA)(hf:fOf K=false:=by rfl):Ok w b x:=by
 obtain ⟨_ | _,y,z⟩:=b
 ·exact oP l K n q σ τ (h0 y z) hK hw hf
 ·exact oP l K n q σ τ (h1 y z) hK hw hf
theorem oPY{x:Con}(l:List (Fm w b))(K:List Ent)(n0 n1 q0 q1:Nat)(σ τ:List Nat)
  (h00:∀ z dp fr gd un al tk,RqP w ⟨false,false,z⟩ (fms l) x n0 q0 K σ τ dp fr gd un al tk)(h01:∀ z dp fr gd un al tk,RqP w ⟨false,true,z⟩ (fms l) x n1 q1 K σ τ dp fr gd un al tk)(h10:∀ z dp fr gd un al tk,RqP w ⟨true,false,z⟩ (fms l) x n0 q0 K σ τ dp fr gd un al tk)(h11:∀ z dp fr gd un al tk,RqP w ⟨true,true,z⟩ (fms l) x n1 q1 K σ τ dp fr gd un al tk)(hK:K.map (λe=>(e.a,e.o))=x.pre:=by rfl)(hw:WsOk K (x.upd.map (·.1)):=by exact wokA)(hf:fOf K=false:=by rfl):Ok w b x:=by
 obtain ⟨_ | _,_ | _,z⟩:=b
 ·exact oP l K n0 q0 σ τ (h00 z) hK hw hf
 ·exact oP l K n1 q1 σ τ (h01 z) hK hw hf
 ·exact oP l K n0 q0 σ τ (h10 z) hK hw hf
 ·exact oP l K n1 q1 σ τ (h11 z) hK hw hf
theorem oF{x:Con}{need:List AO->Prop}{also:AL}(l:List (Fm w b))(K:List Ent)(n q:Nat)(σ τ:List Nat)(E:EF)
  (h:∀ dp fr gd un al tk,RqF w b (fms l) x n q K σ τ E dp fr gd un al tk)(hfin:∀ al tk X,need X->Ch (also (cut x.n λj=>al (nthD σ j)) (cut x.nt λj=>tk (nthD τ j))) (E al tk) X [])(hK:K.map (λe=>(e.a,e.o))=x.pre:=by rfl)(hw:WsOk K (x.upd.map (·.1)):=by exact wokA)(hf:fOf K=false:=by rfl):OkF w b x need also:=okF_of x need also K n q σ τ E (Pk l) hK hw (f_ok hf) h hfin
theorem oFX{x:Con}{need:List AO->Prop}{also:AL}(l:List (Fm w b))(K:List Ent)(n q:Nat)(σ τ:List Nat)(E:EF)
  (h0:∀ y z dp fr gd un al tk,RqF w ⟨false,y,z⟩ (fms l) x n q K σ τ E dp fr gd un al tk)(h1:∀ y z dp fr gd un al tk,RqF w ⟨true,y,z⟩ (fms l) x n q K σ τ E dp fr gd un al tk)(hfin:∀ al tk X,need X->Ch (also (cut x.n λj=>al (nthD σ j)) (cut x.nt λj=>tk (nthD τ j))) (E al tk) X [])(hK:K.map (λe=>(e.a,e.o))=x.pre:=by rfl)(hw:WsOk K (x.upd.map (·.1)):=by exact wokA)(hf:fOf K=false:=by rfl):OkF w b x need also:=by
 obtain ⟨_ | _,y,z⟩:=b
 ·exact oF l K n q σ τ E (h0 y z) hfin hK hw hf
 ·exact oF l K n q σ τ E (h1 y z) hfin hK hw hf
theorem oFY{x:Con}{need:List AO->Prop}{also:AL}(l:List (Fm w b))(K:List Ent)(n0 n1 q0 q1:Nat)(σ τ:List Nat)(E:EF)
  (h00:∀ z dp fr gd un al tk,RqF w ⟨false,false,z⟩ (fms l) x n0 q0 K σ τ E dp fr gd un al tk)(h01:∀ z dp fr gd un al tk,RqF w ⟨false,true,z⟩ (fms l) x n1 q1 K σ τ E dp fr gd un al tk)(h10:∀ z dp fr gd un al tk,RqF w ⟨true,false,z⟩ (fms l) x n0 q0 K σ τ E dp fr gd un al tk)(h11:∀ z dp fr gd un al tk,RqF w ⟨true,true,z⟩ (fms l) x n1 q1 K σ τ E dp fr gd un al tk)(hfin:∀ al tk X,need X->Ch (also (cut x.n λj=>al (nthD σ j)) (cut x.nt λj=>tk (nthD τ j))) (E al tk) X [])(hK:K.map (λe=>(e.a,e.o))=x.pre:=by rfl)(hw:WsOk K (x.upd.map (·.1)):=by exact wokA)(hf:fOf K=false:=by rfl):OkF w b x need also:=by
 obtain ⟨_ | _,_ | _,z⟩:=b
 ·exact oF l K n0 q0 σ τ E (h00 z) hfin hK hw hf
 ·exact oF l K n1 q1 σ τ E (h01 z) hfin hK hw hf
 ·exact oF l K n0 q0 σ τ E (h10 z) hfin hK hw hf
 ·exact oF l K n1 q1 σ τ E (h11 z) hfin hK hw hf
noncomputable def Lz(r:Rdr)(p k:Int)(v:Value)(ok:Bool):List CF:=[λ_ _ c=>.plain (cLt (p+k) r.vs.length (Aj c 0) (Aj c 1) ok),λ_ _ c=>.plain (cLen r.tl r.vs r.kl),λ_ _ c=>.plain (Abz r.tl r.vs r.kl (p+k) (Aj c 1) v)]
theorem Ys{r:Rdr}{p:Int}{t:Tok}{k:Int}{a:Addr}(h0:0<=p+k)(hl:r.vs.length < 2 ^ 62)(hv:r.vs[(p+k).toNat]?=some (.ref a))(c:Code) :
  Ok w b (Jh w.params r p t k (.ref a) c):=by
 have hlt:(p+k).toNat < r.vs.length:=(List.getElem?_eq_some_iff.mp hv).1
 have hc:∀ f∈Lz r p k (.ref a) true,∀ a t c,OkX w b (f a t c):=by
  refine List.forall_mem_cons.mpr ⟨λ_ _ c=>Wv (decide_eq_true (by omega)),List.forall_mem_cons.mpr ⟨λ_ _ c=>Ht (by omega),List.forall_mem_cons.mpr ⟨λ_ _ c=>Mk h0 (by omega) hv,λ_ h=>nomatch h⟩⟩⟩
 refine ok_of (cons:=Lz r p k (.ref a) true) _ (r.K w.params p t false) 132 g0N [] [] hc rfl (by simp [Rdr.K]) (by simp [Rdr.K]) ?_
 obtain ⟨_ | _,_,_⟩:=b<;>intros<;>kernel_rfl
theorem Yt{r:Rdr}{p:Int}{t:Tok}{k:Int}(hl:r.vs.length < 2 ^ 62)(hv:r.vs.length<=p+k)(c:Code) :
  Ok w b (Jh w.params r p t k .none c):=by
 have hc:∀ f∈(Lz r p k .none false).take 2,∀ a t c,OkX w b (f a t c):=by
  refine List.forall_mem_cons.mpr ⟨λ_ _ c=>Wv (decide_eq_false (by omega)),List.forall_mem_cons.mpr ⟨λ_ _ c=>Ht (by omega),λ_ h=>nomatch h⟩⟩
 refine ok_of (cons:=(Lz r p k .none false).take 2) _ (r.K w.params p t false) 80 g1N [] [] hc rfl (by simp [Rdr.K]) (by simp [Rdr.K]) ?_
 obtain ⟨_ | _,_,_⟩:=b<;>intros<;>kernel_rfl


theorem Xv{r:Rdr}{p:Int}{t:Tok}{a:Addr}(h0:0<=p+0)(hl:r.vs.length < 2 ^ 62)(hv:r.vs[(p+0).toNat]?=some (.ref a))(c:Code):Ok w b (Ed w.params r p t (.ref a) c):=by
 have hlt:(p+0).toNat < r.vs.length:=(List.getElem?_eq_some_iff.mp hv).1
 let lZ:List (Fm w b):=[⟨λ_ _ c=>.plain (cLt (p+0) r.vs.length (Aj c 0) (Aj c 1) true),λ_ _ _=>Wv (decide_eq_true (by omega))⟩,pl (λ_=>cLen r.tl r.vs r.kl) λ_=>Ht (by omega),⟨λ_ _ c=>.plain (Abz r.tl r.vs r.kl (p+0) (Aj c 1) (.ref a)),λ_ _ _=>Mk h0 (by omega) hv⟩]
 refine oPX lZ (r.K w.params p t false) 132 g0N [] [] ?_ ?_<;>intros<;>kernel_rfl
theorem Xw{r:Rdr}{p:Int}{t:Tok}(hl:r.vs.length < 2 ^ 62)(hv:r.vs.length<=p+0)(c:Code):Ok w b (Ed w.params r p t .none c):=by
 let lZ:List (Fm w b):=[⟨λ_ _ c=>.plain (cLt (p+0) r.vs.length (Aj c 0) (Aj c 1) false),λ_ _ _=>Wv (decide_eq_false (by omega))⟩,pl (λ_=>cLen r.tl r.vs r.kl) λ_=>Ht (by omega)]
 refine oPX lZ (r.K w.params p t false) 80 g1N [] [] ?_ ?_<;>intros<;>kernel_rfl
theorem Eg{r:Rdr}{p:Int}{t:Tok}{k:Int}{nx:Option Tk}(h:At r (p+k) nx)(c:Code):Ok w b (Jh w.params r p t k (nxV nx) c):=by
 obtain ⟨h0,hl,h⟩:=h
 cases nx with
 | none=>exact Yt hl h c
 | some tk=>exact Ys h0 hl h c
theorem Ci{r:Rdr}{p:Int}{t:Tok}{nx:Option Tk}(h:At r p nx)(c:Code):Ok w b (Ed w.params r p t (nxV nx) c):=by
 obtain ⟨h0,hl,h⟩:=h
 cases nx with
 | none=>exact Xw hl (by simpa using h) c
 | some tk=>exact Xv (by simpa using h0) hl (by simpa using h) c
noncomputable def Kb(P:Params)(r:Rdr)(p:Int)(t:Tok)(nx:Option Tk)(kind:Str)(k:Int)(bb:Bool)(c:Code):Con:=
 ⟨.call (.ref 378) ⟨[.ref r.rd,.str kind (Aj c 1),.int k (Aj c 2)],[]⟩,Au (r.K P p t false++NxK P nx),[],0,λ_ _=>[],0,λ_ _=>.ok (.ret (.bool bb)),15⟩
noncomputable def Aw(P:Params)(r:Rdr)(p:Int)(t:Tok)(nx:Option Tk)(kind:Str)(bb:Bool)(c:Code):Con:=
 ⟨.call (.ref 378) ⟨[.ref r.rd,.str kind (Aj c 1)],[]⟩,Au (r.K P p t false++NxK P nx),[],0,λ_ _=>[],0,λ_ _=>.ok (.ret (.bool bb)),15⟩

theorem Aax{r:Rdr}{p:Int}{t:Tok}{tk:Tk}{kind:Str}{k:Int}{bb:Bool}(h:At r (p+k) (some tk))(he:sEqB tk.kd kind=bb)(c:Code):Ok w b (Kb w.params r p t (some tk) kind k bb c):=by
 let lZ:List (Fm w b):=[pl (Jh w.params r p t k (.ref tk.a)) (Eg h),pl (cSEq tk.kd kind bb) (Bl he)]
 refine oPX lZ (r.K w.params p t false++NxK w.params (some tk)) 90 g2N [] [] ?_ ?_<;>intros<;>kernel_rfl
theorem Aay{r:Rdr}{p:Int}{t:Tok}{kind:Str}{k:Int}(h:At r (p+k) none)(c:Code):Ok w b (Kb w.params r p t none kind k false c):=by
 let lZ:List (Fm w b):=[pl (Jh w.params r p t k .none) (Eg h)]
 refine oP lZ (r.K w.params p t false++NxK w.params none) 66 g3N [] [] ?_<;>intros<;>kernel_rfl
theorem Yf{r:Rdr}{p:Int}{t:Tok}{tk:Tk}{kind:Str}{bb:Bool}(h:At r (p+0) (some tk))(he:sEqB tk.kd kind=bb)(c:Code):Ok w b (Aw w.params r p t (some tk) kind bb c):=by
 let lZ:List (Fm w b):=[pl (Jh w.params r p t 0 (.ref tk.a)) (Eg h),pl (cSEq tk.kd kind bb) (Bl he)]
 refine oPX lZ (r.K w.params p t false++NxK w.params (some tk)) 90 g2N [] [] ?_ ?_<;>intros<;>kernel_rfl
theorem Yg{r:Rdr}{p:Int}{t:Tok}{kind:Str}(h:At r (p+0) none)(c:Code):Ok w b (Aw w.params r p t none kind false c):=by
 let lZ:List (Fm w b):=[pl (Jh w.params r p t 0 .none) (Eg h)]
 refine oP lZ (r.K w.params p t false++NxK w.params none) 66 g3N [] [] ?_<;>intros<;>kernel_rfl
theorem At.zero{r:Rdr}{p:Int}{nx:Option Tk}(h:At r p nx):At r (p+0) nx:=by rw [Int.add_zero];exact h
noncomputable def kdB(nx:Option Tk)(kind:Str):Bool:=match nx with
 | none=>false
 | some tk=>sEqB tk.kd kind
theorem Fc{r:Rdr}{p:Int}{t:Tok}{nx:Option Tk}{kind:Str}{k:Int}{bb:Bool}(h:At r (p+k) nx)(he:kdB nx kind=bb)(c:Code):Ok w b (Kb w.params r p t nx kind k bb c):=by
 cases nx with
 | none=>cases he;exact Aay h c
 | some tk=>exact Aax h he c
theorem Al{r:Rdr}{p:Int}{t:Tok}{nx:Option Tk}{kind:Str}{bb:Bool}(h:At r p nx)(he:kdB nx kind=bb)(c:Code):Ok w b (Aw w.params r p t nx kind bb c):=by
 cases nx with
 | none=>cases he;exact Yg h.zero c
 | some tk=>exact Yf h.zero he c
noncomputable def Bq(ww:Str)(c:Code):Con:=⟨.call (.builtin "str.split") ⟨[.str ww (Aj c 0),.str " " (Aj c 1)],[]⟩,[],[],1,λnw _=>[(nw 0,Ac [.str ww (Aj c 0)] 0)],0,λnw _=>.ok (.ret (.ref (nw 0))),5⟩
noncomputable def Hu(P:Params)(r:Rdr)(p:Int)(t:Tok)(nx:Option Tk)(ww:Str)(bb:Bool)(c:Code):Con:=
 ⟨.call (.ref 385) ⟨[.ref r.rd,.str ww (Aj c 1)],[]⟩,Au (r.K P p t false++NxK P nx),[],0,λ_ _=>[],0,λ_ _=>.ok (.ret (.bool bb)),20⟩

theorem Ao(c:Code):Ok w b (Bq "CHARACTERS" c):=by
 let lZ:List (Fm w b):=[]
 refine oP lZ ([]) 14 0 [0] [] ?_<;>intros<;>kernel_rfl
theorem Bf(c:Code):Ok w b (Bq "ALL" c):=by
 let lZ:List (Fm w b):=[]
 refine oP lZ ([]) 14 0 [0] [] ?_<;>intros<;>kernel_rfl
theorem Bn(c:Code):Ok w b (Bq "LEADING" c):=by
 let lZ:List (Fm w b):=[]
 refine oP lZ ([]) 14 0 [0] [] ?_<;>intros<;>kernel_rfl
theorem Dw(c:Code):Ok w b (Bq "FIRST" c):=by
 let lZ:List (Fm w b):=[]
 refine oP lZ ([]) 14 0 [0] [] ?_<;>intros<;>kernel_rfl
theorem Lv(c:Code):Ok w b (Bq "BY" c):=by
 let lZ:List (Fm w b):=[]
 refine oP lZ ([]) 14 0 [0] [] ?_<;>intros<;>kernel_rfl
theorem Cn(c:Code):Ok w b (Bq "BEFORE" c):=by
 let lZ:List (Fm w b):=[]
 refine oP lZ ([]) 14 0 [0] [] ?_<;>intros<;>kernel_rfl
theorem Ez(c:Code):Ok w b (Bq "AFTER" c):=by
 let lZ:List (Fm w b):=[]
 refine oP lZ ([]) 14 0 [0] [] ?_<;>intros<;>kernel_rfl
theorem Cs(c:Code):Ok w b (Bq "INITIAL" c):=by
 let lZ:List (Fm w b):=[]
 refine oP lZ ([]) 14 0 [0] [] ?_<;>intros<;>kernel_rfl
theorem Qd(c:Code):Ok w b (Bq "OF" c):=by
 let lZ:List (Fm w b):=[]
 refine oP lZ ([]) 14 0 [0] [] ?_<;>intros<;>kernel_rfl
theorem Vp(c:Code):Ok w b (Bq "IN" c):=by
 let lZ:List (Fm w b):=[]
 refine oP lZ ([]) 14 0 [0] [] ?_<;>intros<;>kernel_rfl
theorem Ado{r:Rdr}{p:Int}{t:Tok}{ww:Str}(hs:∀ c,Ok w b (Bq ww c))(h:At r p none)(c:Code):Ok w b (Hu w.params r p t none ww false c):=by
 let lZ:List (Fm w b):=[pl (Bq ww) hs,pl (Kb w.params r p t none "word" 0 false) (Fc h.zero rfl)]
 refine oPX lZ (r.K w.params p t false++NxK w.params none) 100 0x51030c00c51000000040000040000040c20c0042041001001001001001042040040001001001 [] [] ?_ ?_<;>intros<;>kernel_rfl
theorem Ab2{r:Rdr}{p:Int}{t:Tok}{tk:Tk}{ww:Str}(hs:∀ c,Ok w b (Bq ww c))(h:At r p (some tk))(he:sEqB tk.kd "word"=false)(c:Code):Ok w b (Hu w.params r p t (some tk) ww false c):=by
 let lZ:List (Fm w b):=[pl (Bq ww) hs,pl (Kb w.params r p t (some tk) "word" 0 false) (Fc h.zero he)]
 refine oPX lZ (r.K w.params p t false++NxK w.params (some tk)) 100 0x71851030c00c51000000040000040000040c20c0042041001001001001001042040040001001001 [] [] ?_ ?_<;>intros<;>kernel_rfl
theorem isw_ne{r:Rdr}{p:Int}{t:Tok}{tk:Tk}{ww:Str}(hs:∀ c,Ok w b (Bq ww c))(h:At r p (some tk))(he:sEqB tk.kd "word"=true)(hn:sEqB tk.wo ww=false)(c:Code):Ok w b (Hu w.params r p t (some tk) ww false c):=by
 let lZ:List (Fm w b):=[pl (Bq ww) hs,pl (Kb w.params r p t (some tk) "word" 0 true) (Fc h.zero he),pl (Jh w.params r p t 0 (.ref tk.a)) (Eg h.zero),pl (cSNe tk.wo ww true) (Ky hn)]
 refine oPX lZ (r.K w.params p t false++NxK w.params (some tk)) 149 0x50c02001c70000070000001c51031000c51000000040000040000040c71851030c00c51000000040000040000040c20c0042041001001001001001042040040001001001 [] [] ?_ ?_<;>intros<;>kernel_rfl
theorem isw_eq{r:Rdr}{p:Int}{t:Tok}{tk:Tk}{ww:Str}(hs:∀ c,Ok w b (Bq ww c))(h:At r p (some tk))(he:sEqB tk.kd "word"=true)(hn:sEqB tk.wo ww=true)(c:Code):Ok w b (Hu w.params r p t (some tk) ww true c):=by
 let lZ:List (Fm w b):=[pl (Bq ww) hs,pl (Kb w.params r p t (some tk) "word" 0 true) (Fc h.zero he),pl (Jh w.params r p t 0 (.ref tk.a)) (Eg h.zero),pl (cSNe tk.wo ww false) (Ky hn)]
 refine oPX lZ (r.K w.params p t false++NxK w.params (some tk)) 183 0x10010810400400400830000c50c02001c70000070000001c51031000c51000000040000040000040c71851030c00c51000000040000040000040c20c0042041001001001001001042040040001001001 [] [] ?_ ?_<;>intros<;>kernel_rfl
noncomputable def preB:List Nat->List Nat->Bool
 | [],_=>true
 | _::_,[]=>false
 | x::r,y::l=>match Nat.beq x y with
  | true=>preB r l
  | false=>false
noncomputable def Hh(s:List Nat):List Nat->Bool
 | []=>preB s []
 | y::l=>match preB s (y::l) with
  | true=>true
  | false=>Hh s l
theorem Lx:∀ {s l:List Nat},preB s l=true ↔ l.take s.length=s
 | [],l=>by simp [preB]
 | x::r,[]=>by simp [preB]
 | x::r,y::l=>by
  unfold preB
  cases q:Nat.beq x y with
  | true=>
   have:=Nat.eq_of_beq_eq_true q
   subst this
   simp [Lx (s:=r) (l:=l)]
  | false=>
   simp only [List.length_cons,List.take_succ_cons,List.cons.injEq,Bool.false_eq_true,false_iff]
   rintro ⟨rfl,_⟩
   rw [Nat.beq_refl] at q;cases q
theorem Mx{s:List Nat}:∀ {l:List Nat},Hh s l=true ↔ ∃ i,i<=l.length/\(l.drop i).take s.length=s
 | []=>by
  unfold Hh
  rw [Lx]
  constructor
  ·intro h;exact ⟨0,Nat.le_refl _,h⟩
  ·rintro ⟨i,_,h⟩;simpa using h
 | y::l=>by
  unfold Hh
  cases q:preB s (y::l) with
  | true=>simp only [true_iff];exact ⟨0,Nat.zero_le _,Lx.mp q⟩
  | false=>
   simp only
   rw [Mx]
   constructor
   ·rintro ⟨i,hi,h⟩;exact ⟨i+1,Nat.succ_le_succ hi,h⟩
   ·rintro ⟨i,hi,h⟩
    cases i with
    | zero=>
     have:preB s (y::l)=true:=Lx.mpr h
     rw [q] at this;cases this
    | succ i=>exact ⟨i,Nat.le_of_succ_le_succ hi,h⟩
theorem has_of{x y:Str}{bb:Bool}(h:Hh y.cps.toList x.cps.toList=bb):(!(Builtin.Str.occurrences x y 0 x.length 1).isEmpty)=bb:=by
 rw [←h,Bool.eq_iff_iff,PySem.StrLaws.found_iff,Mx]
 have hx:x.length=x.cps.toList.length:=by rw [Array.length_toList];rfl
 have hy:y.length=y.cps.toList.length:=by rw [Array.length_toList];rfl
 have key:∀ i,Builtin.Str.subAt x y i=true ↔ ((x.cps.toList.drop i).take y.cps.toList.length)=y.cps.toList:=λi=>by
  unfold Builtin.Str.subAt
  rw [beq_iff_eq,←Array.toList_inj,Array.toList_extract,hy]
  simp [List.extract_eq_take_drop]
 constructor
 ·rintro ⟨i,hi,h⟩
  exact ⟨i,by omega,(key i).mp h⟩
 ·rintro ⟨i,hi,h⟩
  refine ⟨i,?_,(key i).mpr h⟩
  have:=congrArg List.length h
  rw [List.length_take,List.length_drop] at this
  omega
noncomputable def glb(P:SP)(w:Params)(x:Str):Value:=match P w 3 with
 | some ⟨_,_,.dict es _,_⟩=>match es.toList.find? (λe=>e.key.isStr x) with
  | some e=>e.val
  | none=>.none
 | _=>.none
noncomputable def strV:Value->Str
 | .str x _=>x
 | _=>default
noncomputable def cIn(x y:Str)(bb:Bool)(c:Code):Con:=⟨.call (.builtin "str.__contains__") ⟨[.str x (Aj c 0),.str y (Aj c 1)],[]⟩,[],[],0,λ_ _=>[],0,λ_ _=>.ok (.ret (.bool bb)),0⟩
theorem Dj{w:World}{st:Nat->Option Obj}{x y:Str}{bb:Bool}(h:Hh y.cps.toList x.cps.toList=bb)(c:Code):(cIn x y bb c).Valid w st:=by
 intro A s R _ _ _ _ _ hR
 refine Bj (T:="str") F.slot_str_contains (by first|rfl|exact ⟨_,rfl⟩) F.entry_str_contains (by unfold argsOk;kernel_rfl) ?_
 have z:=hR (λ_=>0) (λ_=>0) s.heap s.toks (Be.refl _) (λ_ _ e _=>e) (λ_ hp=>(nomatch hp)) (λ_ hp=>(nomatch hp)) List.nodup_nil
 show wpAny _ _ (Sem.pure (Fin.done (.ret (.bool !(Builtin.Str.occurrences x y 0 x.length 1).isEmpty)))) _ _ _
 rw [has_of h]
 exact wpAny_pure ⟨_,rfl,z⟩
noncomputable def resS(P:Params):Str:=strV (glb Aa P "RESERVED")
noncomputable def figS(P:Params):Str:=strV (glb Aa P "FIGURE_WORDS")
theorem t1(P:Params):Hh [32,75,32] (resS P).cps.toList=false:=by kernel_rfl
theorem t2(P:Params):Hh [32,65,76,76,32] (resS P).cps.toList=true:=by kernel_rfl
noncomputable def wdB(nx:Option Tk)(ww:Str):Bool:=match nx with
 | none=>false
 | some tk=>sEqB tk.kd "word" && sEqB tk.wo ww
theorem No{r:Rdr}{p:Int}{t:Tok}{nx:Option Tk}{ww:Str}{bb:Bool}(hs:∀ c,Ok w b (Bq ww c))(h:At r p nx)(he:wdB nx ww=bb)(c:Code):Ok w b (Hu w.params r p t nx ww bb c):=by
 cases nx with
 | none=>cases he;exact Ado hs h c
 | some tk=>
  unfold wdB at he
  cases h1:sEqB tk.kd "word" with
  | false=>simp only [h1] at he;cases he;exact Ab2 hs h h1 c
  | true=>
   simp only [h1] at he
   cases h2:sEqB tk.wo ww with
   | false=>simp only [h2] at he;cases he;exact isw_ne hs h h1 h2 c
   | true=>simp only [h2] at he;cases he;exact isw_eq hs h h1 h2 c
noncomputable def Cg(P:Params)(r:Rdr)(p:Int)(t:Tok)(nx:Option Tk)(ww:Str)(c:Code):Con:=
 ⟨.call (.ref 392) ⟨[.ref r.rd,.str ww (Aj c 1)],[]⟩,Au (r.K P p t false++NxK P nx),[],0,λ_ _=>[],0,λ_ _=>.ok (.ret (.bool false)),25⟩
noncomputable def Ws(P:Params)(r:Rdr)(p:Int)(t:Tok)(nx:Option Tk)(ww:Str)(c:Code):Con:=
 ⟨.call (.ref 392) ⟨[.ref r.rd,.str ww (Aj c 1)],[]⟩,Au (r.K P p t true++NxK P nx),[(r.d,λtk=>r.dict P (p+1) (tk 0))],0,λ_ _=>[],1,λ_ _=>.ok (.ret (.bool true)),25⟩
noncomputable def cNeed(P:Params)(r:Rdr)(p:Int)(t:Tok)(nx:Option Tk)(ww:Str)(c:Code):Con:=
 ⟨.call (.ref 399) ⟨[.ref r.rd,.str ww (Aj c 1)],[]⟩,Au (r.K P p t true++NxK P nx),[(r.d,λtk=>r.dict P (p+1) (tk 0))],0,λ_ _=>[],1,λ_ _=>.ok (.ret .none),30⟩
noncomputable def sgB(nx:Option Tk)(sg:Str):Bool:=match nx with
 | none=>false
 | some tk=>sEqB tk.kd "sign" && sEqB tk.wo sg
noncomputable def Ka(P:Params)(r:Rdr)(p:Int)(t:Tok)(nx:Option Tk)(sg:Str)(c:Code):Con:=
 ⟨.call (.ref 443) ⟨[.ref r.rd,.str sg (Aj c 1)],[]⟩,Au (r.K P p t false++NxK P nx),[],0,λ_ _=>[],0,λ_ _=>.ok (.ret (.bool false)),20⟩
noncomputable def Po(P:Params)(r:Rdr)(p:Int)(t:Tok)(nx:Option Tk)(ww:Str)(bb:Bool)(c:Code):Con:=
 ⟨.call (.ref 244) ⟨[.ref r.rd,.int 0 (Aj c 1),.str ww (Aj c 2)],[]⟩,Au (r.K P p t false++NxK P nx),[],0,λ_ _=>[],0,λ_ _=>.ok (.ret (.bool bb)),15⟩
noncomputable def cRes(wo:Str)(bb:Bool)(c:Code):Con:=
 ⟨.call (.ref 321) ⟨[.str wo (Aj c 0)],[]⟩,[],[],0,λ_ _=>[],0,λ_ _=>.ok (.ret (.bool bb)),10⟩

theorem Xl{r:Rdr}{p:Int}{t:Tok}  {ww:Str}(hs:∀ c,Ok w b (Bq ww c))(h:At r p none)(he:wdB none ww=false)(c:Code):Ok w b (Cg w.params r p t none ww c):=by
 let lZ:List (Fm w b):=[pl (Hu w.params r p t none ww false) (No hs h he)]
 refine oP lZ (r.K w.params p t false++NxK w.params none) 51 0x3081080043080000002000002000002040001001001 [] [] ?_<;>intros<;>kernel_rfl
theorem Xk{r:Rdr}{p:Int}{t:Tok}{tk:Tk}{ww:Str}(hs:∀ c,Ok w b (Bq ww c))(h:At r p (some tk))(he:wdB (some tk) ww=false)(c:Code):Ok w b (Cg w.params r p t (some tk) ww c):=by
 let lZ:List (Fm w b):=[pl (Hu w.params r p t (some tk) ww false) (No hs h he)]
 refine oP lZ (r.K w.params p t false++NxK w.params (some tk)) 51 0x5103081080043080000002000002000002040001001001 [] [] ?_<;>intros<;>kernel_rfl
theorem Hy{r:Rdr}{p:Int}{t:Tok}{tk:Tk}{ww:Str}(hs:∀ c,Ok w b (Bq ww c))(h:At r p (some tk))(he:wdB (some tk) ww=true)(c:Code):Ok w b (Ws w.params r p t (some tk) ww c):=by
 let lZ:List (Fm w b):=[pl (Hu w.params r p t (some tk) ww true) (No hs h he),pl (Bq ww) hs]
 refine oP lZ (r.K w.params p t true++NxK w.params (some tk)) 127 0x31031000c00000c00c00030000000c2000040040040003040003002080000080000002045103081080043080000002000002000002040001001001 [] [6] ?_<;>intros<;>kernel_rfl
theorem Sb{r:Rdr}{p:Int}{t:Tok}  {sg:Str}(h:At r p none)(he:kdB none "sign"=false)(c:Code):Ok w b (Ka w.params r p t none sg c):=by
 let lZ:List (Fm w b):=[pl (Kb w.params r p t none "sign" 0 false) (Fc h.zero he)]
 refine oP lZ (r.K w.params p t false++NxK w.params none) 56 0xc20420010c2000000080000080000081000040040040001 [] [] ?_<;>intros<;>kernel_rfl
theorem Yy{r:Rdr}{p:Int}{t:Tok}  {ww:Str}(h:At r p none)(he:kdB none "word"=false)(c:Code):Ok w b (Po w.params r p t none ww false c):=by
 let lZ:List (Fm w b):=[pl (Jh w.params r p t 0 (nxV none)) (Eg h.zero)]
 refine oP lZ (r.K w.params p t false++NxK w.params none) 65 0x40043081080043080000002000002000002040001001001001 [] [] ?_<;>intros<;>kernel_rfl
theorem Sa{r:Rdr}{p:Int}{t:Tok}{tk:Tk}{sg:Str}(h:At r p (some tk))(he:kdB (some tk) "sign"=false)(c:Code):Ok w b (Ka w.params r p t (some tk) sg c):=by
 let lZ:List (Fm w b):=[pl (Kb w.params r p t (some tk) "sign" 0 false) (Fc h.zero he)]
 refine oP lZ (r.K w.params p t false++NxK w.params (some tk)) 56 0x1440c20420010c2000000080000080000081000040040040001 [] [] ?_<;>intros<;>kernel_rfl
theorem Vc{r:Rdr}{p:Int}{t:Tok}{tk:Tk}{ww:Str}(h:At r p (some tk))(he:kdB (some tk) "word"=false)(c:Code):Ok w b (Po w.params r p t (some tk) ww false c):=by
 let lZ:List (Fm w b):=[pl (Jh w.params r p t 0 (nxV (some tk))) (Eg h.zero),pl (cSEq tk.kd "word" false) (Bl he)]
 refine oPX lZ (r.K w.params p t false++NxK w.params (some tk)) 89 0x3180145000005000000141040043081080043080000002000002000002040001001001001 [] [] ?_ ?_<;>intros<;>kernel_rfl
theorem Afv{r:Rdr}{p:Int}{t:Tok}{tk:Tk}{sg:Str}(h:At r p (some tk))(he:sEqB tk.kd "sign"=true)(hn:sEqB tk.wo sg=false)(c:Code):Ok w b (Ka w.params r p t (some tk) sg c):=by
 let lZ:List (Fm w b):=[pl (Kb w.params r p t (some tk) "sign" 0 true) (Fc h.zero he),pl (Jh w.params r p t 0 (.ref tk.a)) (Eg h.zero),pl (cSEq tk.wo sg false) (Bl hn)]
 refine oPX lZ (r.K w.params p t false++NxK w.params (some tk)) 105 0x1010060051400001400000050c20430010c20000000800000800000811440c20420010c2000000080000080000081000040040040001 [] [] ?_ ?_<;>intros<;>kernel_rfl
theorem Yx{r:Rdr}{p:Int}{t:Tok}{tk:Tk}{ww:Str}{bb:Bool}(h:At r p (some tk))(he:sEqB tk.kd "word"=true)(hn:sEqB tk.wo ww=bb)(c:Code):Ok w b (Po w.params r p t (some tk) ww bb c):=by
 let lZ:List (Fm w b):=[pl (Jh w.params r p t 0 (.ref tk.a)) (Eg h.zero),pl (cSEq tk.kd "word" true) (Bl he),pl (cSEq tk.wo ww bb) (Bl hn)]
 refine oPX lZ (r.K w.params p t false++NxK w.params (some tk)) 113 0x4046005140000140000005043180145000005000000141040043081080043080000002000002000002040001001001001 [] [] ?_ ?_<;>intros<;>kernel_rfl
theorem Qj(c:Code):Ok w b (cRes "K" false c):=by
 let lZ:List (Fm w b):=[pl (cIn (resS w.params) " K " false) (Dj (by kernel_rfl))]
 refine oP lZ ([]) 40 g4N [] [] ?_<;>intros<;>kernel_rfl
theorem Od(c:Code):Ok w b (cRes "CHARACTERS" true c):=by
 let lZ:List (Fm w b):=[pl (cIn (resS w.params) " CHARACTERS " true) (Dj (by kernel_rfl))]
 refine oP lZ ([]) 40 g4N [] [] ?_<;>intros<;>kernel_rfl
theorem Ag8(c:Code):Ok w b (cRes "ALL" true c):=by
 let lZ:List (Fm w b):=[pl (cIn (resS w.params) " ALL " true) (Dj (by kernel_rfl))]
 refine oP lZ ([]) 40 g4N [] [] ?_<;>intros<;>kernel_rfl
theorem Uc(c:Code):Ok w b (cRes "LEADING" true c):=by
 let lZ:List (Fm w b):=[pl (cIn (resS w.params) " LEADING " true) (Dj (by kernel_rfl))]
 refine oP lZ ([]) 40 g4N [] [] ?_<;>intros<;>kernel_rfl
theorem Aa1(c:Code):Ok w b (cRes "FIRST" true c):=by
 let lZ:List (Fm w b):=[pl (cIn (resS w.params) " FIRST " true) (Dj (by kernel_rfl))]
 refine oP lZ ([]) 40 g4N [] [] ?_<;>intros<;>kernel_rfl
theorem Xq(c:Code):Ok w b (cRes "SPACES" true c):=by
 let lZ:List (Fm w b):=[pl (cIn (resS w.params) " SPACES " true) (Dj (by kernel_rfl))]
 refine oP lZ ([]) 40 g4N [] [] ?_<;>intros<;>kernel_rfl
theorem Aa0(c:Code):Ok w b (cRes "ZEROS" true c):=by
 let lZ:List (Fm w b):=[pl (cIn (resS w.params) " ZEROS " true) (Dj (by kernel_rfl))]
 refine oP lZ ([]) 40 g4N [] [] ?_<;>intros<;>kernel_rfl
theorem Aa2(c:Code):Ok w b (cRes "END-IF" true c):=by
 let lZ:List (Fm w b):=[pl (cIn (resS w.params) " END-IF " true) (Dj (by kernel_rfl))]
 refine oP lZ ([]) 40 g4N [] [] ?_<;>intros<;>kernel_rfl
theorem Ud(c:Code):Ok w b (cRes "INSPECT" true c):=by
 let lZ:List (Fm w b):=[pl (cIn (resS w.params) " INSPECT " true) (Dj (by kernel_rfl))]
 refine oP lZ ([]) 40 g4N [] [] ?_<;>intros<;>kernel_rfl
theorem Oc(c:Code):Ok w b (cRes "CONVERTING" true c):=by
 let lZ:List (Fm w b):=[pl (cIn (resS w.params) " CONVERTING " true) (Dj (by kernel_rfl))]
 refine oP lZ ([]) 40 g4N [] [] ?_<;>intros<;>kernel_rfl
noncomputable def Tk.as(k:Tk)(kd wo:Str):Tk:=⟨k.a,k.d,k.ta,kd,wo,k.t1,k.t2,k.t3,k.t4,k.t5,k.t6,k.nn⟩
theorem Bc{r:Rdr}{p:Int}{t:Tok}{nx:Option Tk}{ww:Str}(hs:∀ c,Ok w b (Bq ww c))(h:At r p nx)(he:wdB nx ww=false)(c:Code):Ok w b (Cg w.params r p t nx ww c):=by
 cases nx with
 | none=>exact Xl hs h he c
 | some tk=>exact Xk hs h he c
theorem Fn{r:Rdr}{p:Int}{t:Tok}{nx:Option Tk}{sg:Str}(h:At r p nx)(he:sgB nx sg=false)(c:Code):Ok w b (Ka w.params r p t nx sg c):=by
 cases nx with
 | none=>exact Sb h rfl c
 | some tk=>
  unfold sgB at he
  cases h1:sEqB tk.kd "sign" with
  | false=>exact Sa h h1 c
  | true=>simp only [h1,Bool.true_and] at he;exact Afv h h1 he c
theorem Wz{r:Rdr}{p:Int}{t:Tok}{nx:Option Tk}{ww:Str}{bb:Bool}(h:At r p nx)(he:wdB nx ww=bb)(c:Code):Ok w b (Po w.params r p t nx ww bb c):=by
 cases nx with
 | none=>cases he;exact Yy h rfl c
 | some tk=>
  unfold wdB at he
  cases h1:sEqB tk.kd "word" with
  | false=>simp only [h1,Bool.false_and] at he;cases he;exact Vc h h1 c
  | true=>simp only [h1,Bool.true_and] at he;exact Yx h h1 he c
noncomputable def cNum(P:Params)(r:Rdr)(p:Int)(t:Tok)(nx:Option Tk)(_:Code):Con:=
 ⟨.call (.ref 464) ⟨[.ref r.rd],[]⟩,Au (r.K P p t false++NxK P nx),[],0,λ_ _=>[],0,λ_ _=>.ok (.ret (.bool false)),25⟩
noncomputable def Dt(P:Params)(r:Rdr)(p:Int)(t:Tok)(nx:Option Tk)(bb:Bool)(_:Code):Con:=
 ⟨.call (.ref 421) ⟨[.ref r.rd],[]⟩,Au (r.K P p t false++NxK P nx),[],0,λ_ _=>[],0,λ_ _=>.ok (.ret (.bool bb)),20⟩
noncomputable def Aea(P:Params)(r:Rdr)(p:Int)(t:Tok)(tk:Tk)(_:Code):Con:=
 ⟨.call (.ref 370) ⟨[.ref r.rd],[]⟩,Au (r.K P p t true++NxK P (some tk)),[(r.d,λtk=>r.dict P (p+1) (tk 0))],0,λ_ _=>[],1,λ_ _=>.ok (.ret (.ref tk.a)),15⟩
noncomputable def Nm(P:Params)(r:Rdr)(p:Int)(t:Tok)(nx:Option Tk)(c:Code):Con:=
 ⟨.call (.ref 406) ⟨[.ref r.rd,.str "OF IN" (Aj c 1)],[]⟩,Au (r.K P p t false++NxK P nx),[],0,λ_ _=>[],1,λ_ tk=>.ok (.ret (.str "" (tk 0))),30⟩
noncomputable def Abw(P:Params)(r:Rdr)(p:Int)(t:Tok)(nx:Option Tk)(c:Code):Con:=
 ⟨.call (.ref 406) ⟨[.ref r.rd,.str "OF IN" (Aj c 1)],[]⟩,Au (r.K P p t true++NxK P nx),[(r.d,λtk=>r.dict P (p+1) (tk 0))],0,λ_ _=>[],2,λ_ tk=>.ok (.ret (.str "OF" (tk 1))),30⟩
noncomputable def Bb(P:Params)(r:Rdr)(p:Int)(t:Tok)(nx:Option Tk)(bb:Bool)(_:Code):Con:=
 ⟨.call (.ref 251) ⟨[.ref r.rd],[]⟩,Au (r.K P p t false++NxK P nx),[],0,λ_ _=>[],0,λ_ _=>.ok (.ret (.bool bb)),30⟩

theorem Aan{r:Rdr}{p:Int}{t:Tok}{tk:Tk}{ww:Str}(hs:∀ c,Ok w b (Bq ww c))(h:At r p (some tk))(he:wdB (some tk) ww=true)(c:Code):Ok w b (cNeed w.params r p t (some tk) ww c):=by
 let lZ:List (Fm w b):=[pl (Ws w.params r p t (some tk) ww) (Hy hs h he)]
 refine oP lZ (r.K w.params p t true++NxK w.params (some tk)) 50 0x2085103081080043080000002000002000002040001001001 [] [2] ?_<;>intros<;>kernel_rfl
theorem Adk{r:Rdr}{p:Int}{t:Tok}  (h:At r p none)(hp:sgB none "+"=false)(hm:sgB none "-"=false)(hn:kdB none "number"=false)(c:Code):Ok w b (cNum w.params r p t none c):=by
 let lZ:List (Fm w b):=[pl (Ka w.params r p t none "+") (Fn h hp),pl (Ka w.params r p t none "-") (Fn h hm),pl (Aw w.params r p t none "number" false) (Al h hn)]
 refine oP lZ (r.K w.params p t false++NxK w.params none) 95 0xc20440030800000020000020000020430810c00c20000000800000800000810c2042003080000002000002000002040001001 [] [] ?_<;>intros<;>kernel_rfl
theorem Adj{r:Rdr}{p:Int}{t:Tok}{tk:Tk}(h:At r p (some tk))(hp:sgB (some tk) "+"=false)(hm:sgB (some tk) "-"=false)(hn:kdB (some tk) "number"=false)(c:Code):Ok w b (cNum w.params r p t (some tk) c):=by
 let lZ:List (Fm w b):=[pl (Ka w.params r p t (some tk) "+") (Fn h hp),pl (Ka w.params r p t (some tk) "-") (Fn h hm),pl (Aw w.params r p t (some tk) "number" false) (Al h hn)]
 refine oP lZ (r.K w.params p t false++NxK w.params (some tk)) 95 g5N [] [] ?_<;>intros<;>kernel_rfl
theorem Qs{r:Rdr}{p:Int}{t:Tok}  (h:At r p none)(hn:kdB none "word"=false)(c:Code):Ok w b (Dt w.params r p t none false c):=by
 let lZ:List (Fm w b):=[pl (Kb w.params r p t none "word" 0 false) (Fc h.zero hn)]
 refine oP lZ (r.K w.params p t false++NxK w.params none) 52 0xc20420010c2000000080000080000081000040040001 [] [] ?_<;>intros<;>kernel_rfl
theorem Qr{r:Rdr}{p:Int}{t:Tok}{tk:Tk}(h:At r p (some tk))(hn:kdB (some tk) "word"=false)(c:Code):Ok w b (Dt w.params r p t (some tk) false c):=by
 let lZ:List (Fm w b):=[pl (Kb w.params r p t (some tk) "word" 0 false) (Fc h.zero hn)]
 refine oP lZ (r.K w.params p t false++NxK w.params (some tk)) 52 0x1440c20420010c2000000080000080000081000040040001 [] [] ?_<;>intros<;>kernel_rfl
theorem Hg{r:Rdr}{p:Int}{t:Tok}{tk:Tk}(h:At r p (some tk))(hn:kdB (some tk) "word"=true)(hr:∀ c,Ok w b (cRes tk.wo false c))(c:Code):Ok w b (Dt w.params r p t (some tk) true c):=by
 let lZ:List (Fm w b):=[pl (Kb w.params r p t (some tk) "word" 0 true) (Fc h.zero hn),pl (Jh w.params r p t 0 (.ref tk.a)) (Eg h.zero),pl (cRes tk.wo false) hr]
 refine oP lZ (r.K w.params p t false++NxK w.params (some tk)) 103 g6N [] [] ?_<;>intros<;>kernel_rfl
theorem Av{r:Rdr}{p:Int}{t:Tok}{tk:Tk}(h:At r p (some tk))(hn:kdB (some tk) "word"=true)(hr:∀ c,Ok w b (cRes tk.wo true c))(c:Code):Ok w b (Dt w.params r p t (some tk) false c):=by
 let lZ:List (Fm w b):=[pl (Kb w.params r p t (some tk) "word" 0 true) (Fc h.zero hn),pl (Jh w.params r p t 0 (.ref tk.a)) (Eg h.zero),pl (cRes tk.wo true) hr]
 refine oP lZ (r.K w.params p t false++NxK w.params (some tk)) 103 g6N [] [] ?_<;>intros<;>kernel_rfl
theorem Ms{r:Rdr}{p:Int}{t:Tok}{tk:Tk}(h:At r p (some tk))(c:Code):Ok w b (Aea w.params r p t tk c):=by
 let lZ:List (Fm w b):=[pl (Ed w.params r p t (.ref tk.a)) (Ci h)]
 refine oP lZ (r.K w.params p t true++NxK w.params (some tk)) 109 0x20430830020000020020000800000020400030020800000800000020410010c2042003080000002000002000002040001001 [] [4] ?_<;>intros<;>kernel_rfl
theorem Ya{r:Rdr}{p:Int}{t:Tok}  (h:At r p none)(ho:wdB none "OF"=false)(hi:wdB none "IN"=false)(c:Code):Ok w b (Nm w.params r p t none c):=by
 let lZ:List (Fm w b):=[pl (Cg w.params r p t none "OF") (Bc Qd h ho),pl (Cg w.params r p t none "IN") (Bc Vp h hi)]
 refine oPX lZ (r.K w.params p t false++NxK w.params none) 160 0x10010810400400401440c30031440000001000001000001030830010810400400401440c2003144000000100000100000103083001081040040040040040041000040001001001 [] [7] ?_ ?_<;>intros<;>kernel_rfl
theorem Xz{r:Rdr}{p:Int}{t:Tok}{tk:Tk}(h:At r p (some tk))(ho:wdB (some tk) "OF"=false)(hi:wdB (some tk) "IN"=false)(c:Code):Ok w b (Nm w.params r p t (some tk) c):=by
 let lZ:List (Fm w b):=[pl (Cg w.params r p t (some tk) "OF") (Bc Qd h ho),pl (Cg w.params r p t (some tk) "IN") (Bc Vp h hi)]
 refine oPX lZ (r.K w.params p t false++NxK w.params (some tk)) 160 0x10010810400400401c61440c30031440000001000001000001030830010810400400401c61440c2003144000000100000100000103083001081040040040040040041000040001001001 [] [7] ?_ ?_<;>intros<;>kernel_rfl
theorem Pd{r:Rdr}{p:Int}{t:Tok}{tk:Tk}(h:At r p (some tk))(ho:wdB (some tk) "OF"=true)(c:Code):Ok w b (Abw w.params r p t (some tk) c):=by
 let lZ:List (Fm w b):=[pl (Ws w.params r p t (some tk) "OF") (Hy Qd h ho)]
 refine oPX lZ (r.K w.params p t true++NxK w.params (some tk)) 97 0x40c41c61440c2003144000000100000100000103083001081040040040040040041000040001001001 [] [6,3] ?_ ?_<;>intros<;>kernel_rfl
noncomputable def esOf(o:Option Obj):Array DictEntry:=match o with
 | some ⟨_,_,.dict es _,_⟩=>es
 | _=>#[]
noncomputable def Mz(o:Option Obj):Prop:=∃ n,o=some ⟨.type "dict",none,.dict (esOf o) n,⟨[]⟩⟩
theorem Ng{h:Heap}{a:Addr}(hs:Stat (Aa w.params) h)(hd:Mz (Aa w.params a))(h1:((esOf (Aa w.params a)).toList.all λe=>match e.key with|.str _ _=>true | _=>false)=true)
  (h2:(esOf (Aa w.params a)).toList.map (·.hash)=(esOf (Aa w.params a)).toList.map (λe=>PyData.keyHash w.params (strV e.key))) :
  h.MapOf (strKind prog (wZ w b)) a (λk=>findBy Value.isStrOf (esOf (Aa w.params a)) k):=by
 obtain ⟨n,e⟩:=hd
 generalize hes:esOf (Aa w.params a)=es at h1 h2 e ⊢
 ·skip
  refine ⟨_,es,n,hs _ _ e,⟨rfl,rfl,rfl⟩,rfl,λd hd=>?_,λ_=>rfl⟩
  have hm:=Array.mem_toList_iff.mpr hd
  have k1:=List.all_eq_true.mp h1 d hm
  have k2:d.hash=PyData.keyHash w.params (strV d.key):=List.map_inj_left.mp h2 d hm
  cases hk:d.key with
  | str x t=>
   rw [hk] at k2
   exact ⟨x,strKind_is prog _ x t,k2⟩
  | _=>rw [hk] at k1;cases k1
noncomputable def Uz(a:Addr)(x:Str)(c:Code):Con:=⟨.call (.builtin "dict.__contains__") ⟨[.ref a,.str x (Aj c 1)],[]⟩,[],[],0,λ_ _=>[],0,λ_ _=>.ok (.ret (.bool true)),0⟩
noncomputable def Wx(a:Addr)(x:Str)(c:Code):Con:=⟨.call (.builtin "dict.__contains__") ⟨[.ref a,.str x (Aj c 1)],[]⟩,[],[],0,λ_ _=>[],0,λ_ _=>.ok (.ret (.bool false)),0⟩
noncomputable def Np(a:Addr)(x:Str)(v:Value)(c:Code):Con:=⟨.call (.builtin "dict.__getitem__") ⟨[.ref a,.str x (Aj c 1)],[]⟩,[],[],0,λ_ _=>[],0,λ_ _=>.ok (.ret v),0⟩
section
variable {w:World}{b:B3}{a:Addr}{x:Str}{v:Value}
theorem Pn(hd:Mz (Aa w.params a))(h1:((esOf (Aa w.params a)).toList.all λe=>match e.key with|.str _ _=>true | _=>false)=true)
  (h2:(esOf (Aa w.params a)).toList.map (·.hash)=(esOf (Aa w.params a)).toList.map (λe=>PyData.keyHash w.params (strV e.key)))(hf:findBy Value.isStrOf (esOf (Aa w.params a)) x=some v)(c:Code):Ok w b (Uz a x c):=by
 intro A s R _ _ hs _ _ hR
 have hm:=Ng (b:=b) hs hd h1 h2
 refine Bj slot_dict_contains hm.typeIs entry_dict_contains (args_dict_contains _ _) ?_
 show wpAny _ _ (dictGet a (.str x (Aj c 1)) >>= _) _ _ s
 refine wpAny_bind (wpAny_dictGet_of (strKind_is prog _ x _) hm ?_)
 rw [hf]
 show wpAny _ _ (ret (.bool true)) _ _ _
 exact wpAny_pure ⟨_,rfl,hR (λ_=>0) (λ_=>0) s.heap (s.toks+1) (Be.refl _) (λ_ _ e _=>e) (λ_ hp=>(nomatch hp)) (λ_ hp=>(nomatch hp)) List.nodup_nil⟩
theorem Uy(hd:Mz (Aa w.params a))(h1:((esOf (Aa w.params a)).toList.all λe=>match e.key with|.str _ _=>true | _=>false)=true)
  (h2:(esOf (Aa w.params a)).toList.map (·.hash)=(esOf (Aa w.params a)).toList.map (λe=>PyData.keyHash w.params (strV e.key)))(hf:findBy Value.isStrOf (esOf (Aa w.params a)) x=none)(hsm:(a == sysModules)=false)(c:Code):Ok w b (Wx a x c):=by
 intro A s R _ _ hs _ _ hR
 have hm:=Ng (b:=b) hs hd h1 h2
 refine Bj slot_dict_contains hm.typeIs entry_dict_contains (args_dict_contains _ _) ?_
 show wpAny _ _ (dictGet a (.str x (Aj c 1)) >>= _) _ _ s
 refine wpAny_bind (wpAny_dictGet_of (strKind_is prog _ x _) hm ?_)
 rw [hf]
 show wpAny _ _ (Builtin.Dict.pendingKey? a (.str x (Aj c 1)) >>= _) _ _ _
 exact wpAny_bind (wpAny_pendingKey_other hsm (wpAny_pure ⟨_,rfl,hR (λ_=>0) (λ_=>0) s.heap (s.toks+1) (Be.refl _) (λ_ _ e _=>e) (λ_ hp=>(nomatch hp)) (λ_ hp=>(nomatch hp)) List.nodup_nil⟩))
theorem Li(hd:Mz (Aa w.params a))(h1:((esOf (Aa w.params a)).toList.all λe=>match e.key with|.str _ _=>true | _=>false)=true)
  (h2:(esOf (Aa w.params a)).toList.map (·.hash)=(esOf (Aa w.params a)).toList.map (λe=>PyData.keyHash w.params (strV e.key)))(hf:findBy Value.isStrOf (esOf (Aa w.params a)) x=some v)(c:Code):Ok w b (Np a x v c):=by
 intro A s R _ _ hs _ _ hR
 have hm:=Ng (b:=b) hs hd h1 h2
 refine Bj slot_dict_getitem hm.typeIs entry_dict_getitem (args_dict_getitem _ _) ?_
 show wpAny _ _ (dictGet a (.str x (Aj c 1)) >>= _) _ _ s
 refine wpAny_bind (wpAny_dictGet_of (strKind_is prog _ x _) hm ?_)
 rw [hf]
 exact wpAny_pure ⟨_,rfl,hR (λ_=>0) (λ_=>0) s.heap (s.toks+1) (Be.refl _) (λ_ _ e _=>e) (λ_ hp=>(nomatch hp)) (λ_ hp=>(nomatch hp)) List.nodup_nil⟩
end
noncomputable def refA:Value->Addr
 | .ref a=>a
 | _=>0
noncomputable def figA(P:Params):Addr:=refA (glb Aa P "FIGURE_NAMES")
theorem Ho(P:Params):Mz (Aa P (figA P)):=⟨11,by kernel_rfl⟩
theorem Hm(P:Params):((esOf (Aa P (figA P))).toList.all λe=>match e.key with|.str _ _=>true | _=>false)=true:=by kernel_rfl
theorem Hn(P:Params):(esOf (Aa P (figA P))).toList.map (·.hash)=(esOf (Aa P (figA P))).toList.map (λe=>PyData.keyHash P (strV e.key)):=by kernel_rfl
noncomputable def figN(st:SP)(P:Params)(x:Str):Value:=(findBy Value.isStrOf (esOf (st P (refA (glb st P "FIGURE_NAMES")))) x).getD .none
theorem Af3(P:Params):findBy Value.isStrOf (esOf (Aa P (figA P))) "SPACES"=some (figN Aa P "SPACES"):=by kernel_rfl
theorem Af2(P:Params):findBy Value.isStrOf (esOf (Aa P (figA P))) "ZEROS"=some (figN Aa P "ZEROS"):=by kernel_rfl
theorem fig_k(P:Params):findBy Value.isStrOf (esOf (Aa P (figA P))) "K"=none:=by kernel_rfl
theorem fig_sm(P:Params):(figA P == sysModules)=false:=by kernel_rfl
theorem Di{r:Rdr}{p:Int}{t:Tok}{nx:Option Tk}(h:At r p nx)(hp:sgB nx "+"=false)(hm:sgB nx "-"=false)(hn:kdB nx "number"=false)(c:Code):Ok w b (cNum w.params r p t nx c):=by
 cases nx with
 | none=>exact Adk h hp hm hn c
 | some tk=>exact Adj h hp hm hn c
theorem Wu{r:Rdr}{p:Int}{t:Tok}{nx:Option Tk}(h:At r p nx)(hn:kdB nx "word"=false)(c:Code):Ok w b (Dt w.params r p t nx false c):=by
 cases nx with
 | none=>exact Qs h hn c
 | some tk=>exact Qr h hn c
theorem Mj{r:Rdr}{p:Int}{t:Tok}{nx:Option Tk}(h:At r p nx)(ho:wdB nx "OF"=false)(hi:wdB nx "IN"=false)(c:Code):Ok w b (Nm w.params r p t nx c):=by
 cases nx with
 | none=>exact Ya h ho hi c
 | some tk=>exact Xz h ho hi c
noncomputable def Ux(P:Params)(r:Rdr)(p:Int)(t:Tok)(tk:Tk)(_:Code):Con:=
 ⟨.call (.ref 428) ⟨[.ref r.rd],[]⟩,Au (r.K P p t true++NxK P (some tk)),[(r.d,λtk=>r.dict P (p+1) (tk 0))],0,λ_ _=>[],1,λ_ _=>.ok (.ret (.str tk.wo tk.t6)),25⟩
noncomputable def cOct(wo:Str)(bs:Array UInt8)(c:Code):Con:=
 ⟨.call (.ref 326) ⟨[.str wo (Aj c 0)],[]⟩,[],[],0,λ_ _=>[],1,λ_ tk=>.ok (.ret (.bytes bs (tk 0))),15⟩
noncomputable def Abx(P:Params)(r:Rdr)(p:Int)(t:Tok)(tk:Tk)(bs:Array UInt8)(_:Code):Con:=
 ⟨.call (.ref 492) ⟨[.ref r.rd],[]⟩,Au (r.K P p t true++NxK P (some tk)),[(r.d,λtk=>r.dict P (p+1) (tk 1))],0,λ_ _=>[],2,λ_ tk=>.ok (.ret (.bytes bs (tk 0))),25⟩
noncomputable def Uw(P:Params)(r:Rdr)(p:Int)(t:Tok)(nx:Option Tk)(_:Code):Con:=
 ⟨.call (.ref 139) ⟨[.ref r.rd],[]⟩,Au (r.K P p t false++NxK P nx),[],0,λ_ _=>[],0,λ_ _=>.ok (.ret (.bool false)),25⟩
noncomputable def tupO(vs:List Value):Obj:={ cls:=.type "tuple",data:=.seq vs.toArray }
noncomputable def Th(P:Params)(r:Rdr)(p:Int)(t:Tok)(nx:Option Tk)(_:Code):Con:=
 ⟨.call (.ref 174) ⟨[.ref r.rd],[]⟩,Au (r.K P p t false++NxK P nx),[],0,λ_ _=>[],0,λ_ _=>.ok (.ret .none),25⟩
noncomputable def cFig(st:SP)(P:Params)(r:Rdr)(p:Int)(t:Tok)(tk:Tk)(x:Str)(_:Code):Con:=
 ⟨.call (.ref 174) ⟨[.ref r.rd],[]⟩,Au (r.K P p t true++NxK P (some tk)),[(r.d,λtk=>r.dict P (p+1) (tk 1))],1,λnw tk=>[(nw 0,tupO [.str "figure" (tk 0),figN st P x])],2,λnw _=>.ok (.ret (.ref (nw 0))),25⟩

theorem Pp{r:Rdr}{p:Int}{t:Tok}{tk:Tk}(h:At r p (some tk))(hp:sgB (some tk) "+"=false)(hm:sgB (some tk) "-"=false)(hn:kdB (some tk) "number"=false)(hl:kdB (some tk) "literal"=true)(c:Code):Ok w b (Bb w.params r p t (some tk) true c):=by
 let lZ:List (Fm w b):=[pl (cNum w.params r p t (some tk)) (Di h hp hm hn),pl (Aw w.params r p t (some tk) "literal" true) (Al h hl)]
 refine oP lZ (r.K w.params p t false++NxK w.params (some tk)) 70 0x51030810c00c20000000800000800000811440c2042003080000002000002000002040001001 [] [] ?_<;>intros<;>kernel_rfl
theorem Fd{r:Rdr}{p:Int}{t:Tok}{tk:Tk}(h:At r p (some tk))(hp:sgB (some tk) "+"=false)(hm:sgB (some tk) "-"=false)(hn:kdB (some tk) "number"=false)(hl:kdB (some tk) "literal"=false)(hw:kdB (some tk) "word"=true)(hr:∀ c,Ok w b (cRes tk.wo false c))(c:Code):Ok w b (Bb w.params r p t (some tk) true c):=by
 let lZ:List (Fm w b):=[pl (cNum w.params r p t (some tk)) (Di h hp hm hn),pl (Aw w.params r p t (some tk) "literal" false) (Al h hl),pl (Dt w.params r p t (some tk) true) (Hg h hw hr)]
 refine oP lZ (r.K w.params p t false++NxK w.params (some tk)) 94 g5N [] [] ?_<;>intros<;>kernel_rfl
theorem Oq{r:Rdr}{p:Int}{t:Tok}  (h:At r p none)(hp:sgB none "+"=false)(hm:sgB none "-"=false)(hn:kdB none "number"=false)(hl:kdB none "literal"=false)(hw:kdB none "word"=false)(c:Code):Ok w b (Bb w.params r p t none false c):=by
 let lZ:List (Fm w b):=[pl (cNum w.params r p t none) (Di h hp hm hn),pl (Aw w.params r p t none "literal" false) (Al h hl),pl (Dt w.params r p t none false) (Wu h hw),pl (Aw w.params r p t none "word" false) (Al h hw)]
 refine oP lZ (r.K w.params p t false++NxK w.params none) 119 0x30811400c20000000800000800000810c20440030800000020000020000020430810c00c20000000800000800000810c2042003080000002000002000002040001001 [] [] ?_<;>intros<;>kernel_rfl
theorem Oo{r:Rdr}{p:Int}{t:Tok}{tk:Tk}(h:At r p (some tk))(hp:sgB (some tk) "+"=false)(hm:sgB (some tk) "-"=false)(hn:kdB (some tk) "number"=false)(hl:kdB (some tk) "literal"=false)(hw:kdB (some tk) "word"=false)(c:Code):Ok w b (Bb w.params r p t (some tk) false c):=by
 let lZ:List (Fm w b):=[pl (cNum w.params r p t (some tk)) (Di h hp hm hn),pl (Aw w.params r p t (some tk) "literal" false) (Al h hl),pl (Dt w.params r p t (some tk) false) (Wu h hw),pl (Aw w.params r p t (some tk) "word" false) (Al h hw)]
 refine oP lZ (r.K w.params p t false++NxK w.params (some tk)) 119 0x51030811400c20000000800000800000811440c20440030800000020000020000020451030810c00c20000000800000800000811440c2042003080000002000002000002040001001 [] [] ?_<;>intros<;>kernel_rfl
theorem Kc{r:Rdr}{p:Int}{t:Tok}{tk:Tk}(h:At r p (some (tk.as "word" "SPACES")))(c:Code):Ok w b (Bb w.params r p t (some (tk.as "word" "SPACES")) true c):=by
 let lZ:List (Fm w b):=[pl (cNum w.params r p t (some (tk.as "word" "SPACES"))) (Di h rfl rfl rfl),pl (Aw w.params r p t (some (tk.as "word" "SPACES")) "literal" false) (Al h rfl),pl (Dt w.params r p t (some (tk.as "word" "SPACES")) false) (Av h rfl Xq),pl (Aw w.params r p t (some (tk.as "word" "SPACES")) "word" true) (Al h rfl),pl (Ed w.params r p t (.ref tk.a)) (Ci h),pl (cIn (figS w.params) " SPACES " true) (Dj (by kernel_rfl))]
 refine oP lZ (r.K w.params p t false++NxK w.params (some (tk.as "word" "SPACES"))) 179 g7N [] [] ?_<;>intros<;>kernel_rfl
theorem Lj{r:Rdr}{p:Int}{t:Tok}{tk:Tk}(h:At r p (some (tk.as "word" "ZEROS")))(c:Code):Ok w b (Bb w.params r p t (some (tk.as "word" "ZEROS")) true c):=by
 let lZ:List (Fm w b):=[pl (cNum w.params r p t (some (tk.as "word" "ZEROS"))) (Di h rfl rfl rfl),pl (Aw w.params r p t (some (tk.as "word" "ZEROS")) "literal" false) (Al h rfl),pl (Dt w.params r p t (some (tk.as "word" "ZEROS")) false) (Av h rfl Aa0),pl (Aw w.params r p t (some (tk.as "word" "ZEROS")) "word" true) (Al h rfl),pl (Ed w.params r p t (.ref tk.a)) (Ci h),pl (cIn (figS w.params) " ZEROS " true) (Dj (by kernel_rfl))]
 refine oP lZ (r.K w.params p t false++NxK w.params (some (tk.as "word" "ZEROS"))) 179 g7N [] [] ?_<;>intros<;>kernel_rfl
theorem Yu{r:Rdr}{p:Int}{t:Tok}{tk:Tk}(h:At r p (some (tk.as "word" "ALL")))(c:Code):Ok w b (Bb w.params r p t (some (tk.as "word" "ALL")) true c):=by
 let lZ:List (Fm w b):=[pl (cNum w.params r p t (some (tk.as "word" "ALL"))) (Di h rfl rfl rfl),pl (Aw w.params r p t (some (tk.as "word" "ALL")) "literal" false) (Al h rfl),pl (Dt w.params r p t (some (tk.as "word" "ALL")) false) (Av h rfl Ag8),pl (Aw w.params r p t (some (tk.as "word" "ALL")) "word" true) (Al h rfl),pl (Ed w.params r p t (.ref tk.a)) (Ci h),pl (cIn (figS w.params) " ALL " true) (Dj (by kernel_rfl))]
 refine oP lZ (r.K w.params p t false++NxK w.params (some (tk.as "word" "ALL"))) 179 g7N [] [] ?_<;>intros<;>kernel_rfl
theorem La{r:Rdr}{p:Int}{t:Tok}{tk:Tk}(h:At r p (some (tk.as "word" "CHARACTERS")))(c:Code):Ok w b (Bb w.params r p t (some (tk.as "word" "CHARACTERS")) false c):=by
 let lZ:List (Fm w b):=[pl (cNum w.params r p t (some (tk.as "word" "CHARACTERS"))) (Di h rfl rfl rfl),pl (Aw w.params r p t (some (tk.as "word" "CHARACTERS")) "literal" false) (Al h rfl),pl (Dt w.params r p t (some (tk.as "word" "CHARACTERS")) false) (Av h rfl Od),pl (Aw w.params r p t (some (tk.as "word" "CHARACTERS")) "word" true) (Al h rfl),pl (Ed w.params r p t (.ref tk.a)) (Ci h),pl (cIn (figS w.params) " CHARACTERS " false) (Dj (by kernel_rfl))]
 refine oP lZ (r.K w.params p t false++NxK w.params (some (tk.as "word" "CHARACTERS"))) 179 g7N [] [] ?_<;>intros<;>kernel_rfl
theorem Os{r:Rdr}{p:Int}{t:Tok}{tk:Tk}(h:At r p (some (tk.as "word" "LEADING")))(c:Code):Ok w b (Bb w.params r p t (some (tk.as "word" "LEADING")) false c):=by
 let lZ:List (Fm w b):=[pl (cNum w.params r p t (some (tk.as "word" "LEADING"))) (Di h rfl rfl rfl),pl (Aw w.params r p t (some (tk.as "word" "LEADING")) "literal" false) (Al h rfl),pl (Dt w.params r p t (some (tk.as "word" "LEADING")) false) (Av h rfl Uc),pl (Aw w.params r p t (some (tk.as "word" "LEADING")) "word" true) (Al h rfl),pl (Ed w.params r p t (.ref tk.a)) (Ci h),pl (cIn (figS w.params) " LEADING " false) (Dj (by kernel_rfl))]
 refine oP lZ (r.K w.params p t false++NxK w.params (some (tk.as "word" "LEADING"))) 179 g7N [] [] ?_<;>intros<;>kernel_rfl
theorem Tj{r:Rdr}{p:Int}{t:Tok}{tk:Tk}(h:At r p (some (tk.as "word" "FIRST")))(c:Code):Ok w b (Bb w.params r p t (some (tk.as "word" "FIRST")) false c):=by
 let lZ:List (Fm w b):=[pl (cNum w.params r p t (some (tk.as "word" "FIRST"))) (Di h rfl rfl rfl),pl (Aw w.params r p t (some (tk.as "word" "FIRST")) "literal" false) (Al h rfl),pl (Dt w.params r p t (some (tk.as "word" "FIRST")) false) (Av h rfl Aa1),pl (Aw w.params r p t (some (tk.as "word" "FIRST")) "word" true) (Al h rfl),pl (Ed w.params r p t (.ref tk.a)) (Ci h),pl (cIn (figS w.params) " FIRST " false) (Dj (by kernel_rfl))]
 refine oP lZ (r.K w.params p t false++NxK w.params (some (tk.as "word" "FIRST"))) 179 g7N [] [] ?_<;>intros<;>kernel_rfl
theorem Tl{r:Rdr}{p:Int}{t:Tok}{tk:Tk}(h:At r p (some (tk.as "word" "END-IF")))(c:Code):Ok w b (Bb w.params r p t (some (tk.as "word" "END-IF")) false c):=by
 let lZ:List (Fm w b):=[pl (cNum w.params r p t (some (tk.as "word" "END-IF"))) (Di h rfl rfl rfl),pl (Aw w.params r p t (some (tk.as "word" "END-IF")) "literal" false) (Al h rfl),pl (Dt w.params r p t (some (tk.as "word" "END-IF")) false) (Av h rfl Aa2),pl (Aw w.params r p t (some (tk.as "word" "END-IF")) "word" true) (Al h rfl),pl (Ed w.params r p t (.ref tk.a)) (Ci h),pl (cIn (figS w.params) " END-IF " false) (Dj (by kernel_rfl))]
 refine oP lZ (r.K w.params p t false++NxK w.params (some (tk.as "word" "END-IF"))) 179 g7N [] [] ?_<;>intros<;>kernel_rfl
theorem Ot{r:Rdr}{p:Int}{t:Tok}{tk:Tk}(h:At r p (some (tk.as "word" "INSPECT")))(c:Code):Ok w b (Bb w.params r p t (some (tk.as "word" "INSPECT")) false c):=by
 let lZ:List (Fm w b):=[pl (cNum w.params r p t (some (tk.as "word" "INSPECT"))) (Di h rfl rfl rfl),pl (Aw w.params r p t (some (tk.as "word" "INSPECT")) "literal" false) (Al h rfl),pl (Dt w.params r p t (some (tk.as "word" "INSPECT")) false) (Av h rfl Ud),pl (Aw w.params r p t (some (tk.as "word" "INSPECT")) "word" true) (Al h rfl),pl (Ed w.params r p t (.ref tk.a)) (Ci h),pl (cIn (figS w.params) " INSPECT " false) (Dj (by kernel_rfl))]
 refine oP lZ (r.K w.params p t false++NxK w.params (some (tk.as "word" "INSPECT"))) 179 g7N [] [] ?_<;>intros<;>kernel_rfl
theorem Kz{r:Rdr}{p:Int}{t:Tok}{tk:Tk}(h:At r p (some (tk.as "word" "CONVERTING")))(c:Code):Ok w b (Bb w.params r p t (some (tk.as "word" "CONVERTING")) false c):=by
 let lZ:List (Fm w b):=[pl (cNum w.params r p t (some (tk.as "word" "CONVERTING"))) (Di h rfl rfl rfl),pl (Aw w.params r p t (some (tk.as "word" "CONVERTING")) "literal" false) (Al h rfl),pl (Dt w.params r p t (some (tk.as "word" "CONVERTING")) false) (Av h rfl Oc),pl (Aw w.params r p t (some (tk.as "word" "CONVERTING")) "word" true) (Al h rfl),pl (Ed w.params r p t (.ref tk.a)) (Ci h),pl (cIn (figS w.params) " CONVERTING " false) (Dj (by kernel_rfl))]
 refine oP lZ (r.K w.params p t false++NxK w.params (some (tk.as "word" "CONVERTING"))) 179 g7N [] [] ?_<;>intros<;>kernel_rfl
theorem Fx{r:Rdr}{p:Int}{t:Tok}{tk:Tk}(h:At r p (some tk))(hw:kdB (some tk) "word"=true)(hr:∀ c,Ok w b (cRes tk.wo false c))(c:Code):Ok w b (Ux w.params r p t tk c):=by
 let lZ:List (Fm w b):=[pl (Dt w.params r p t (some tk) true) (Hg h hw hr),pl (Aea w.params r p t tk) (Ms h)]
 refine oP lZ (r.K w.params p t true++NxK w.params (some tk)) 87 0x20060051400001400000050851030810c00c20000000800000800000811440c2042003080000002000002000002040001001 [] [1] ?_<;>intros<;>kernel_rfl
theorem Aa8{r:Rdr}{p:Int}{t:Tok}  (h:At r p none)(hs:sgB none "("=false)(c:Code):Ok w b (Uw w.params r p t none c):=by
 let lZ:List (Fm w b):=[pl (Ka w.params r p t none "(") (Fn h hs)]
 refine oPX lZ (r.K w.params p t false++NxK w.params none) 129 0x1c6142007180000006000006000006140005000140105105040042041001001001081040040040042041001001040040041040001001 [] [] ?_ ?_<;>intros<;>kernel_rfl
theorem Aa7{r:Rdr}{p:Int}{t:Tok}{tk:Tk}(h:At r p (some tk))(hs:sgB (some tk) "("=false)(c:Code):Ok w b (Uw w.params r p t (some tk) c):=by
 let lZ:List (Fm w b):=[pl (Ka w.params r p t (some tk) "(") (Fn h hs)]
 refine oPX lZ (r.K w.params p t false++NxK w.params (some tk)) 129 0x2481c6142007180000006000006000006140005000140105105040042041001001001081040040040042041001001040040041040001001 [] [] ?_ ?_<;>intros<;>kernel_rfl
theorem Uj(c:Code):Ok w b (cOct "a" #[97] c):=by
 let lZ:List (Fm w b):=[]
 refine oPY lZ ([]) 271 251 g8N g9N [] [8] ?_ ?_ ?_ ?_<;>intros<;>kernel_rfl
theorem Aal(c:Code):Ok w b (cOct "b" #[98] c):=by
 let lZ:List (Fm w b):=[]
 refine oPY lZ ([]) 271 251 g8N g9N [] [8] ?_ ?_ ?_ ?_<;>intros<;>kernel_rfl
theorem Aev(c:Code):Ok w b (cOct "ab" #[97,98] c):=by
 let lZ:List (Fm w b):=[]
 refine oPY lZ ([]) 351 331 g10N g11N [] [12] ?_ ?_ ?_ ?_<;>intros<;>kernel_rfl
theorem oct_BY(c:Code):Ok w b (cOct "BY" #[66,89] c):=by
 let lZ:List (Fm w b):=[]
 refine oPY lZ ([]) 351 331 g10N g11N [] [12] ?_ ?_ ?_ ?_<;>intros<;>kernel_rfl
theorem Agm(c:Code):Ok w b (cOct "xyz" #[120,121,122] c):=by
 let lZ:List (Fm w b):=[]
 refine oPY lZ ([]) 431 411 0xc10422c208008008004004108b0820020020010010422c208008008004004108b08200200200a2810090092492492490000002c00040040040041020c30420c70c30030030000000400420c70c30030030000000400420c70c30030030000000400420c70c30030030030030030c00401001041820c31460420c30c00c00c00810800800000400000420c30c00c00c00810800800000400000420c30c00c00c00810800800000400000420c30c00c00c00c00c00c3001000040001001 0xc10422c208008008004004108b0820020020010010422c208008008004004108b08200200200a2810090092492492490000002c00040040040041020c30420c70c30030030000000400420c70c30030030000000400420c70c30030030000000400420c70c30030030000401001041820c31460420c30c00c00c00810800800000400000420c30c00c00c00810800800000400000420c30c00c00c00810800800000400000420c30c00c00c0001000040001001 [] [16] ?_ ?_ ?_ ?_<;>intros<;>kernel_rfl
theorem Adh(c:Code):Ok w b (cOct "0" #[48] c):=by
 let lZ:List (Fm w b):=[]
 refine oPY lZ ([]) 271 251 g8N g9N [] [8] ?_ ?_ ?_ ?_<;>intros<;>kernel_rfl
theorem oct_q(c:Code):Ok w b (cOct "q" #[113] c):=by
 let lZ:List (Fm w b):=[]
 refine oPY lZ ([]) 271 251 g8N g9N [] [8] ?_ ?_ ?_ ?_<;>intros<;>kernel_rfl
theorem Adi(c:Code):Ok w b (cOct "*" #[42] c):=by
 let lZ:List (Fm w b):=[]
 refine oPY lZ ([]) 271 251 g8N g9N [] [8] ?_ ?_ ?_ ?_<;>intros<;>kernel_rfl
theorem Fk(c:Code):Ok w b (cOct "." #[46] c):=by
 let lZ:List (Fm w b):=[]
 refine oPY lZ ([]) 271 251 g8N g9N [] [8] ?_ ?_ ?_ ?_<;>intros<;>kernel_rfl
theorem Ui{r:Rdr}{p:Int}{t:Tok}{tk:Tk}{bs:Array UInt8}(h:At r p (some tk))(hl:kdB (some tk) "literal"=true)(ho:∀ c,Ok w b (cOct tk.wo bs c))(c:Code):Ok w b (Abx w.params r p t tk bs c):=by
 let lZ:List (Fm w b):=[pl (Aw w.params r p t (some tk) "literal" true) (Al h hl),pl (Ed w.params r p t (.ref tk.a)) (Ci h),pl (cOct tk.wo bs) ho]
 refine oP lZ (r.K w.params p t true++NxK w.params (some tk)) 160 0x20430830020000020020000800000020400030020800000800000020410011000060051400001400000050c20430030800000020000020000020401440c2042003080000002000002000002040001001 [] [3,7] ?_<;>intros<;>kernel_rfl
theorem Yl{r:Rdr}{p:Int}{t:Tok}{tk:Tk}(h:At r p (some (tk.as "word" "SPACES")))(c:Code):Ok w b (cFig Aa w.params r p t (tk.as "word" "SPACES") "SPACES" c):=by
 let lZ:List (Fm w b):=[pl (Aw w.params r p t (some (tk.as "word" "SPACES")) "word" true) (Al h rfl),pl (Ed w.params r p t (.ref tk.a)) (Ci h),pl (Aea w.params r p t (tk.as "word" "SPACES")) (Ms h),pl (Uz (figA w.params) "SPACES") (Pn (Ho _) (Hm _) (Hn _) (Af3 _)),pl (Np (figA w.params) "SPACES" (figN Aa w.params "SPACES")) (Li (Ho _) (Hm _) (Hn _) (Af3 _))]
 refine oP lZ (r.K w.params p t true++NxK w.params (some (tk.as "word" "SPACES"))) 146 g12N [1] [3,4] ?_<;>intros<;>kernel_rfl
theorem Abb{r:Rdr}{p:Int}{t:Tok}{tk:Tk}(h:At r p (some (tk.as "word" "ZEROS")))(c:Code):Ok w b (cFig Aa w.params r p t (tk.as "word" "ZEROS") "ZEROS" c):=by
 let lZ:List (Fm w b):=[pl (Aw w.params r p t (some (tk.as "word" "ZEROS")) "word" true) (Al h rfl),pl (Ed w.params r p t (.ref tk.a)) (Ci h),pl (Aea w.params r p t (tk.as "word" "ZEROS")) (Ms h),pl (Uz (figA w.params) "ZEROS") (Pn (Ho _) (Hm _) (Hn _) (Af2 _)),pl (Np (figA w.params) "ZEROS" (figN Aa w.params "ZEROS")) (Li (Ho _) (Hm _) (Hn _) (Af2 _))]
 refine oP lZ (r.K w.params p t true++NxK w.params (some (tk.as "word" "ZEROS"))) 146 g12N [1] [3,4] ?_<;>intros<;>kernel_rfl
theorem Rc{r:Rdr}{p:Int}{t:Tok}{tk:Tk}(h:At r p (some (tk.as "word" "K")))(c:Code):Ok w b (Th w.params r p t (some (tk.as "word" "K")) c):=by
 let lZ:List (Fm w b):=[pl (Aw w.params r p t (some (tk.as "word" "K")) "word" true) (Al h rfl),pl (Ed w.params r p t (.ref tk.a)) (Ci h),pl (Wx (figA w.params) "K") (Uy (Ho _) (Hm _) (Hn _) (fig_k _) (fig_sm _))]
 refine oP lZ (r.K w.params p t false++NxK w.params (some (tk.as "word" "K"))) 94 0x40000001801450000050000001430810c00c20000000800000800000811440c2042003080000002000002000002040001001 [] [] ?_<;>intros<;>kernel_rfl
theorem Rj{r:Rdr}{p:Int}{t:Tok}{nx:Option Tk}(h:At r p nx)(hs:sgB nx "("=false)(c:Code):Ok w b (Uw w.params r p t nx c):=by
 cases nx with
 | none=>exact Aa8 h hs c
 | some tk=>exact Aa7 h hs c
noncomputable def cRef(P:Params)(r:Rdr)(p:Int)(t:Tok)(k:Tk)(nx:Option Tk)(c:Code):Con:=
 ⟨.call (.ref 160) ⟨[.ref r.rd,.ref (Af c 1)],[]⟩,Au (r.K P p t true++(NxK P (some k)++NxK P nx)),[(r.d,λtk=>r.dict P (p+1) (tk 1))],3,λnw tk=>[(nw 0,tupO [.str "ref" (tk 0),.str k.wo k.t6,.ref (nw 1),.ref (nw 2),.none]),(nw 1,tupO []),(nw 2,tupO [])],2,λnw _=>.ok (.ret (.ref (nw 0))),35⟩
noncomputable def Tg(P:Params)(r:Rdr)(p:Int)(t:Tok)(k o z:Tk)(nx:Option Tk)(c:Code):Con:=
 ⟨.call (.ref 160) ⟨[.ref r.rd,.ref (Af c 1)],[]⟩,Au (r.K P p t true++(NxK P (some k)++(NxK P (some o)++(NxK P (some z)++NxK P nx)))),[(r.d,λtk=>r.dict P (p+1+1+1) (tk 1))],3,λnw tk=>[(nw 0,tupO [.str "ref" (tk 0),.str k.wo k.t6,.ref (nw 1),.ref (nw 2),.none]),(nw 1,tupO [.str z.wo z.t6]),(nw 2,tupO [])],2,λnw _=>.ok (.ret (.ref (nw 0))),35⟩

theorem Ada{r:Rdr}{p:Int}{t:Tok}{k:Tk}  (h:At r p (some k))(hw:kdB (some k) "word"=true)(hr:∀ c,Ok w b (cRes k.wo false c))(h1:At r (p+1) none)(ho:wdB none "OF"=false)(hi:wdB none "IN"=false)(hs:sgB none "("=false)(c:Code):Ok w b (cRef w.params r p t k none c):=by
 let lZ:List (Fm w b):=[pl (Ac0 [] 0) (Ml (Nat.le_of_ble_eq_true rfl)),pl (Ux w.params r p t k) (Fx h hw hr),⟨λA T c=>.plain (Nm w.params r (p+1) (T 2) none c),λ_ _ c=>Mj h1 ho hi c⟩,⟨λA T c=>.plain (Ka w.params r (p+1) (T 2) none "(" c),λ_ _ c=>Fn h1 hs c⟩,⟨λA T c=>.plain (Uw w.params r (p+1) (T 2) none c),λ_ _ c=>Rj h1 hs c⟩]
 refine oPX lZ (r.K w.params p t true++(NxK w.params (some k)++NxK w.params none)) 186 0xc10071450400400410400800800800000030000c20c51031800c01440c50051000000040000040000040c20c00040c21001030000000c00000c00000c20010800421440c2043003080000002000002000002040001001001 [5,4,2] [11,2] ?_ ?_<;>intros<;>kernel_rfl
theorem Ad9{r:Rdr}{p:Int}{t:Tok}{k:Tk}{q:Tk}(h:At r p (some k))(hw:kdB (some k) "word"=true)(hr:∀ c,Ok w b (cRes k.wo false c))(h1:At r (p+1) (some q))(ho:wdB (some q) "OF"=false)(hi:wdB (some q) "IN"=false)(hs:sgB (some q) "("=false)(c:Code):Ok w b (cRef w.params r p t k (some q) c):=by
 let lZ:List (Fm w b):=[pl (Ac0 [] 0) (Ml (Nat.le_of_ble_eq_true rfl)),pl (Ux w.params r p t k) (Fx h hw hr),⟨λA T c=>.plain (Nm w.params r (p+1) (T 2) (some q) c),λ_ _ c=>Mj h1 ho hi c⟩,⟨λA T c=>.plain (Ka w.params r (p+1) (T 2) (some q) "(" c),λ_ _ c=>Fn h1 hs c⟩,⟨λA T c=>.plain (Uw w.params r (p+1) (T 2) (some q) c),λ_ _ c=>Rj h1 hs c⟩]
 refine oPX lZ (r.K w.params p t true++(NxK w.params (some k)++NxK w.params (some q))) 186 0xc10071450400400410400800800800000030000c20c92051031800c02481440c50051000000040000040000040c20c00081c40c21001030000000c00000c00000c20010800421440c2043003080000002000002000002040001001001 [5,4,2] [11,2] ?_ ?_<;>intros<;>kernel_rfl
theorem Xs{r:Rdr}{p:Int}{t:Tok}{k o z:Tk}  (h:At r p (some k))(hw:kdB (some k) "word"=true)(hr:∀ c,Ok w b (cRes k.wo false c))(h1:At r (p+1) (some o))(hof:wdB (some o) "OF"=true)(h2:At r (p+1+1) (some z))(hw2:kdB (some z) "word"=true)(hr2:∀ c,Ok w b (cRes z.wo false c))(h3:At r (p+1+1+1) none)(ho:wdB none "OF"=false)(hi:wdB none "IN"=false)(hs:sgB none "("=false)(c:Code):Ok w b (Tg w.params r p t k o z none c):=by
 let lZ:List (Fm w b):=[pl (Ac0 [.str z.wo z.t6] 1) (Ml (Nat.le_of_ble_eq_true rfl)),pl (Ux w.params r p t k) (Fx h hw hr),⟨λA T c=>.plain (Abw w.params r (p+1) (T 2) (some o) c),λ_ _ c=>Pd h1 hof c⟩,⟨λA T c=>.plain (Ux w.params r (p+1+1) (T 6) z c),λ_ _ c=>Fx h2 hw2 hr2 c⟩,⟨λA T c=>.plain (Nm w.params r (p+1+1+1) (T 9) none c),λ_ _ c=>Mj h3 ho hi c⟩,⟨λA T c=>.plain (Ka w.params r (p+1+1+1) (T 9) none "(" c),λ_ _ c=>Fn h3 hs c⟩,⟨λA T c=>.plain (Uw w.params r (p+1+1+1) (T 9) none c),λ_ _ c=>Rj h3 hs c⟩]
 refine oPX lZ (r.K w.params p t true++(NxK w.params (some k)++(NxK w.params (some o)++(NxK w.params (some z)++NxK w.params none)))) 258 0xc10071450400400410400800800800000030000c20c51032000c01440c70051000000040000040000040c20c00040c21801030000000c00000c00000c20010010010032891030850040c00000030000030000030810410420000c81c40c21001030000000c00000c00000c20010800421440c2043003080000002000002000002040001001001 [5,4,2] [16,9] ?_ ?_<;>intros<;>kernel_rfl
theorem Xr{r:Rdr}{p:Int}{t:Tok}{k o z:Tk}{q:Tk}(h:At r p (some k))(hw:kdB (some k) "word"=true)(hr:∀ c,Ok w b (cRes k.wo false c))(h1:At r (p+1) (some o))(hof:wdB (some o) "OF"=true)(h2:At r (p+1+1) (some z))(hw2:kdB (some z) "word"=true)(hr2:∀ c,Ok w b (cRes z.wo false c))(h3:At r (p+1+1+1) (some q))(ho:wdB (some q) "OF"=false)(hi:wdB (some q) "IN"=false)(hs:sgB (some q) "("=false)(c:Code):Ok w b (Tg w.params r p t k o z (some q) c):=by
 let lZ:List (Fm w b):=[pl (Ac0 [.str z.wo z.t6] 1) (Ml (Nat.le_of_ble_eq_true rfl)),pl (Ux w.params r p t k) (Fx h hw hr),⟨λA T c=>.plain (Abw w.params r (p+1) (T 2) (some o) c),λ_ _ c=>Pd h1 hof c⟩,⟨λA T c=>.plain (Ux w.params r (p+1+1) (T 6) z c),λ_ _ c=>Fx h2 hw2 hr2 c⟩,⟨λA T c=>.plain (Nm w.params r (p+1+1+1) (T 9) (some q) c),λ_ _ c=>Mj h3 ho hi c⟩,⟨λA T c=>.plain (Ka w.params r (p+1+1+1) (T 9) (some q) "(" c),λ_ _ c=>Fn h3 hs c⟩,⟨λA T c=>.plain (Uw w.params r (p+1+1+1) (T 9) (some q) c),λ_ _ c=>Rj h3 hs c⟩]
 refine oPX lZ (r.K w.params p t true++(NxK w.params (some k)++(NxK w.params (some o)++(NxK w.params (some z)++NxK w.params (some q))))) 258 0xc10071450400400410400800800800000030000c20cd3051032000c034c1440c70051000000040000040000040c20c000c2c40c21801030000000c00000c00000c20010010010032891030850040c00000030000030000030810410420000c81c40c21001030000000c00000c00000c20010800421440c2043003080000002000002000002040001001001 [5,4,2] [16,9] ?_ ?_<;>intros<;>kernel_rfl
theorem Af4{r:Rdr}{p:Int}{t:Tok}{k:Tk}{nx:Option Tk}(h:At r p (some k))(hw:kdB (some k) "word"=true)(hr:∀ c,Ok w b (cRes k.wo false c))(h1:At r (p+1) nx)(ho:wdB nx "OF"=false)(hi:wdB nx "IN"=false)(hs:sgB nx "("=false)(c:Code):Ok w b (cRef w.params r p t k nx c):=by
 cases nx with
 | none=>exact Ada h hw hr h1 ho hi hs c
 | some q=>exact Ad9 h hw hr h1 ho hi hs c
theorem Wt{r:Rdr}{p:Int}{t:Tok}{k o z:Tk}{nx:Option Tk}(h:At r p (some k))(hw:kdB (some k) "word"=true)(hr:∀ c,Ok w b (cRes k.wo false c))(h1:At r (p+1) (some o))(hof:wdB (some o) "OF"=true)(h2:At r (p+1+1) (some z))(hw2:kdB (some z) "word"=true)(hr2:∀ c,Ok w b (cRes z.wo false c))(h3:At r (p+1+1+1) nx)(ho:wdB nx "OF"=false)(hi:wdB nx "IN"=false)(hs:sgB nx "("=false)(c:Code):Ok w b (Tg w.params r p t k o z nx c):=by
 cases nx with
 | none=>exact Xs h hw hr h1 hof h2 hw2 hr2 h3 ho hi hs c
 | some q=>exact Xr h hw hr h1 hof h2 hw2 hr2 h3 ho hi hs c
noncomputable def Tz(code:Code)(deep:Nat)(P:Params)(r:Rdr)(p:Int)(t:Tok)(k:Tk)(bs:Array UInt8):Con:=
 ⟨code,Au (r.K P p t true++NxK P (some k)),[(r.d,λtk=>r.dict P (p+1) (tk 2))],1,λnw tk=>[(nw 0,tupO [.str "text" (tk 0),.bytes bs (tk 1)])],3,λnw _=>.ok (.ret (.ref (nw 0))),deep⟩
noncomputable def Mr(code:Code)(deep:Nat)(st:SP)(P:Params)(r:Rdr)(p:Int)(t:Tok)(k:Tk)(x:Str):Con:=
 ⟨code,Au (r.K P p t true++NxK P (some k)),[(r.d,λtk=>r.dict P (p+1) (tk 1))],1,λnw tk=>[(nw 0,tupO [.str "figure" (tk 0),figN st P x])],2,λnw _=>.ok (.ret (.ref (nw 0))),deep⟩
noncomputable def Ki(code:Code)(deep:Nat)(P:Params)(r:Rdr)(p:Int)(t:Tok)(k:Tk)(nx:Option Tk):Con:=
 ⟨code,Au (r.K P p t true++(NxK P (some k)++NxK P nx)),[(r.d,λtk=>r.dict P (p+1) (tk 1))],3,λnw tk=>[(nw 0,tupO [.str "ref" (tk 0),.str k.wo k.t6,.ref (nw 1),.ref (nw 2),.none]),(nw 1,tupO []),(nw 2,tupO [])],2,λnw _=>.ok (.ret (.ref (nw 0))),deep⟩
noncomputable def Dv(code:Code)(deep:Nat)(P:Params)(r:Rdr)(p:Int)(t:Tok)(k o z:Tk)(nx:Option Tk):Con:=
 ⟨code,Au (r.K P p t true++(NxK P (some k)++(NxK P (some o)++(NxK P (some z)++NxK P nx)))),[(r.d,λtk=>r.dict P (p+1+1+1) (tk 1))],3,λnw tk=>[(nw 0,tupO [.str "ref" (tk 0),.str k.wo k.t6,.ref (nw 1),.ref (nw 2),.none]),(nw 1,tupO [.str z.wo z.t6]),(nw 2,tupO [])],2,λnw _=>.ok (.ret (.ref (nw 0))),deep⟩
noncomputable def El(r:Rdr)(c:Code):Code:=.call (.ref 181) ⟨[.ref r.rd,.ref (Af c 1)],[]⟩
noncomputable def Em(r:Rdr):Code:=.call (.ref 265) ⟨[.ref r.rd],[]⟩
noncomputable def Bk(r:Rdr):Code:=.call (.ref 272) ⟨[.ref r.rd],[]⟩

theorem Afy{r:Rdr}{p:Int}{t:Tok}{k:Tk}{bs:Array UInt8}(h:At r p (some k))(hp:sgB (some k) "+"=false)(hm:sgB (some k) "-"=false)(hn:kdB (some k) "number"=false)(hl:kdB (some k) "literal"=true)(ho:∀ c,Ok w b (cOct k.wo bs c))(c:Code):Ok w b (Tz (El r c) 45 w.params r p t k bs):=by
 let lZ:List (Fm w b):=[pl (cNum w.params r p t (some k)) (Di h hp hm hn),pl (Aw w.params r p t (some k) "literal" true) (Al h hl),pl (Abx w.params r p t k bs) (Ui h hl ho)]
 refine oP lZ (r.K w.params p t true++NxK w.params (some k)) 101 0xc21440c20440030800000020000020000020451030810c00c20000000800000800000811440c2042003080000002000002000002040001001001 [1] [3,4,5] ?_<;>intros<;>kernel_rfl
theorem Xp{r:Rdr}{p:Int}{t:Tok}{k:Tk}(h:At r p (some (k.as "word" "SPACES")))(c:Code):Ok w b (Mr (El r c) 45 Aa w.params r p t (k.as "word" "SPACES") "SPACES"):=by
 let lZ:List (Fm w b):=[pl (cNum w.params r p t (some (k.as "word" "SPACES"))) (Di h rfl rfl rfl),pl (Aw w.params r p t (some (k.as "word" "SPACES")) "literal" false) (Al h rfl),pl (Cg w.params r p t (some (k.as "word" "SPACES")) "ALL") (Bc Bf h rfl),pl (cFig Aa w.params r p t (k.as "word" "SPACES") "SPACES") (Yl h)]
 refine oP lZ (r.K w.params p t true++NxK w.params (some (k.as "word" "SPACES"))) 122 g13N [1] [4,5] ?_<;>intros<;>kernel_rfl
theorem Zu{r:Rdr}{p:Int}{t:Tok}{k:Tk}(h:At r p (some (k.as "word" "ZEROS")))(c:Code):Ok w b (Mr (El r c) 45 Aa w.params r p t (k.as "word" "ZEROS") "ZEROS"):=by
 let lZ:List (Fm w b):=[pl (cNum w.params r p t (some (k.as "word" "ZEROS"))) (Di h rfl rfl rfl),pl (Aw w.params r p t (some (k.as "word" "ZEROS")) "literal" false) (Al h rfl),pl (Cg w.params r p t (some (k.as "word" "ZEROS")) "ALL") (Bc Bf h rfl),pl (cFig Aa w.params r p t (k.as "word" "ZEROS") "ZEROS") (Abb h)]
 refine oP lZ (r.K w.params p t true++NxK w.params (some (k.as "word" "ZEROS"))) 122 g13N [1] [4,5] ?_<;>intros<;>kernel_rfl
theorem Se{r:Rdr}{p:Int}{t:Tok}{k:Tk}  (h:At r p (some (k.as "word" "K")))(h1:At r (p+1) none)(ho:wdB none "OF"=false)(hi:wdB none "IN"=false)(hs:sgB none "("=false)(c:Code):Ok w b (Ki (El r c) 45 w.params r p t (k.as "word" "K") none):=by
 let lZ:List (Fm w b):=[pl (cNum w.params r p t (some (k.as "word" "K"))) (Di h rfl rfl rfl),pl (Aw w.params r p t (some (k.as "word" "K")) "literal" false) (Al h rfl),pl (Cg w.params r p t (some (k.as "word" "K")) "ALL") (Bc Bf h rfl),pl (Th w.params r p t (some (k.as "word" "K"))) (Rc h),pl (cRef w.params r p t (k.as "word" "K") none) (Af4 h rfl Qj h1 ho hi hs)]
 refine oP lZ (r.K w.params p t true++(NxK w.params (some (k.as "word" "K"))++NxK w.params none)) 130 0x421421440c20460010400400451030811400401440c20440030800000020000020000020451030810c00c20000000800000800000811440c2042003080000002000002000002040001001001 [1,2,3] [5,6] ?_<;>intros<;>kernel_rfl
theorem Sd{r:Rdr}{p:Int}{t:Tok}{k:Tk}{q:Tk}(h:At r p (some (k.as "word" "K")))(h1:At r (p+1) (some q))(ho:wdB (some q) "OF"=false)(hi:wdB (some q) "IN"=false)(hs:sgB (some q) "("=false)(c:Code):Ok w b (Ki (El r c) 45 w.params r p t (k.as "word" "K") (some q)):=by
 let lZ:List (Fm w b):=[pl (cNum w.params r p t (some (k.as "word" "K"))) (Di h rfl rfl rfl),pl (Aw w.params r p t (some (k.as "word" "K")) "literal" false) (Al h rfl),pl (Cg w.params r p t (some (k.as "word" "K")) "ALL") (Bc Bf h rfl),pl (Th w.params r p t (some (k.as "word" "K"))) (Rc h),pl (cRef w.params r p t (k.as "word" "K") (some q)) (Af4 h rfl Qj h1 ho hi hs)]
 refine oP lZ (r.K w.params p t true++(NxK w.params (some (k.as "word" "K"))++NxK w.params (some q))) 130 0x421421c61440c20460010400400451030811400401440c20440030800000020000020000020451030810c00c20000000800000800000811440c2042003080000002000002000002040001001001 [1,2,3] [5,6] ?_<;>intros<;>kernel_rfl
theorem Ob{r:Rdr}{p:Int}{t:Tok}{k o z:Tk}  (h:At r p (some (k.as "word" "K")))(h1:At r (p+1) (some o))(hof:wdB (some o) "OF"=true)(h2:At r (p+1+1) (some z))(hw2:kdB (some z) "word"=true)(hr2:∀ c,Ok w b (cRes z.wo false c))(h3:At r (p+1+1+1) none)(ho:wdB none "OF"=false)(hi:wdB none "IN"=false)(hs:sgB none "("=false)(c:Code):Ok w b (Dv (El r c) 45 w.params r p t (k.as "word" "K") o z none):=by
 let lZ:List (Fm w b):=[pl (cNum w.params r p t (some (k.as "word" "K"))) (Di h rfl rfl rfl),pl (Aw w.params r p t (some (k.as "word" "K")) "literal" false) (Al h rfl),pl (Cg w.params r p t (some (k.as "word" "K")) "ALL") (Bc Bf h rfl),pl (Th w.params r p t (some (k.as "word" "K"))) (Rc h),pl (Tg w.params r p t (k.as "word" "K") o z none) (Wt h rfl Qj h1 hof h2 hw2 hr2 h3 ho hi hs)]
 refine oP lZ (r.K w.params p t true++(NxK w.params (some (k.as "word" "K"))++(NxK w.params (some o)++(NxK w.params (some z)++NxK w.params none)))) 130 0x421422481c61440c20460010400400451030811400401440c20440030800000020000020000020451030810c00c20000000800000800000811440c2042003080000002000002000002040001001001 [1,2,3] [5,6] ?_<;>intros<;>kernel_rfl
theorem Oa{r:Rdr}{p:Int}{t:Tok}{k o z:Tk}{q:Tk}(h:At r p (some (k.as "word" "K")))(h1:At r (p+1) (some o))(hof:wdB (some o) "OF"=true)(h2:At r (p+1+1) (some z))(hw2:kdB (some z) "word"=true)(hr2:∀ c,Ok w b (cRes z.wo false c))(h3:At r (p+1+1+1) (some q))(ho:wdB (some q) "OF"=false)(hi:wdB (some q) "IN"=false)(hs:sgB (some q) "("=false)(c:Code):Ok w b (Dv (El r c) 45 w.params r p t (k.as "word" "K") o z (some q)):=by
 let lZ:List (Fm w b):=[pl (cNum w.params r p t (some (k.as "word" "K"))) (Di h rfl rfl rfl),pl (Aw w.params r p t (some (k.as "word" "K")) "literal" false) (Al h rfl),pl (Cg w.params r p t (some (k.as "word" "K")) "ALL") (Bc Bf h rfl),pl (Th w.params r p t (some (k.as "word" "K"))) (Rc h),pl (Tg w.params r p t (k.as "word" "K") o z (some q)) (Wt h rfl Qj h1 hof h2 hw2 hr2 h3 ho hi hs)]
 refine oP lZ (r.K w.params p t true++(NxK w.params (some (k.as "word" "K"))++(NxK w.params (some o)++(NxK w.params (some z)++NxK w.params (some q))))) 130 0x421422ca2481c61440c20460010400400451030811400401440c20440030800000020000020000020451030810c00c20000000800000800000811440c2042003080000002000002000002040001001001 [1,2,3] [5,6] ?_<;>intros<;>kernel_rfl
theorem Vs{r:Rdr}{p:Int}{t:Tok}{k:Tk}{nx:Option Tk}(h:At r p (some (k.as "word" "K")))(h1:At r (p+1) nx)(ho:wdB nx "OF"=false)(hi:wdB nx "IN"=false)(hs:sgB nx "("=false)(c:Code):Ok w b (Ki (El r c) 45 w.params r p t (k.as "word" "K") nx):=by
 cases nx with
 | none=>exact Se h h1 ho hi hs c
 | some q=>exact Sd h h1 ho hi hs c
theorem Pa{r:Rdr}{p:Int}{t:Tok}{k o z:Tk}{nx:Option Tk}(h:At r p (some (k.as "word" "K")))(h1:At r (p+1) (some o))(hof:wdB (some o) "OF"=true)(h2:At r (p+1+1) (some z))(hw2:kdB (some z) "word"=true)(hr2:∀ c,Ok w b (cRes z.wo false c))(h3:At r (p+1+1+1) nx)(ho:wdB nx "OF"=false)(hi:wdB nx "IN"=false)(hs:sgB nx "("=false)(c:Code):Ok w b (Dv (El r c) 45 w.params r p t (k.as "word" "K") o z nx):=by
 cases nx with
 | none=>exact Ob h h1 hof h2 hw2 hr2 h3 ho hi hs c
 | some q=>exact Oa h h1 hof h2 hw2 hr2 h3 ho hi hs c

theorem Agk{r:Rdr}{p:Int}{t:Tok}{k:Tk}{bs:Array UInt8}(h:At r p (some k))(hp:sgB (some k) "+"=false)(hm:sgB (some k) "-"=false)(hn:kdB (some k) "number"=false)(hl:kdB (some k) "literal"=true)(ho:∀ c,Ok w b (cOct k.wo bs c))(c:Code):Ok w b (Tz (Em r) 55 w.params r p t k bs):=by
 let lZ:List (Fm w b):=[pl (Bb w.params r p t (some k) true) (Pp h hp hm hn hl),⟨λ_ _ c=>.plain (Tz (El r c) 45 w.params r p t k bs),λ_ _ c=>Afy h hp hm hn hl ho c⟩]
 refine oP lZ (r.K w.params p t true++NxK w.params (some k)) 40 g14N [1] [1,2,3] ?_<;>intros<;>kernel_rfl
theorem Xy{r:Rdr}{p:Int}{t:Tok}{k:Tk}(h:At r p (some (k.as "word" "SPACES")))(c:Code):Ok w b (Mr (Em r) 55 Aa w.params r p t (k.as "word" "SPACES") "SPACES"):=by
 let lZ:List (Fm w b):=[pl (Bb w.params r p t (some (k.as "word" "SPACES")) true) (Kc h),⟨λ_ _ c=>.plain (Mr (El r c) 45 Aa w.params r p t (k.as "word" "SPACES") "SPACES"),λ_ _ c=>Xp h c⟩]
 refine oP lZ (r.K w.params p t true++NxK w.params (some (k.as "word" "SPACES"))) 40 g14N [1] [1,2] ?_<;>intros<;>kernel_rfl
theorem Aai{r:Rdr}{p:Int}{t:Tok}{k:Tk}(h:At r p (some (k.as "word" "ZEROS")))(c:Code):Ok w b (Mr (Em r) 55 Aa w.params r p t (k.as "word" "ZEROS") "ZEROS"):=by
 let lZ:List (Fm w b):=[pl (Bb w.params r p t (some (k.as "word" "ZEROS")) true) (Lj h),⟨λ_ _ c=>.plain (Mr (El r c) 45 Aa w.params r p t (k.as "word" "ZEROS") "ZEROS"),λ_ _ c=>Zu h c⟩]
 refine oP lZ (r.K w.params p t true++NxK w.params (some (k.as "word" "ZEROS"))) 40 g14N [1] [1,2] ?_<;>intros<;>kernel_rfl
theorem Sj{r:Rdr}{p:Int}{t:Tok}{k:Tk}  (h:At r p (some (k.as "word" "K")))(h1:At r (p+1) none)(ho:wdB none "OF"=false)(hi:wdB none "IN"=false)(hs:sgB none "("=false)(c:Code):Ok w b (Ki (Em r) 55 w.params r p t (k.as "word" "K") none):=by
 let lZ:List (Fm w b):=[pl (Bb w.params r p t (some (k.as "word" "K")) true) (Fd h rfl rfl rfl rfl rfl Qj),⟨λ_ _ c=>.plain (Ki (El r c) 45 w.params r p t (k.as "word" "K") none),λ_ _ c=>Vs h h1 ho hi hs c⟩]
 refine oP lZ (r.K w.params p t true++(NxK w.params (some (k.as "word" "K"))++NxK w.params none)) 40 0x421421440c20430000401440c2042001000001001 [1,2,3] [1,2] ?_<;>intros<;>kernel_rfl
theorem Si{r:Rdr}{p:Int}{t:Tok}{k:Tk}{q:Tk}(h:At r p (some (k.as "word" "K")))(h1:At r (p+1) (some q))(ho:wdB (some q) "OF"=false)(hi:wdB (some q) "IN"=false)(hs:sgB (some q) "("=false)(c:Code):Ok w b (Ki (Em r) 55 w.params r p t (k.as "word" "K") (some q)):=by
 let lZ:List (Fm w b):=[pl (Bb w.params r p t (some (k.as "word" "K")) true) (Fd h rfl rfl rfl rfl rfl Qj),⟨λ_ _ c=>.plain (Ki (El r c) 45 w.params r p t (k.as "word" "K") (some q)),λ_ _ c=>Vs h h1 ho hi hs c⟩]
 refine oP lZ (r.K w.params p t true++(NxK w.params (some (k.as "word" "K"))++NxK w.params (some q))) 40 0x421421c61440c20430000401440c2042001000001001 [1,2,3] [1,2] ?_<;>intros<;>kernel_rfl
theorem Og{r:Rdr}{p:Int}{t:Tok}{k o z:Tk}  (h:At r p (some (k.as "word" "K")))(h1:At r (p+1) (some o))(hof:wdB (some o) "OF"=true)(h2:At r (p+1+1) (some z))(hw2:kdB (some z) "word"=true)(hr2:∀ c,Ok w b (cRes z.wo false c))(h3:At r (p+1+1+1) none)(ho:wdB none "OF"=false)(hi:wdB none "IN"=false)(hs:sgB none "("=false)(c:Code):Ok w b (Dv (Em r) 55 w.params r p t (k.as "word" "K") o z none):=by
 let lZ:List (Fm w b):=[pl (Bb w.params r p t (some (k.as "word" "K")) true) (Fd h rfl rfl rfl rfl rfl Qj),⟨λ_ _ c=>.plain (Dv (El r c) 45 w.params r p t (k.as "word" "K") o z none),λ_ _ c=>Pa h h1 hof h2 hw2 hr2 h3 ho hi hs c⟩]
 refine oP lZ (r.K w.params p t true++(NxK w.params (some (k.as "word" "K"))++(NxK w.params (some o)++(NxK w.params (some z)++NxK w.params none)))) 40 0x421422481c61440c20430000401440c2042001000001001 [1,2,3] [1,2] ?_<;>intros<;>kernel_rfl
theorem Of{r:Rdr}{p:Int}{t:Tok}{k o z:Tk}{q:Tk}(h:At r p (some (k.as "word" "K")))(h1:At r (p+1) (some o))(hof:wdB (some o) "OF"=true)(h2:At r (p+1+1) (some z))(hw2:kdB (some z) "word"=true)(hr2:∀ c,Ok w b (cRes z.wo false c))(h3:At r (p+1+1+1) (some q))(ho:wdB (some q) "OF"=false)(hi:wdB (some q) "IN"=false)(hs:sgB (some q) "("=false)(c:Code):Ok w b (Dv (Em r) 55 w.params r p t (k.as "word" "K") o z (some q)):=by
 let lZ:List (Fm w b):=[pl (Bb w.params r p t (some (k.as "word" "K")) true) (Fd h rfl rfl rfl rfl rfl Qj),⟨λ_ _ c=>.plain (Dv (El r c) 45 w.params r p t (k.as "word" "K") o z (some q)),λ_ _ c=>Pa h h1 hof h2 hw2 hr2 h3 ho hi hs c⟩]
 refine oP lZ (r.K w.params p t true++(NxK w.params (some (k.as "word" "K"))++(NxK w.params (some o)++(NxK w.params (some z)++NxK w.params (some q))))) 40 0x421422ca2481c61440c20430000401440c2042001000001001 [1,2,3] [1,2] ?_<;>intros<;>kernel_rfl
theorem Wa{r:Rdr}{p:Int}{t:Tok}{k:Tk}{nx:Option Tk}(h:At r p (some (k.as "word" "K")))(h1:At r (p+1) nx)(ho:wdB nx "OF"=false)(hi:wdB nx "IN"=false)(hs:sgB nx "("=false)(c:Code):Ok w b (Ki (Em r) 55 w.params r p t (k.as "word" "K") nx):=by
 cases nx with
 | none=>exact Sj h h1 ho hi hs c
 | some q=>exact Si h h1 ho hi hs c
theorem Pc{r:Rdr}{p:Int}{t:Tok}{k o z:Tk}{nx:Option Tk}(h:At r p (some (k.as "word" "K")))(h1:At r (p+1) (some o))(hof:wdB (some o) "OF"=true)(h2:At r (p+1+1) (some z))(hw2:kdB (some z) "word"=true)(hr2:∀ c,Ok w b (cRes z.wo false c))(h3:At r (p+1+1+1) nx)(ho:wdB nx "OF"=false)(hi:wdB nx "IN"=false)(hs:sgB nx "("=false)(c:Code):Ok w b (Dv (Em r) 55 w.params r p t (k.as "word" "K") o z nx):=by
 cases nx with
 | none=>exact Og h h1 hof h2 hw2 hr2 h3 ho hi hs c
 | some q=>exact Of h h1 hof h2 hw2 hr2 h3 ho hi hs c

theorem Zf{r:Rdr}{p:Int}{t:Tok}{k:Tk}{bs:Array UInt8}(h:At r p (some k))(hp:sgB (some k) "+"=false)(hm:sgB (some k) "-"=false)(hn:kdB (some k) "number"=false)(hl:kdB (some k) "literal"=true)(ho:∀ c,Ok w b (cOct k.wo bs c))(c:Code):Ok w b (Tz (Bk r) 65 w.params r p t k bs):=by
 let lZ:List (Fm w b):=[pl (λ_=>Tz (Em r) 55 w.params r p t k bs) (Agk h hp hm hn hl ho)]
 refine oPX lZ (r.K w.params p t true++NxK w.params (some k)) 98 g15N [1] [3,4,5] ?_ ?_<;>intros<;>kernel_rfl
theorem Zg{r:Rdr}{p:Int}{t:Tok}{k:Tk}(h:At r p (some (k.as "word" "SPACES")))(c:Code):Ok w b (Mr (Bk r) 65 Aa w.params r p t (k.as "word" "SPACES") "SPACES"):=by
 let lZ:List (Fm w b):=[pl (λ_=>Mr (Em r) 55 Aa w.params r p t (k.as "word" "SPACES") "SPACES") (Xy h)]
 refine oPX lZ (r.K w.params p t true++NxK w.params (some (k.as "word" "SPACES"))) 98 g15N [1] [3,4] ?_ ?_<;>intros<;>kernel_rfl
theorem Acu{r:Rdr}{p:Int}{t:Tok}{k:Tk}(h:At r p (some (k.as "word" "ZEROS")))(c:Code):Ok w b (Mr (Bk r) 65 Aa w.params r p t (k.as "word" "ZEROS") "ZEROS"):=by
 let lZ:List (Fm w b):=[pl (λ_=>Mr (Em r) 55 Aa w.params r p t (k.as "word" "ZEROS") "ZEROS") (Aai h)]
 refine oPX lZ (r.K w.params p t true++NxK w.params (some (k.as "word" "ZEROS"))) 98 g15N [1] [3,4] ?_ ?_<;>intros<;>kernel_rfl
theorem Ty{r:Rdr}{p:Int}{t:Tok}{k:Tk}  (h:At r p (some (k.as "word" "K")))(h1:At r (p+1) none)(ho:wdB none "OF"=false)(hi:wdB none "IN"=false)(hs:sgB none "("=false)(c:Code):Ok w b (Ki (Bk r) 65 w.params r p t (k.as "word" "K") none):=by
 let lZ:List (Fm w b):=[pl (λ_=>Ki (Em r) 55 w.params r p t (k.as "word" "K") none) (Wa h h1 ho hi hs)]
 refine oPX lZ (r.K w.params p t true++(NxK w.params (some (k.as "word" "K"))++NxK w.params none)) 98 0x420c61400000010010010430030030c31031021440c2042001000043002080000080000002040001001 [1,2,3] [3,4] ?_ ?_<;>intros<;>kernel_rfl
theorem Tx{r:Rdr}{p:Int}{t:Tok}{k:Tk}{q:Tk}(h:At r p (some (k.as "word" "K")))(h1:At r (p+1) (some q))(ho:wdB (some q) "OF"=false)(hi:wdB (some q) "IN"=false)(hs:sgB (some q) "("=false)(c:Code):Ok w b (Ki (Bk r) 65 w.params r p t (k.as "word" "K") (some q)):=by
 let lZ:List (Fm w b):=[pl (λ_=>Ki (Em r) 55 w.params r p t (k.as "word" "K") (some q)) (Wa h h1 ho hi hs)]
 refine oPX lZ (r.K w.params p t true++(NxK w.params (some (k.as "word" "K"))++NxK w.params (some q))) 98 0x420c61400000010010010430030030c31031021c61440c2042001000043002080000080000002040001001 [1,2,3] [3,4] ?_ ?_<;>intros<;>kernel_rfl
theorem Qb{r:Rdr}{p:Int}{t:Tok}{k o z:Tk}  (h:At r p (some (k.as "word" "K")))(h1:At r (p+1) (some o))(hof:wdB (some o) "OF"=true)(h2:At r (p+1+1) (some z))(hw2:kdB (some z) "word"=true)(hr2:∀ c,Ok w b (cRes z.wo false c))(h3:At r (p+1+1+1) none)(ho:wdB none "OF"=false)(hi:wdB none "IN"=false)(hs:sgB none "("=false)(c:Code):Ok w b (Dv (Bk r) 65 w.params r p t (k.as "word" "K") o z none):=by
 let lZ:List (Fm w b):=[pl (λ_=>Dv (Em r) 55 w.params r p t (k.as "word" "K") o z none) (Pc h h1 hof h2 hw2 hr2 h3 ho hi hs)]
 refine oPX lZ (r.K w.params p t true++(NxK w.params (some (k.as "word" "K"))++(NxK w.params (some o)++(NxK w.params (some z)++NxK w.params none)))) 98 0x420c61400000010010010430030030c31031022481c61440c2042001000043002080000080000002040001001 [1,2,3] [3,4] ?_ ?_<;>intros<;>kernel_rfl
theorem Qa{r:Rdr}{p:Int}{t:Tok}{k o z:Tk}{q:Tk}(h:At r p (some (k.as "word" "K")))(h1:At r (p+1) (some o))(hof:wdB (some o) "OF"=true)(h2:At r (p+1+1) (some z))(hw2:kdB (some z) "word"=true)(hr2:∀ c,Ok w b (cRes z.wo false c))(h3:At r (p+1+1+1) (some q))(ho:wdB (some q) "OF"=false)(hi:wdB (some q) "IN"=false)(hs:sgB (some q) "("=false)(c:Code):Ok w b (Dv (Bk r) 65 w.params r p t (k.as "word" "K") o z (some q)):=by
 let lZ:List (Fm w b):=[pl (λ_=>Dv (Em r) 55 w.params r p t (k.as "word" "K") o z (some q)) (Pc h h1 hof h2 hw2 hr2 h3 ho hi hs)]
 refine oPX lZ (r.K w.params p t true++(NxK w.params (some (k.as "word" "K"))++(NxK w.params (some o)++(NxK w.params (some z)++NxK w.params (some q))))) 98 0x420c61400000010010010430030030c31031022ca2481c61440c2042001000043002080000080000002040001001 [1,2,3] [3,4] ?_ ?_<;>intros<;>kernel_rfl
noncomputable def Fj(P:Params)(r:Rdr)(p:Int)(t:Tok)(nx:Option Tk)(bb:Bool)(_:Code):Con:=
 ⟨.call (.ref 279) ⟨[.ref r.rd],[]⟩,Au (r.K P p t false++NxK P nx),[],0,λ_ _=>[],0,λ_ _=>.ok (.ret (.bool bb)),40⟩
noncomputable def cWid(ov:Value)(a:Addr)(L:List AO)(_:Code):Con:=
 ⟨.call (.ref 293) ⟨[ov,.ref a],[]⟩,L,[],0,λ_ _=>[],0,λ_ _=>.ok (.ret (.bool true)),10⟩
noncomputable def entL(L:List AO):List Ent:=L.map λp=>⟨p.1,p.2,false,false⟩

theorem Rk{r:Rdr}{p:Int}{t:Tok}  (h:At r p none)(hb:∀ c,Ok w b (Bb w.params r p t none false c))(c:Code):Ok w b (Fj w.params r p t none false c):=by
 let lZ:List (Fm w b):=[pl (Bb w.params r p t none false) hb]
 refine oP lZ (r.K w.params p t false++NxK w.params none) 29 0xc2042001000001001 [] [] ?_<;>intros<;>kernel_rfl
theorem Bz{r:Rdr}{p:Int}{t:Tok}{q:Tk}(h:At r p (some q))(hb:∀ c,Ok w b (Bb w.params r p t (some q) false c))(c:Code):Ok w b (Fj w.params r p t (some q) false c):=by
 let lZ:List (Fm w b):=[pl (Bb w.params r p t (some q) false) hb]
 refine oP lZ (r.K w.params p t false++NxK w.params (some q)) 29 0x1440c2042001000001001 [] [] ?_<;>intros<;>kernel_rfl
theorem Ii{r:Rdr}{p:Int}{t:Tok}{q:Tk}(h:At r p (some q))(hb:∀ c,Ok w b (Bb w.params r p t (some q) true c))(ha:wdB (some q) "ALL"=false)(c:Code):Ok w b (Fj w.params r p t (some q) true c):=by
 let lZ:List (Fm w b):=[pl (Bb w.params r p t (some q) true) hb,pl (Po w.params r p t (some q) "ALL" false) (Wz h ha)]
 refine oP lZ (r.K w.params p t false++NxK w.params (some q)) 40 g16N [] [] ?_<;>intros<;>kernel_rfl
theorem Vb{r:Rdr}{p:Int}{t:Tok}{q:Tk}(h:At r p (some q))(hb:∀ c,Ok w b (Bb w.params r p t (some q) true c))(ha:wdB (some q) "ALL"=true)(c:Code):Ok w b (Fj w.params r p t (some q) false c):=by
 let lZ:List (Fm w b):=[pl (Bb w.params r p t (some q) true) hb,pl (Po w.params r p t (some q) "ALL" true) (Wz h ha)]
 refine oP lZ (r.K w.params p t false++NxK w.params (some q)) 40 g16N [] [] ?_<;>intros<;>kernel_rfl
theorem wid_aa{a d:Addr}{t1 u1 t2 u2:Tok}(c:Code):Ok w b (cWid (.ref d) a [(a,tupO [.str "text" t1,.bytes #[98] u1]),(d,tupO [.str "text" t2,.bytes #[97] u2])] c):=by
 let lZ:List (Fm w b):=[]
 refine oPX lZ (entL [(a,tupO [.str "text" t1,.bytes #[98] u1]),(d,tupO [.str "text" t2,.bytes #[97] u2])]) 142 g17N [] [] ?_ ?_<;>intros<;>kernel_rfl
theorem Acr{a d:Addr}{t1 u1 t2 u2:Tok}(c:Code):Ok w b (cWid (.ref d) a [(a,tupO [.str "text" t1,.bytes #[66,89] u1]),(d,tupO [.str "text" t2,.bytes #[97,98] u2])] c):=by
 let lZ:List (Fm w b):=[]
 refine oPX lZ (entL [(a,tupO [.str "text" t1,.bytes #[66,89] u1]),(d,tupO [.str "text" t2,.bytes #[97,98] u2])]) 142 g17N [] [] ?_ ?_<;>intros<;>kernel_rfl
theorem wid_ba{a d:Addr}{t1 u1 t2 u2:Tok}(c:Code):Ok w b (cWid (.ref d) a [(a,tupO [.str "text" t1,.bytes #[97] u1]),(d,tupO [.str "text" t2,.bytes #[98] u2])] c):=by
 let lZ:List (Fm w b):=[]
 refine oPX lZ (entL [(a,tupO [.str "text" t1,.bytes #[97] u1]),(d,tupO [.str "text" t2,.bytes #[98] u2])]) 142 g17N [] [] ?_ ?_<;>intros<;>kernel_rfl
theorem Afj{a:Addr}{d:Addr}{s:Str}{t2:Tok}{t1:Tok}(c:Code):Ok w b (cWid (.ref d) a [(a,tupO [.str "figure" t1,.str s t2])] c):=by
 let lZ:List (Fm w b):=[]
 refine oPX lZ (entL [(a,tupO [.str "figure" t1,.str s t2])]) 43 g18N [] [] ?_ ?_<;>intros<;>kernel_rfl
theorem Tw{a:Addr}{s:Str}{t1 t2:Tok}(c:Code):Ok w b (cWid .none a [(a,tupO [.str "figure" t1,.str s t2])] c):=by
 let lZ:List (Fm w b):=[]
 refine oPX lZ (entL [(a,tupO [.str "figure" t1,.str s t2])]) 43 g18N [] [] ?_ ?_<;>intros<;>kernel_rfl
theorem Tu{a:Addr}{t1 u1:Tok}{x:UInt8}(c:Code):Ok w b (cWid .none a [(a,tupO [.str "text" t1,.bytes #[x] u1])] c):=by
 let lZ:List (Fm w b):=[]
 refine oPX lZ (entL [(a,tupO [.str "text" t1,.bytes #[x] u1])]) 81 0x1000000080080082081000040002002002082040001001001 [] [] ?_ ?_<;>intros<;>kernel_rfl
theorem Xd{a d e f:Addr}{t1 u1 t2 t3:Tok}{s:Str}(c:Code):Ok w b (cWid (.ref d) a [(a,tupO [.str "text" t1,.bytes #[120,121,122] u1]),(d,tupO [.str "ref" t2,.str s t3,.ref e,.ref f,.none])] c):=by
 let lZ:List (Fm w b):=[]
 refine oPX lZ (entL [(a,tupO [.str "text" t1,.bytes #[120,121,122] u1]),(d,tupO [.str "ref" t2,.str s t3,.ref e,.ref f,.none])]) 64 0xc00c00c30c1040002002002082040001001001 [] [] ?_ ?_<;>intros<;>kernel_rfl
theorem Acq{a d:Addr}{t1 u1 t2 t3:Tok}{s:Str}(c:Code):Ok w b (cWid (.ref d) a [(a,tupO [.str "text" t1,.bytes #[48] u1]),(d,tupO [.str "figure" t2,.str s t3])] c):=by
 let lZ:List (Fm w b):=[]
 refine oPX lZ (entL [(a,tupO [.str "text" t1,.bytes #[48] u1]),(d,tupO [.str "figure" t2,.str s t3])]) 117 0x30030030c30410000000800800820810000000c00c00c30c1040002002002082040001001001 [] [] ?_ ?_<;>intros<;>kernel_rfl
theorem Afi{a d e f:Addr}{t1 t2:Tok}{s:Str}(c:Code):Ok w b (cWid (.ref d) a [(a,tupO [.str "ref" t1,.str s t2,.ref e,.ref f,.none])] c):=by
 let lZ:List (Fm w b):=[]
 refine oPX lZ (entL [(a,tupO [.str "ref" t1,.str s t2,.ref e,.ref f,.none])]) 43 g18N [] [] ?_ ?_<;>intros<;>kernel_rfl
inductive PyD where
 | none
 | str (s:Str)
 | bytes (b:Array UInt8)
 | tup (l:List PyD)
 | lst (l:List PyD)
mutual
inductive DatV (L:List AO):Value->PyD->Prop where
 | none:DatV L .none .none
 | str {s:Str}{t:Tok}:DatV L (.str s t) (.str s)
 | bytes {b:Array UInt8}{t:Tok}:DatV L (.bytes b t) (.bytes b)
 | tup {a:Addr}{vs:List Value}{l:List PyD}:(a,tupO vs)∈L->Ab L vs l->DatV L (.ref a) (.tup l)
 | lst {a:Addr}{n:Nat}{vs:List Value}{l:List PyD}:(a,Ac vs n)∈L->Ab L vs l->DatV L (.ref a) (.lst l)
inductive Ab (L:List AO):List Value->List PyD->Prop where
 | nil:Ab L [] []
 | cons {v:Value}{d:PyD}{vs:List Value}{l:List PyD}:DatV L v d->Ab L vs l->Ab L (v::vs) (d::l)
end
theorem Ab.ind{L:List AO}{M:List Value->List PyD->Prop}(n:M [] [])(c:∀ {v d vs l},DatV L v d->Ab L vs l->M vs l->M (v::vs) (d::l)){vs:List Value}{l:List PyD}(h:Ab L vs l):M vs l:=
 Ab.rec (motive_1:=λ_ _ _=>True) (motive_2:=λv l _=>M v l) trivial trivial trivial (λ_ _ _=>trivial) (λ_ _ _=>trivial) n (λa b _ d=>c a b d) h
theorem DatV.mono{L L':List AO}(hs:∀ p∈L,p∈L'){v:Value}{d:PyD}(h:DatV L v d):DatV L' v d:=
 DatV.rec (motive_1:=λv d _=>DatV L' v d) (motive_2:=λv d _=>Ab L' v d) .none .str .bytes (λm _=>.tup (hs _ m)) (λm _=>.lst (hs _ m)) .nil (λ_ _=>.cons) h
theorem Ab.mono{L L':List AO}(hs:∀ p∈L,p∈L'){vs:List Value}{l:List PyD}(h:Ab L vs l):Ab L' vs l:=h.ind .nil λa _ b=>.cons (a.mono hs) b
inductive Op where
 | lit (bs:Array UInt8)
 | fig (s:Str)
 | ref (k:Str)
 | refOf (k z:Str)
noncomputable def Op.dat:Op->PyD
 | .lit bs=>.tup [.str "text",.bytes bs]
 | .fig s=>.tup [.str "figure",.str s]
 | .ref k=>.tup [.str "ref",.str k,.tup [],.tup [],.none]
 | .refOf k z=>.tup [.str "ref",.str k,.tup [.str z],.tup [],.none]
theorem Ep{w:World}{st:Nat->Option Obj}{x:Con}(y:Con)(also:AL)(f:(Nat->Addr)->Nat->Addr)(g:(Nat->Tok)->Nat->Tok)
  (hx:x.Valid w st)(hc:y.code=x.code)(hp:y.pre=x.pre)(hd:x.deep<=y.deep)(hpost:∀ nw tk,y.post nw tk=[])
  (hu:y.upd.map (·.1)=x.upd.map (·.1))(hu2:∀ tk,Ce y.upd (cut y.nt (g tk))=Ce x.upd tk)(hr:∀ nw tk,y.res (cut y.n (f nw)) (cut y.nt (g tk))=x.res nw tk)
  (ha:∀ nw tk,also (cut y.n (f nw)) (cut y.nt (g tk)) (x.post nw tk)):Ad w st y tT also:=by
 intro A s R X hn hdep hst hpre hnod _ _ _ _ hR
 rw [hc]
 rw [hp] at hpre hnod
 refine hx A s R hn (hdep.le hd) hst hpre hnod λnw tks h' t' a1 a2 a3 a4 a5=>?_
 have z:=hR (f (cut x.n nw)) (g (cut x.nt tks)) h' t' (x.post (cut x.n nw) (cut x.nt tks)) a1 (λb o hb hne=>a2 b o hb λp hp=>?_) (λp hp=>?_) (by rw [hpost];exact a4) (by rw [hpost];exact a5) (ha _ _)
 ·rw [hr] at z;exact z
 ·have:p.1∈y.upd.map (·.1):=by rw [hu];exact List.mem_map_of_mem hp
  obtain ⟨p',hp',e⟩:=mmp this
  rw [←e];exact hne p' hp'
 ·rw [hu2] at hp;exact a3 p hp
noncomputable def Bv(B:List AO)(X:List AO):Prop:=(∀ p∈B,p∈X)/\(B.map (·.1)).Nodup
theorem Dz{w:World}{st:Nat->Option Obj}{x:Con}{also:AL}(A B:List AO)(hx:Ad w st x tT also)(hp:x.pre=A++B) :
  Ad w st { x with pre:=A } (Bv B) also:=by
 intro Ar s R X hn hdep hst hpre hnod hX hXn hap hnd hR
 obtain ⟨hB,hBn⟩:=hnd
 refine hx Ar s R [] hn hdep hst (λp hpm=>?_) ?_ (λ_ h=>nomatch h) List.nodup_nil (λ_ _ _ h=>nomatch h) trivial hR
 ·rw [hp] at hpm
  rcases List.mem_append.mp hpm with h|h
  ·exact hpre p h
  ·exact hX p (hB p h)
 ·rw [hp,List.map_append,List.nodup_append]
  refine ⟨hnod,hBn,λa ha c hc z=>?_⟩
  obtain ⟨p,hpm,rfl⟩:=mmp ha
  obtain ⟨q,hq,rfl⟩:=mmp hc
  exact hap p hpm q (hB q hq) z
theorem Er{w:World}{st:Nat->Option Obj}{x:Con}(hx:x.Valid w st):Ad w st x tT nL:=by
 intro A s R X hn hdep hst hpre hnod _ _ _ _ hR
 refine hx A s R hn hdep hst hpre hnod λnw tks h' t' a1 a2 a3 a4 a5=>hR nw tks h' t' [] a1 a2 a3 (by rw [List.append_nil];exact a4) (by rw [List.append_nil];exact a5) rfl
noncomputable def Tf(P:Params)(r:Rdr)(p p':Int)(t:Tok):Con:=
 ⟨Bk r,Au (r.K P p t true),[(r.d,λtk=>r.dict P p' (tk 0))],1,λ_ _=>[],1,λnw _=>.ok (.ret (.ref (nw 0))),65⟩
noncomputable abbrev Ael(w:World)(b:B3)(r:Rdr)(p p':Int)(t:Tok)(B:List AO)(d:PyD):Prop:=
 OkF w b (Tf w.params r p p' t) (Bv B) (λnw _ L=>DatV L (.ref (nw 0)) d)
section
variable {w:World}{b:B3}{r:Rdr}{p:Int}{t:Tok}
theorem Zo{k:Tk}{bs:Array UInt8}(h:At r p (some k))(hp:sgB (some k) "+"=false)(hm:sgB (some k) "-"=false)(hn:kdB (some k) "number"=false)(hl:kdB (some k) "literal"=true)(ho:∀ c,Ok w b (cOct k.wo bs c)) :
  Ael w b r p (p+1) t (Au (NxK w.params (some k))) (Op.lit bs).dat:=
 Dz (x:={ Tf w.params r p (p+1) t with pre:=Au (r.K w.params p t true++NxK w.params (some k)) }) _ _
  (Ep _ _ (λnw _=>nw 0) (λtk _=>tk 2) (Zf h hp hm hn hl ho (Bk r)) rfl rfl (Nat.le_refl _) (λ_ _=>rfl) rfl (λ_=>rfl) (λ_ _=>rfl) λnw tk=>.tup (.head _) (.cons .str (.cons .bytes .nil))) (by simp [Au])
theorem Zn{k:Tk}{nx:Option Tk}(h:At r p (some (k.as "word" "K")))(h1:At r (p+1) nx)(ho:wdB nx "OF"=false)(hi:wdB nx "IN"=false)(hs:sgB nx "("=false) :
  Ael w b r p (p+1) t (Au (NxK w.params (some (k.as "word" "K"))++NxK w.params nx)) (Op.ref "K").dat:=by
 have hx:Ok w b (Ki (Bk r) 65 w.params r p t (k.as "word" "K") nx):=by
  cases nx with
  | none=>exact Ty h h1 ho hi hs (Bk r)
  | some q=>exact Tx h h1 ho hi hs (Bk r)
 exact Dz (x:={ Tf w.params r p (p+1) t with pre:=Au (r.K w.params p t true++(NxK w.params (some (k.as "word" "K"))++NxK w.params nx)) }) _ _
  (Ep _ _ (λnw _=>nw 0) (λtk _=>tk 1) hx rfl rfl (Nat.le_refl _) (λ_ _=>rfl) rfl (λ_=>rfl) (λ_ _=>rfl) λnw tk=>.tup (.head _) (.cons .str (.cons .str (.cons (.tup (.tail _ (.head _)) .nil) (.cons (.tup (.tail _ (.tail _ (.head _))) .nil) (.cons .none .nil)))))) (by simp [Au])
theorem Ua{k o z:Tk}{nx:Option Tk}(h:At r p (some (k.as "word" "K")))(h1:At r (p+1) (some o))(hof:wdB (some o) "OF"=true)(h2:At r (p+1+1) (some z))(hw2:kdB (some z) "word"=true)(hr2:∀ c,Ok w b (cRes z.wo false c))(h3:At r (p+1+1+1) nx)(ho:wdB nx "OF"=false)(hi:wdB nx "IN"=false)(hs:sgB nx "("=false) :
  Ael w b r p (p+1+1+1) t (Au (NxK w.params (some (k.as "word" "K"))++(NxK w.params (some o)++(NxK w.params (some z)++NxK w.params nx)))) (Op.refOf "K" z.wo).dat:=by
 have hx:Ok w b (Dv (Bk r) 65 w.params r p t (k.as "word" "K") o z nx):=by
  cases nx with
  | none=>exact Qb h h1 hof h2 hw2 hr2 h3 ho hi hs (Bk r)
  | some q=>exact Qa h h1 hof h2 hw2 hr2 h3 ho hi hs (Bk r)
 exact Dz (x:={ Tf w.params r p (p+1+1+1) t with pre:=Au (r.K w.params p t true++(NxK w.params (some (k.as "word" "K"))++(NxK w.params (some o)++(NxK w.params (some z)++NxK w.params nx)))) }) _ _
  (Ep _ _ (λnw _=>nw 0) (λtk _=>tk 1) hx rfl rfl (Nat.le_refl _) (λ_ _=>rfl) rfl (λ_=>rfl) (λ_ _=>rfl) λnw tk=>.tup (.head _) (.cons .str (.cons .str (.cons (.tup (.tail _ (.head _)) (.cons .str .nil)) (.cons (.tup (.tail _ (.tail _ (.head _))) .nil) (.cons .none .nil)))))) (by simp [Au])
end
theorem Ap{w:World}{st:Nat->Option Obj}{x:Con}{need0:List AO->Prop}{also0:AL}(hx:Ad w st x need0 also0)
  (y:Con)(need:List AO->Prop)(also:AL)(f:(Nat->Addr)->(Nat->Tok)->Nat->Addr)(g:(Nat->Addr)->(Nat->Tok)->Nat->Tok)(rest:(Nat->Addr)->(Nat->Tok)->List AO)
  (hc:y.code=x.code)(hp:y.pre=x.pre)(hd:x.deep<=y.deep)(hpost:∀ nw tk,y.post (cut y.n (f nw tk)) (cut y.nt (g nw tk))++rest nw tk=x.post nw tk)
  (hu:∀ p∈x.upd,p.1∈y.upd.map (·.1))(hu2:∀ nw tk,∀ p∈Ce y.upd (cut y.nt (g nw tk)),p∈Ce x.upd tk\/(p∈x.pre/\∀ q∈x.upd,q.1≠p.1))
  (hr:∀ nw tk,y.res (cut y.n (f nw tk)) (cut y.nt (g nw tk))=x.res nw tk)(hn:∀ X,need X->need0 X)
  (ha:∀ nw tk L,also0 nw tk L->also (cut y.n (f nw tk)) (cut y.nt (g nw tk)) (rest nw tk++L)):Ad w st y need also:=by
 intro A s R X hA hdep hst hpre hnod hX hXn hap hnd hR
 rw [hc]
 rw [hp] at hpre hnod hap
 refine hx A s R X hA (hdep.le hd) hst hpre hnod hX hXn hap (hn X hnd) λnw tks h' t' L a1 a2 a3 a4 a5 a6=>?_
 have z:=hR (f (cut x.n nw) (cut x.nt tks)) (g (cut x.n nw) (cut x.nt tks)) h' t' (rest (cut x.n nw) (cut x.nt tks)++L) a1 (λb o hb hne=>a2 b o hb λp hp=>?_) (λp hp=>?_) (by rw [←List.append_assoc,hpost];exact a4) (by rw [←List.append_assoc,hpost];exact a5) (ha _ _ _ a6)
 ·rw [hr] at z;exact z
 ·obtain ⟨p',hp',e⟩:=mmp (hu p hp)
  rw [←e];exact hne p' hp'
 ·rcases hu2 _ _ p hp with h1|⟨h1,h2⟩
  ·exact a3 p h1
  ·exact a2 _ _ (hpre p h1).1 h2
theorem Sx{w:World}{st:Nat->Option Obj}{x:Con}{need0:List AO->Prop}{also0:AL}(hx:Ad w st x need0 also0)
  (y:Con)(need:List AO->Prop)(also:AL)(f:(Nat->Addr)->(Nat->Tok)->Nat->Addr)(g:(Nat->Addr)->(Nat->Tok)->Nat->Tok)
  (hc:y.code=x.code)(hp:y.pre=x.pre)(hd:x.deep<=y.deep)(hpost:∀ nw tk,y.post nw tk=[])
  (hu:∀ p∈x.upd,p.1∈y.upd.map (·.1))(hu2:∀ nw tk,∀ p∈Ce y.upd (cut y.nt (g nw tk)),p∈Ce x.upd tk\/(p∈x.pre/\∀ q∈x.upd,q.1≠p.1))
  (hr:∀ nw tk,y.res (cut y.n (f nw tk)) (cut y.nt (g nw tk))=x.res nw tk)(hn:∀ X,need X->need0 X)
  (ha:∀ nw tk L,also0 nw tk L->also (cut y.n (f nw tk)) (cut y.nt (g nw tk)) (x.post nw tk++L)):Ad w st y need also:=
 Ap hx y need also f g x.post hc hp hd (λnw tk=>by rw [hpost];rfl) hu hu2 hr hn ha
noncomputable def vOf:Nat->Value
 | 0=>.none
 | n+1=>.ref n
noncomputable def vB(g:Bool)(n:Nat):Value:=match g with
 | true=>.ref n
 | false=>.none
noncomputable def unp:Nat->Nat × Nat
 | 0=>(0,0)
 | n+1=>match unp n with
  | (0,b)=>(b+1,0)
  | (a+1,b)=>(a,b+1)
theorem Vj(b:Nat):∀ a n,unp n=(a+b,0)->unp (n+b)=(a,b):=by
 induction b with
 | zero=>intro a n h;exact h
 | succ b ih=>
  intro a n h
  have h1:unp (n+b)=(a+1,b):=ih (a+1) n (by rw [h];congr 1;omega)
  show (match unp (n+b) with
   | (0,b)=>(b+1,0)
   | (a+1,b)=>(a,b+1))=_
  rw [h1]
theorem Ru:∀ s,∃ n,unp n=(s,0)
 | 0=>⟨0,rfl⟩
 | s+1=>by
  obtain ⟨n,h⟩:=Ru s
  have h1:=Vj s 0 n (by rw [h];congr 1;omega)
  refine ⟨n+s+1,?_⟩
  show (match unp (n+s) with
   | (0,b)=>(b+1,0)
   | (a+1,b)=>(a,b+1))=_
  rw [h1]
theorem Vi(a b:Nat):∃ n,unp n=(a,b):=by
 obtain ⟨n,h⟩:=Ru (a+b)
 exact ⟨n+b,Vj b a n h⟩
noncomputable def decF:Nat->Nat->List Nat
 | 0,_=>[]
 | f+1,n=>(unp n).1::decF f (unp n).2
theorem Tc:∀ l:List Nat,∃ f n,decF f n=l
 | []=>⟨0,0,rfl⟩
 | a::r=>by
  obtain ⟨f,m,h⟩:=Tc r
  obtain ⟨n,hn⟩:=Vi a m
  exact ⟨f+1,n,by show (unp n).1::decF f (unp n).2=_;rw [hn,h]⟩
noncomputable def decG(n:Nat):List Nat:=decF (unp n).1 (unp n).2
theorem Tb(l:List Nat):∃ n,decG n=l:=by
 obtain ⟨f,m,h⟩:=Tc l
 obtain ⟨n,hn⟩:=Vi f m
 exact ⟨n,by unfold decG;rw [hn,h]⟩
noncomputable def refs(c:Nat):List Value:=match Nat.blt c 10000000 with
 | true=>[vOf (c+1)]
 | false=>(decG (c - 10000000)).map vOf
noncomputable def Fw(l:List Addr):List Value:=l.map .ref
theorem Ia(l:List Nat):∃ c,refs c=l.map vOf:=by
 obtain ⟨n,h⟩:=Tb l
 refine ⟨10000000+n,?_⟩
 unfold refs
 have:Nat.blt (10000000+n) 10000000=false:=by
  rw [←Bool.not_eq_true];intro h;have:=Nat.le_of_ble_eq_true h;omega
 rw [this]
 show (decG (10000000+n - 10000000)).map vOf=_
 rw [Nat.add_sub_cancel_left,h]
theorem Ue(c:Nat):∃ l:List Nat,refs c=l.map vOf:=by
 unfold refs
 split
 ·exact ⟨[c+1],rfl⟩
 ·exact ⟨_,rfl⟩
theorem Dm(l:List Addr):∃ c,refs c=Fw l:=by
 obtain ⟨c,h⟩:=Ia (l.map (·+1))
 exact ⟨c,by rw [h,List.map_map];rfl⟩
theorem Ad8(c:Nat)(l:List Addr):∃ c',refs c'=refs c++Fw l:=by
 obtain ⟨k,hk⟩:=Ue c
 obtain ⟨c',h⟩:=Ia (k++l.map (·+1))
 exact ⟨c',by rw [h,hk,List.map_append,List.map_map];rfl⟩
theorem Aa3(c d:Nat):∃ c',refs c'=refs c++refs d:=by
 obtain ⟨k,hk⟩:=Ue c
 obtain ⟨l,hl⟩:=Ue d
 obtain ⟨c',h⟩:=Ia (k++l)
 exact ⟨c',by rw [h,hk,hl,List.map_append]⟩
theorem Vu:∃ c,refs c=[]:=by
 obtain ⟨c,h⟩:=Ia []
 exact ⟨c,h⟩
theorem Bv.sub{B B' X:List AO}(h:Bv B X)(s:B'.Sublist B):Bv B' X:=⟨λp hp=>h.1 p (s.subset hp),h.2.sublist (s.map _)⟩
theorem Bv.more{B X L:List AO}(h:Bv B X):Bv B (X++L):=⟨λp hp=>mai ((h.1 p hp)),h.2⟩
theorem DatV.left{X L:List AO}{v:Value}{d:PyD}(h:DatV X v d):DatV (X++L) v d:=h.mono λ_ hp=>mai (hp)
theorem DatV.right{X L:List AO}{v:Value}{d:PyD}(h:DatV L v d):DatV (X++L) v d:=h.mono λ_ hp=>maj (hp)
theorem DatV.cons{L:List AO}{q:AO}{v:Value}{d:PyD}(h:DatV L v d):DatV (q::L) v d:=h.mono λ_ hp=>.tail _ hp
theorem Ab.left{X L:List AO}{v:List Value}{d:List PyD}(h:Ab X v d):Ab (X++L) v d:=h.mono λ_ hp=>mai (hp)
theorem Ab.right{X L:List AO}{v:List Value}{d:List PyD}(h:Ab L v d):Ab (X++L) v d:=h.mono λ_ hp=>maj (hp)
noncomputable def RdP(r:Rdr)(p:Int)(ks:List Tk):Prop:=0<=p/\r.vs.length < 2 ^ 62/\r.vs.drop p.toNat=ks.map (λk=>.ref k.a)
noncomputable def Do(P:Params):List Tk->List AO
 | []=>[]
 | k::ks=>Au (k.K P)++Do P ks
theorem RdP.at{r:Rdr}{p:Int}{ks:List Tk}(h:RdP r p ks):At r p ks.head?:=by
 obtain ⟨h0,hl,h⟩:=h
 refine ⟨h0,hl,?_⟩
 cases ks with
 | nil=>
  have h:r.vs.drop p.toNat=[]:=h
  have:=List.drop_eq_nil_iff.mp h
  show (r.vs.length:Int)<=p
  omega
 | cons k ks=>
  show r.vs[p.toNat]?=some (.ref k.a)
  have:(r.vs.drop p.toNat)[0]?=some (.ref k.a):=by rw [h];rfl
  rwa [List.getElem?_drop,Nat.add_zero] at this
theorem RdP.tail{r:Rdr}{p:Int}{k:Tk}{ks:List Tk}(h:RdP r p (k::ks)):RdP r (p+1) ks:=by
 obtain ⟨h0,hl,h⟩:=h
 refine ⟨by omega,hl,?_⟩
 have e:(p+1).toNat=p.toNat+1:=by omega
 rw [e,←List.drop_drop,h]
 rfl
theorem Bd{P:Params}{k:Tk}{ks:List Tk}:(Do P ks).Sublist (Do P (k::ks)):=List.sublist_append_right _ _
theorem Kr{P:Params}{ks:List Tk}:(Au (NxK P ks.head?)).Sublist (Do P ks):=by
 cases ks with
 | nil=>exact .slnil
 | cons k ks=>exact List.sublist_append_left _ _
theorem Sm{P:Params}:∀ {ks ls:List Tk},Do P (ks++ls)=Do P ks++Do P ls
 | [],_=>rfl
 | k::ks,ls=>by
  show Au (k.K P)++Do P (ks++ls)=(Au (k.K P)++Do P ks)++Do P ls
  rw [Sm,List.append_assoc]
theorem Bh{P:Params}{ks ls:List Tk}:(Do P ls).Sublist (Do P (ks++ls)):=by rw [Sm];exact List.sublist_append_right _ _
theorem RdP.app{r:Rdr}{p:Int}{ks ls:List Tk}(h:RdP r p (ks++ls)):RdP r (p+(ks.length:Int)) ls:=by
 obtain ⟨h0,hl,h⟩:=h
 refine ⟨by omega,hl,?_⟩
 have e:(p+(ks.length:Int)).toNat=p.toNat+ks.length:=by omega
 rw [e,←List.drop_drop,h,List.map_append,List.drop_append_of_le_length (by simp)]
 simp
theorem Dr{nx:Option Tk}{x y:Str}(h:wdB nx x=true)(hn:sEqB x y=false):wdB nx y=false:=by
 cases nx with
 | none=>rfl
 | some k=>
  unfold wdB at h ⊢
  simp only [Bool.and_eq_true] at h
  have h2:k.wo.cps.toList=x.cps.toList:=beq_iff_eq.mp h.2
  have h3:sEqB k.wo y=false:=by unfold sEqB at hn ⊢;rw [h2];exact hn
  show (sEqB k.kd "word" && sEqB k.wo y)=false
  rw [h3,Bool.and_false]
theorem cS{F nd al:List AO->Prop}{E:List Ev}{X N:List AO}(h1:nd X)(h2:∀ L,al L->Ch F E (X++L) (N++L)):Ch F ((nd,al)::E) X N:=⟨h1,h2⟩
theorem cZ{F:List AO->Prop}{X N:List AO}(h:F N):Ch F [] X N:=h
section
variable {w:World}{b:B3}{r:Rdr}{p p':Int}{t:Tok}{k:Tk}{ks:List Tk}
noncomputable abbrev ledK(P:Params)(ks:List Tk):List AO->Prop:=Bv (Do P ks)
theorem Wb{x:Con}{nx:Option Tk}(hx:Ok w b x)(hp:x.pre=Au (r.K w.params p t true++NxK w.params nx))(hk:nx=ks.head?) :
  OkF w b { x with pre:=Au (r.K w.params p t true) } (ledK w.params ks) nL:=by
 subst hk
 have:=Dz (Au (r.K w.params p t true)) (Au (NxK w.params ks.head?)) (Er hx) (by rw [hp];simp [Au])
 intro A s R X h1 h2 h3 h4 h5 h6 h7 h8 h9 h10
 exact this A s R X h1 h2 h3 h4 h5 h6 h7 h8 (h9.sub Kr) h10
noncomputable def Ax(P:Params)(r:Rdr)(p:Int)(t:Tok)(ww:Str)(c:Code):Con:=
 ⟨.call (.ref 392) ⟨[.ref r.rd,.str ww (Aj c 1)],[]⟩,Au (r.K P p t true),[],0,λ_ _=>[],0,λ_ _=>.ok (.ret (.bool false)),25⟩
noncomputable def By(P:Params)(r:Rdr)(p:Int)(t:Tok)(ww:Str)(c:Code):Con:=
 ⟨.call (.ref 392) ⟨[.ref r.rd,.str ww (Aj c 1)],[]⟩,Au (r.K P p t true),[(r.d,λtk=>r.dict P (p+1) (tk 0))],0,λ_ _=>[],1,λ_ _=>.ok (.ret (.bool true)),25⟩
noncomputable def Aby(P:Params)(r:Rdr)(p:Int)(t:Tok)(ww:Str)(c:Code):Con:=
 ⟨.call (.ref 399) ⟨[.ref r.rd,.str ww (Aj c 1)],[]⟩,Au (r.K P p t true),[(r.d,λtk=>r.dict P (p+1) (tk 0))],0,λ_ _=>[],1,λ_ _=>.ok (.ret .none),30⟩
theorem Ba{ww:Str}(hs:∀ c,Ok w b (Bq ww c))(h:RdP r p ks)(he:wdB ks.head? ww=false)(c:Code):OkF w b (Ax w.params r p t ww c) (ledK w.params ks) nL:=
 Wb (Bc hs h.at he c) rfl rfl
theorem Cf{ww:Str}(hs:∀ c,Ok w b (Bq ww c))(h:RdP r p (k::ks))(he:wdB (some k) ww=true)(c:Code):OkF w b (By w.params r p t ww c) (ledK w.params (k::ks)) nL:=
 Wb (Hy hs h.at he c) rfl rfl
theorem Aew{ww:Str}(hs:∀ c,Ok w b (Bq ww c))(h:RdP r p (k::ks))(he:wdB (some k) ww=true)(c:Code):OkF w b (Aby w.params r p t ww c) (ledK w.params (k::ks)) nL:=
 Wb (Aan hs h.at he c) rfl rfl
noncomputable def Va(P:Params)(r:Rdr)(p:Int)(t:Tok)(bb:Bool)(_:Code):Con:=
 ⟨.call (.ref 279) ⟨[.ref r.rd],[]⟩,Au (r.K P p t true),[],0,λ_ _=>[],0,λ_ _=>.ok (.ret (.bool bb)),40⟩
noncomputable def cRF(code:Code)(deep:Nat)(P:Params)(r:Rdr)(p p':Int)(t:Tok):Con:=
 ⟨code,Au (r.K P p t true),[(r.d,λtk=>r.dict P p' (tk 0))],1,λ_ _=>[],1,λnw _=>.ok (.ret (.ref (nw 0))),deep⟩
noncomputable abbrev RF(w:World)(b:B3)(code:Code)(deep:Nat)(r:Rdr)(p p':Int)(t:Tok)(need:List AO->Prop)(d:PyD):Prop:=
 OkF w b (cRF code deep w.params r p p' t) need (λnw _ L=>DatV L (.ref (nw 0)) d)
end
inductive OpTk:List Tk->List Tk->Op->Prop where
 | lit {k:Tk}{ls:List Tk}{bs:Array UInt8}(hp:sgB (some k) "+"=false)(hm:sgB (some k) "-"=false)(hn:kdB (some k) "number"=false)(hl:kdB (some k) "literal"=true)(ho:∀ {w:World}{b:B3} c,Ok w b (cOct k.wo bs c)):OpTk [k] ls (.lit bs)
 | spaces {k:Tk}{ls:List Tk}:OpTk [k.as "word" "SPACES"] ls (.fig "SPACE")
 | zeros {k:Tk}{ls:List Tk}:OpTk [k.as "word" "ZEROS"] ls (.fig "ZERO")
 | ref {k:Tk}{ls:List Tk}(ho:wdB ls.head? "OF"=false)(hi:wdB ls.head? "IN"=false)(hs:sgB ls.head? "("=false):OpTk [k.as "word" "K"] ls (.ref "K")
 | refOf {k o z:Tk}{ls:List Tk}(hof:wdB (some o) "OF"=true)(hw2:kdB (some z) "word"=true)(hr2:∀ {w:World}{b:B3} c,Ok w b (cRes z.wo false c))(ho:wdB ls.head? "OF"=false)(hi:wdB ls.head? "IN"=false)(hs:sgB ls.head? "("=false):OpTk [k.as "word" "K",o,z] ls (.refOf "K" z.wo)
noncomputable def tokV:Value->Tok
 | .str _ t=>t
 | _=>0
theorem Ah5(P:Params):figN Aa P "SPACES"=.str "SPACE" (tokV (figN Aa P "SPACES")):=by kernel_rfl
theorem Ah4(P:Params):figN Aa P "ZEROS"=.str "ZERO" (tokV (figN Aa P "ZEROS")):=by kernel_rfl
section
variable {w:World}{b:B3}{r:Rdr}{p p':Int}{t:Tok}{k:Tk}{ks ls:List Tk}{o:Op}
theorem Js{K K':List Ent}:Au (K++K')=Au K++Au K':=List.map_append
theorem Sp{x:Con}{B:List AO}{also:AL}(h:OkF w b x (Bv B) also)(hs:B.Sublist (Do w.params ks)):OkF w b x (ledK w.params ks) also:=by
 intro A s R X h1 h2 h3 h4 h5 h6 h7 h8 h9 h10
 exact h A s R X h1 h2 h3 h4 h5 h6 h7 h8 (h9.sub hs) h10
theorem Vo{x y:Str}(hx:Ok w b (Mr (Bk r) 65 Aa w.params r p t k x))(hy:∃ u,figN Aa w.params x=.str y u) :
  Ael w b r p (p+1) t (Au (NxK w.params (some k))) (Op.fig y).dat:=by
 obtain ⟨u,hu⟩:=hy
 exact Dz (x:={ Tf w.params r p (p+1) t with pre:=Au (r.K w.params p t true++NxK w.params (some k)) }) _ _
  (Ep _ _ (λnw _=>nw 0) (λtk _=>tk 1) hx rfl rfl (Nat.le_refl _) (λ_ _=>rfl) rfl (λ_=>rfl) (λ_ _=>rfl) λnw tk=>.tup (.head _) (.cons .str (.cons (hu▸.str) .nil))) (by simp [Au])
theorem Jp(h:RdP r p (ks++ls))(ho:OpTk ks ls o):RF w b (Bk r) 65 r p (p+(ks.length:Int)) t (ledK w.params (ks++ls)) o.dat:=by
 cases ho with
 | lit hp hm hn hl ho=>exact Sp (Zo h.at hp hm hn hl ho) (List.sublist_append_left _ _)
 | spaces=>exact Sp (Vo (Zg h.at (Bk r)) ⟨_,Ah5 _⟩) (List.sublist_append_left _ _)
 | zeros=>exact Sp (Vo (Acu h.at (Bk r)) ⟨_,Ah4 _⟩) (List.sublist_append_left _ _)
 | ref ho hi hs=>
  refine Sp (Zn h.at h.tail.at ho hi hs) ?_
  rw [Js]
  exact List.Sublist.append (List.Sublist.refl _) Kr
 | refOf hof hw2 hr2 ho hi hs=>
  have e:p+((3:Nat):Int)=p+1+1+1:=by omega
  refine Eq.mpr (congrArg (λq=>RF w b (Bk r) 65 r p q t _ _) e) ?_
  refine Sp (Ua h.at h.tail.at hof h.tail.tail.at hw2 hr2 h.tail.tail.tail.at ho hi hs) ?_
  rw [Js,Js,Js]
  exact List.Sublist.append (List.Sublist.refl _) (List.Sublist.append (List.Sublist.refl _) (List.Sublist.append (List.Sublist.refl _) Kr))
end
noncomputable abbrev eW(r:Nat)(l:List PyD):Ev:=(λ_=>True,λL=>Ab L (refs r) l)
noncomputable abbrev eN(p:List AO->Prop):Ev:=(p,λL=>L=[])
noncomputable abbrev eL(r:Nat)(l:List PyD)(a:Addr)(bs:Array UInt8):Ev:=(λ_=>True,λL=>Ab L (refs r) l/\DatV L (.ref a) (Op.lit bs).dat)
theorem datA{p:Prop}(h:p:=by (repeat (first|assumption|(refine Ab.right ?_;assumption)|(refine DatV.right ?_;assumption)|refine Ab.left ?_|refine DatV.left ?_))<;>fail):p:=h
noncomputable def Yo(r:Rdr):Code:=.call (.ref 286) ⟨[.ref r.rd],[]⟩
noncomputable def Abv(code:Code)(deep:Nat)(P:Params)(r:Rdr)(p p':Int)(t:Tok)(v1 v2:(Nat->Addr)->Value)(n:Nat):Con:=
 ⟨code,Au (r.K P p t true),[(r.d,λtk=>r.dict P p' (tk 0))],n,λnw _=>[(nw 0,tupO [v1 nw,v2 nw])],1,λnw _=>.ok (.ret (.ref (nw 0))),deep⟩

theorem bnd_{r:Rdr}{p:Int}{t:Tok}{ls:List Tk}(h:RdP r p (ls))(hnb:wdB ls.head? "BEFORE"=false)(hna:wdB ls.head? "AFTER"=false):OkF w b ({ Abv (Yo r) 80 w.params r p p t (λ_=>.none) (λ_=>.none) 1 with upd:=[],nt:=0 }) (ledK w.params (ls)) (λnw _ L=>True):=by
 let lZ:List (Fm w b):=[fl (Ax w.params r p t "BEFORE") (ledK w.params (ls)) nL (Ba Cn h hnb),fl (Ax w.params r p t "AFTER") (ledK w.params (ls)) nL (Ba Ez h hna)]
 refine oFX lZ (r.K w.params p t false) 151 g19N [5] [] (λal tk=>[eN (ledK w.params (ls)),eN (ledK w.params (ls))]) ?_ ?_ (λal tk X hX=>by (repeat (refine cS (by ((repeat (refine Bv.more ?_));refine Bv.sub hX ?_;repeat (first|exact .refl _|refine .trans ?_ Bd|refine .trans ?_ Bh))) (λL hL=>?_)));refine cZ ?_;first|exact True.intro|(refine And.intro ?_ ?_<;>(repeat (first|assumption|(refine DatV.right ?_;assumption)|refine DatV.left ?_)))|(repeat (first|assumption|(refine DatV.right ?_;assumption)|refine DatV.left ?_)))<;>intros<;>kernel_rfl
theorem bnd_B{r:Rdr}{p:Int}{t:Tok}{ls:List Tk}{kB iB:Tk}{ksB:List Tk}{dB:Op}(h:RdP r p (kB::iB::(ksB++(ls))))(hwB:wdB (some kB) "BEFORE"=true)(hiB:wdB (some iB) "INITIAL"=true)(hoB:OpTk ksB (ls) dB)(hna:wdB ls.head? "AFTER"=false):OkF w b (Abv (Yo r) 80 w.params r p (p+1+1+(ksB.length:Int)) t (λnw=>.ref (nw 1)) (λ_=>.none) 2) (ledK w.params (kB::iB::(ksB++(ls)))) (λnw _ L=>DatV L (.ref (nw 1)) dB.dat):=by
 let lZ:List (Fm w b):=[fl (By w.params r p t "BEFORE") (ledK w.params (kB::iB::(ksB++(ls)))) nL (Cf Cn h hwB),⟨λA T c=>.full (By w.params r (p+1) (T 4) "INITIAL" c) (ledK w.params (iB::(ksB++(ls)))) nL,λ_ _ c=>Cf Cs h.tail hiB c⟩,⟨λA T c=>.full (cRF (Bk r) 65 w.params r (p+1+1) (p+1+1+(ksB.length:Int)) (T 6)) (ledK w.params (ksB++(ls))) (λnw _ L=>DatV L (.ref (nw 0)) dB.dat),λ_ _ _=>Jp h.tail.tail hoB⟩,⟨λA T c=>.full (Ax w.params r (p+1+1+(ksB.length:Int)) (T 7) "AFTER" c) (ledK w.params (ls)) nL,λ_ _ c=>Ba Ez h.tail.tail.app hna c⟩]
 refine oFX lZ (r.K w.params p t true) 198 0x71451c61450071800000060000060000061451401051871851001401871850c01c60000001800001800001851871850801c6000000180000180000185140105105040042041001001001081040040040042041001001040040041040001001 [6,5] [7] (λal tk=>[eN (ledK w.params (kB::iB::(ksB++(ls)))),eN (ledK w.params (iB::(ksB++(ls)))),(ledK w.params (ksB++(ls)),λL=>DatV L (.ref (al 5)) dB.dat),eN (ledK w.params (ls))]) ?_ ?_ (λal tk X hX=>by (repeat (refine cS (by ((repeat (refine Bv.more ?_));refine Bv.sub hX ?_;repeat (first|exact .refl _|refine .trans ?_ Bd|refine .trans ?_ Bh))) (λL hL=>?_)));refine cZ ?_;first|exact True.intro|(refine And.intro ?_ ?_<;>(repeat (first|assumption|(refine DatV.right ?_;assumption)|refine DatV.left ?_)))|(repeat (first|assumption|(refine DatV.right ?_;assumption)|refine DatV.left ?_)))<;>intros<;>kernel_rfl
theorem bnd_A{r:Rdr}{p:Int}{t:Tok}{ls:List Tk}{kA:Tk}{ksA:List Tk}{dA:Op}(h:RdP r p (kA::(ksA++(ls))))(hwA:wdB (some kA) "AFTER"=true)(hiA:wdB (ksA++(ls)).head? "INITIAL"=false)(hoA:OpTk ksA (ls) dA)(hnb:wdB ls.head? "BEFORE"=false):OkF w b (Abv (Yo r) 80 w.params r p (p+1+(ksA.length:Int)) t (λ_=>.none) (λnw=>.ref (nw 1)) 2) (ledK w.params (kA::(ksA++(ls)))) (λnw _ L=>DatV L (.ref (nw 1)) dA.dat):=by
 let lZ:List (Fm w b):=[fl (Ax w.params r p t "BEFORE") (ledK w.params (kA::(ksA++(ls)))) nL (Ba Cn h (Dr hwA (by decide))),fl (By w.params r p t "AFTER") (ledK w.params (kA::(ksA++(ls)))) nL (Cf Ez h hwA),⟨λA T c=>.full (Ax w.params r (p+1) (T 5) "INITIAL" c) (ledK w.params (ksA++(ls))) nL,λ_ _ c=>Ba Cs h.tail hiA c⟩,⟨λA T c=>.full (cRF (Bk r) 65 w.params r (p+1) (p+1+(ksA.length:Int)) (T 5)) (ledK w.params (ksA++(ls))) (λnw _ L=>DatV L (.ref (nw 0)) dA.dat),λ_ _ _=>Jp h.tail hoA⟩,⟨λA T c=>.full (Ax w.params r (p+1+(ksA.length:Int)) (T 7) "BEFORE" c) (ledK w.params (ls)) nL,λ_ _ c=>Ba Cn h.tail.app hnb c⟩]
 refine oFX lZ (r.K w.params p t true) 227 0x1c51451c61460071800000060000060000061450041461c61450050071851001c60000001800001800001851871850c01c60000001800001800001851471850801c6000000180000180000185140105105040042041001001001081040040040042041001001040040041040001001 [6,5] [7] (λal tk=>[eN (ledK w.params (kA::(ksA++(ls)))),eN (ledK w.params (kA::(ksA++(ls)))),eN (ledK w.params (ksA++(ls))),(ledK w.params (ksA++(ls)),λL=>DatV L (.ref (al 5)) dA.dat),eN (ledK w.params (ls))]) ?_ ?_ (λal tk X hX=>by (repeat (refine cS (by ((repeat (refine Bv.more ?_));refine Bv.sub hX ?_;repeat (first|exact .refl _|refine .trans ?_ Bd|refine .trans ?_ Bh))) (λL hL=>?_)));refine cZ ?_;first|exact True.intro|(refine And.intro ?_ ?_<;>(repeat (first|assumption|(refine DatV.right ?_;assumption)|refine DatV.left ?_)))|(repeat (first|assumption|(refine DatV.right ?_;assumption)|refine DatV.left ?_)))<;>intros<;>kernel_rfl
theorem bnd_BA{r:Rdr}{p:Int}{t:Tok}{ls:List Tk}{kB iB:Tk}{ksB:List Tk}{dB:Op}{kA:Tk}{ksA:List Tk}{dA:Op}(h:RdP r p (kB::iB::(ksB++(kA::(ksA++(ls))))))(hwB:wdB (some kB) "BEFORE"=true)(hiB:wdB (some iB) "INITIAL"=true)(hoB:OpTk ksB (kA::(ksA++(ls))) dB)(hwA:wdB (some kA) "AFTER"=true)(hiA:wdB (ksA++(ls)).head? "INITIAL"=false)(hoA:OpTk ksA (ls) dA):OkF w b (Abv (Yo r) 80 w.params r p ((p+1+1+(ksB.length:Int))+1+(ksA.length:Int)) t (λnw=>.ref (nw 1)) (λnw=>.ref (nw 2)) 3) (ledK w.params (kB::iB::(ksB++(kA::(ksA++(ls)))))) (λnw _ L=>DatV L (.ref (nw 1)) dB.dat/\DatV L (.ref (nw 2)) dA.dat):=by
 let lZ:List (Fm w b):=[fl (By w.params r p t "BEFORE") (ledK w.params (kB::iB::(ksB++(kA::(ksA++(ls)))))) nL (Cf Cn h hwB),⟨λA T c=>.full (By w.params r (p+1) (T 4) "INITIAL" c) (ledK w.params (iB::(ksB++(kA::(ksA++(ls)))))) nL,λ_ _ c=>Cf Cs h.tail hiB c⟩,⟨λA T c=>.full (cRF (Bk r) 65 w.params r (p+1+1) (p+1+1+(ksB.length:Int)) (T 6)) (ledK w.params (ksB++(kA::(ksA++(ls))))) (λnw _ L=>DatV L (.ref (nw 0)) dB.dat),λ_ _ _=>Jp h.tail.tail hoB⟩,⟨λA T c=>.full (By w.params r (p+1+1+(ksB.length:Int)) (T 7) "AFTER" c) (ledK w.params (kA::(ksA++(ls)))) nL,λ_ _ c=>Cf Ez h.tail.tail.app hwA c⟩,⟨λA T c=>.full (Ax w.params r ((p+1+1+(ksB.length:Int))+1) (T 10) "INITIAL" c) (ledK w.params (ksA++(ls))) nL,λ_ _ c=>Ba Cs h.tail.tail.app.tail hiA c⟩,⟨λA T c=>.full (cRF (Bk r) 65 w.params r ((p+1+1+(ksB.length:Int))+1) ((p+1+1+(ksB.length:Int))+1+(ksA.length:Int)) (T 10)) (ledK w.params (ksA++(ls))) (λnw _ L=>DatV L (.ref (nw 0)) dA.dat),λ_ _ _=>Jp h.tail.tail.app.tail hoA⟩]
 refine oFX lZ (r.K w.params p t true) 249 0x1c51451401051871851c01401c61460071800000060000060000061461c61450071800000060000060000061451401051871851001401871850c01c60000001800001800001851871850801c6000000180000180000185140105105040042041001001001081040040040042041001001040040041040001001 [7,5,6] [12] (λal tk=>[eN (ledK w.params (kB::iB::(ksB++(kA::(ksA++(ls)))))),eN (ledK w.params (iB::(ksB++(kA::(ksA++(ls)))))),(ledK w.params (ksB++(kA::(ksA++(ls)))),λL=>DatV L (.ref (al 5)) dB.dat),eN (ledK w.params (kA::(ksA++(ls)))),eN (ledK w.params (ksA++(ls))),(ledK w.params (ksA++(ls)),λL=>DatV L (.ref (al 6)) dA.dat)]) ?_ ?_ (λal tk X hX=>by (repeat (refine cS (by ((repeat (refine Bv.more ?_));refine Bv.sub hX ?_;repeat (first|exact .refl _|refine .trans ?_ Bd|refine .trans ?_ Bh))) (λL hL=>?_)));refine cZ ?_;first|exact True.intro|(refine And.intro ?_ ?_<;>(repeat (first|assumption|(refine DatV.right ?_;assumption)|refine DatV.left ?_)))|(repeat (first|assumption|(refine DatV.right ?_;assumption)|refine DatV.left ?_)))<;>intros<;>kernel_rfl
theorem bnd_AB{r:Rdr}{p:Int}{t:Tok}{ls:List Tk}{kA:Tk}{ksA:List Tk}{dA:Op}{kB iB:Tk}{ksB:List Tk}{dB:Op}(h:RdP r p (kA::(ksA++(kB::iB::(ksB++(ls))))))(hwA:wdB (some kA) "AFTER"=true)(hiA:wdB (ksA++(kB::iB::(ksB++(ls)))).head? "INITIAL"=false)(hoA:OpTk ksA (kB::iB::(ksB++(ls))) dA)(hwB:wdB (some kB) "BEFORE"=true)(hiB:wdB (some iB) "INITIAL"=true)(hoB:OpTk ksB (ls) dB):OkF w b (Abv (Yo r) 80 w.params r p ((p+1+(ksA.length:Int))+1+1+(ksB.length:Int)) t (λnw=>.ref (nw 2)) (λnw=>.ref (nw 1)) 3) (ledK w.params (kA::(ksA++(kB::iB::(ksB++(ls)))))) (λnw _ L=>DatV L (.ref (nw 1)) dA.dat/\DatV L (.ref (nw 2)) dB.dat):=by
 let lZ:List (Fm w b):=[fl (Ax w.params r p t "BEFORE") (ledK w.params (kA::(ksA++(kB::iB::(ksB++(ls)))))) nL (Ba Cn h (Dr hwA (by decide))),fl (By w.params r p t "AFTER") (ledK w.params (kA::(ksA++(kB::iB::(ksB++(ls)))))) nL (Cf Ez h hwA),⟨λA T c=>.full (Ax w.params r (p+1) (T 5) "INITIAL" c) (ledK w.params (ksA++(kB::iB::(ksB++(ls))))) nL,λ_ _ c=>Ba Cs h.tail hiA c⟩,⟨λA T c=>.full (cRF (Bk r) 65 w.params r (p+1) (p+1+(ksA.length:Int)) (T 5)) (ledK w.params (ksA++(kB::iB::(ksB++(ls))))) (λnw _ L=>DatV L (.ref (nw 0)) dA.dat),λ_ _ _=>Jp h.tail hoA⟩,⟨λA T c=>.full (By w.params r (p+1+(ksA.length:Int)) (T 7) "BEFORE" c) (ledK w.params (kB::iB::(ksB++(ls)))) nL,λ_ _ c=>Cf Cn h.tail.app hwB c⟩,⟨λA T c=>.full (By w.params r ((p+1+(ksA.length:Int))+1) (T 10) "INITIAL" c) (ledK w.params (iB::(ksB++(ls)))) nL,λ_ _ c=>Cf Cs h.tail.app.tail hiB c⟩,⟨λA T c=>.full (cRF (Bk r) 65 w.params r ((p+1+(ksA.length:Int))+1+1) ((p+1+(ksA.length:Int))+1+1+(ksB.length:Int)) (T 12)) (ledK w.params (ksB++(ls))) (λnw _ L=>DatV L (.ref (nw 0)) dB.dat),λ_ _ _=>Jp h.tail.app.tail.tail hoB⟩]
 refine oFX lZ (r.K w.params p t true) 274 0x71451450041461c61480050061c61470071800000060000060000061461c61460071800000060000060000061450041461c61450050071851001c60000001800001800001851871850c01c60000001800001800001851471850801c6000000180000180000185140105105040042041001001001081040040040042041001001040040041040001001 [7,5,6] [13] (λal tk=>[eN (ledK w.params (kA::(ksA++(kB::iB::(ksB++(ls)))))),eN (ledK w.params (kA::(ksA++(kB::iB::(ksB++(ls)))))),eN (ledK w.params (ksA++(kB::iB::(ksB++(ls))))),(ledK w.params (ksA++(kB::iB::(ksB++(ls)))),λL=>DatV L (.ref (al 5)) dA.dat),eN (ledK w.params (kB::iB::(ksB++(ls)))),eN (ledK w.params (iB::(ksB++(ls)))),(ledK w.params (ksB++(ls)),λL=>DatV L (.ref (al 6)) dB.dat)]) ?_ ?_ (λal tk X hX=>by (repeat (refine cS (by ((repeat (refine Bv.more ?_));refine Bv.sub hX ?_;repeat (first|exact .refl _|refine .trans ?_ Bd|refine .trans ?_ Bh))) (λL hL=>?_)));refine cZ ?_;first|exact True.intro|(refine And.intro ?_ ?_<;>(repeat (first|assumption|(refine DatV.right ?_;assumption)|refine DatV.left ?_)))|(repeat (first|assumption|(refine DatV.right ?_;assumption)|refine DatV.left ?_)))<;>intros<;>kernel_rfl
noncomputable def optD:Option Op->PyD
 | none=>.none
 | some o=>o.dat
inductive BdTk:List Tk->List Tk->Option Op->Option Op->Prop where
 | no {ls:List Tk}(hnb:wdB ls.head? "BEFORE"=false)(hna:wdB ls.head? "AFTER"=false):BdTk ls ls none none
 | b {ls:List Tk}{k i:Tk}{ks:List Tk}{d:Op}(hw:wdB (some k) "BEFORE"=true)(hi:wdB (some i) "INITIAL"=true)(ho:OpTk ks ls d)(hna:wdB ls.head? "AFTER"=false):BdTk (k::i::(ks++ls)) ls (some d) none
 | a {ls:List Tk}{k:Tk}{ks:List Tk}{d:Op}(hw:wdB (some k) "AFTER"=true)(hi:wdB (ks++ls).head? "INITIAL"=false)(ho:OpTk ks ls d)(hnb:wdB ls.head? "BEFORE"=false):BdTk (k::(ks++ls)) ls none (some d)
 | ba {ls:List Tk}{k i k':Tk}{ks ks':List Tk}{d d':Op}(hw:wdB (some k) "BEFORE"=true)(hi:wdB (some i) "INITIAL"=true)(ho:OpTk ks (k'::(ks'++ls)) d)(hw':wdB (some k') "AFTER"=true)(hi':wdB (ks'++ls).head? "INITIAL"=false)(ho':OpTk ks' ls d') :
  BdTk (k::i::(ks++(k'::(ks'++ls)))) ls (some d) (some d')
 | ab {ls:List Tk}{k k' i':Tk}{ks ks':List Tk}{d d':Op}(hw:wdB (some k) "AFTER"=true)(hi:wdB (ks++(k'::i'::(ks'++ls))).head? "INITIAL"=false)(ho:OpTk ks (k'::i'::(ks'++ls)) d)(hw':wdB (some k') "BEFORE"=true)(hi':wdB (some i') "INITIAL"=true)(ho':OpTk ks' ls d') :
  BdTk (k::(ks++(k'::i'::(ks'++ls)))) ls (some d') (some d)
noncomputable def far(p:Int)(all ls:List Tk):Int:=p+((all.length:Int) - (ls.length:Int))
noncomputable def Aed(P:Params)(r:Rdr)(p p':Int)(t:Tok)(g1 g2:Bool):Con:=
 ⟨Yo r,Au (r.K P p t true),[(r.d,λtk=>r.dict P p' (tk 0))],1,λnw tk=>[(nw 0,tupO [vB g1 (tk 1),vB g2 (tk 2)])],3,λnw _=>.ok (.ret (.ref (nw 0))),80⟩
noncomputable abbrev BndV(w:World)(b:B3)(r:Rdr)(p p':Int)(t:Tok)(need:List AO->Prop)(o1 o2:Option Op):Prop:=
 OkF w b (Aed w.params r p p' t o1.isSome o2.isSome) need (λ_ tk L=>DatV L (vB o1.isSome (tk 1)) (optD o1)/\DatV L (vB o2.isSome (tk 2)) (optD o2))
section
variable {w:World}{b:B3}{r:Rdr}{p p':Int}{t:Tok}{all ls:List Tk}{o1 o2:Option Op}
noncomputable def Uf(a b c:Tok):Nat->Tok
 | 0=>a
 | 1=>b
 | _=>c
theorem bnd_V(h:RdP r p all)(hb:BdTk all ls o1 o2):BndV w b r p (far p all ls) t (ledK w.params all) o1 o2:=by
 cases hb with
 | no hnb hna=>
  have e:∀ l,far p l l=p:=λl=>by unfold far;omega
  rw [e]
  refine Ap (bnd_ h hnb hna) _ _ _ (λnw _=>nw) (λ_ tk=>Uf t 0 0) (λ_ _=>[]) rfl rfl (Nat.le_refl _) (λ_ _=>rfl) (λ_ hp=>(nomatch hp)) (λnw tk q hq=>.inr ⟨?_,λ_ hp=>(nomatch hp)⟩) (λ_ _=>rfl) (λ_ h=>h) λnw tk L hL=>⟨.none,.none⟩
  rcases mcm hq with rfl|hq
  ·exact .tail _ (.head _)
  ·cases hq
 | b hw hi ho hna=>
  have e:∀ (k i:Tk)(ks:List Tk),far p (k::i::(ks++ls)) ls=p+1+1+(ks.length:Int):=λk i ks=>by
   unfold far;simp only [List.length_cons,List.length_append];omega
  rw [e]
  exact Ap (bnd_B h hw hi ho hna) _ _ _ (λnw _=>nw) (λnw tk=>Uf (tk 0) (nw 1) 0) (λ_ _=>[]) rfl rfl (Nat.le_refl _) (λ_ _=>rfl) (λp hp=>by rcases mcm hp with rfl|hp<;>first|exact .head _|cases hp) (λnw tk q hq=>.inl (by rcases mcm hq with rfl|hq<;>first|exact .head _|cases hq)) (λ_ _=>rfl) (λ_ h=>h) λnw tk L hL=>⟨hL,.none⟩
 | a hw hi ho hnb=>
  have e:∀ (k:Tk)(ks:List Tk),far p (k::(ks++ls)) ls=p+1+(ks.length:Int):=λk ks=>by
   unfold far;simp only [List.length_cons,List.length_append];omega
  rw [e]
  exact Ap (bnd_A h hw hi ho hnb) _ _ _ (λnw _=>nw) (λnw tk=>Uf (tk 0) 0 (nw 1)) (λ_ _=>[]) rfl rfl (Nat.le_refl _) (λ_ _=>rfl) (λp hp=>by rcases mcm hp with rfl|hp<;>first|exact .head _|cases hp) (λnw tk q hq=>.inl (by rcases mcm hq with rfl|hq<;>first|exact .head _|cases hq)) (λ_ _=>rfl) (λ_ h=>h) λnw tk L hL=>⟨.none,hL⟩
 | ba hw hi ho hw' hi' ho'=>
  have e:∀ (k i k':Tk)(ks ks':List Tk),far p (k::i::(ks++(k'::(ks'++ls)))) ls=p+1+1+(ks.length:Int)+1+(ks'.length:Int):=λk i k' ks ks'=>by
   unfold far;simp only [List.length_cons,List.length_append];omega
  rw [e]
  exact Ap (bnd_BA h hw hi ho hw' hi' ho') _ _ _ (λnw _=>nw) (λnw tk=>Uf (tk 0) (nw 1) (nw 2)) (λ_ _=>[]) rfl rfl (Nat.le_refl _) (λ_ _=>rfl) (λp hp=>by rcases mcm hp with rfl|hp<;>first|exact .head _|cases hp) (λnw tk q hq=>.inl (by rcases mcm hq with rfl|hq<;>first|exact .head _|cases hq)) (λ_ _=>rfl) (λ_ h=>h) λnw tk L hL=>hL
 | ab hw hi ho hw' hi' ho'=>
  have e:∀ (k k' i':Tk)(ks ks':List Tk),far p (k::(ks++(k'::i'::(ks'++ls)))) ls=p+1+(ks.length:Int)+1+1+(ks'.length:Int):=λk k' i' ks ks'=>by
   unfold far;simp only [List.length_cons,List.length_append];omega
  rw [e]
  exact Ap (bnd_AB h hw hi ho hw' hi' ho') _ _ _ (λnw _=>nw) (λnw tk=>Uf (tk 0) (nw 2) (nw 1)) (λ_ _=>[]) rfl rfl (Nat.le_refl _) (λ_ _=>rfl) (λp hp=>by rcases mcm hp with rfl|hp<;>first|exact .head _|cases hp) (λnw tk q hq=>.inl (by rcases mcm hq with rfl|hq<;>first|exact .head _|cases hq)) (λ_ _=>rfl) (λ_ h=>h) λnw tk L hL=>⟨hL.2,hL.1⟩
theorem bnd_W{g1 g2:Bool}(h:RdP r p all)(hb:BdTk all ls o1 o2)(h1:o1.isSome=g1)(h2:o2.isSome=g2):OkF w b (Aed w.params r p (far p all ls) t g1 g2) (ledK w.params all) (λ_ tk L=>DatV L (vB g1 (tk 1)) (optD o1)/\DatV L (vB g2 (tk 2)) (optD o2)):=by
 subst h1 h2
 exact bnd_V h hb
inductive WOk:Option Op->Op->Prop where
 | none_fig {s:Str}:WOk none (.fig s)
 | none_one {x:UInt8}:WOk none (.lit #[x])
 | any_fig {o:Op}{s:Str}:WOk (some o) (.fig s)
 | any_ref {o:Op}{s:Str}:WOk (some o) (.ref s)
 | aa:WOk (some (.lit #[97])) (.lit #[98])
 | ba:WOk (some (.lit #[98])) (.lit #[97])
 | abBY:WOk (some (.lit #[97,98])) (.lit #[66,89])
 | refxyz {s:Str}:WOk (some (.ref s)) (.lit #[120,121,122])
 | fig0 {s:Str}:WOk (some (.fig s)) (.lit #[48])
noncomputable def Ae9(ov:Value)(a:Addr)(_:Code):Con:=
 ⟨.call (.ref 293) ⟨[ov,.ref a],[]⟩,[],[],0,λ_ _=>[],0,λ_ _=>.ok (.ret (.bool true)),10⟩
noncomputable def OpV(X:List AO)(v:Value):Option Op->Prop
 | none=>v=.none
 | some o=>DatV X v o.dat
theorem Afh{a:Addr}{ov:Value}{L:List AO}(h:∀ c,Ok w b (cWid ov a L c))(c:Code):OkF w b (Ae9 ov a c) (Bv L) nL:=
 Dz (x:=cWid ov a L c) [] L (Er (h c)) rfl
theorem led1{X:List AO}{p:AO}(h:p∈X):Bv [p] X:=⟨λq hq=>(by rcases mcm hq with rfl|hq<;>first|exact h|cases hq),by simp⟩
theorem led2{X:List AO}{p q:AO}(h:p∈X)(h':q∈X)(hn:p.1≠q.1):Bv [p,q] X:=⟨λz hz=>(by
 rcases mcm hz with rfl|hz
 ·exact h
 ·rcases mcm hz with rfl|hz
  ·exact h'
  ·cases hz),by simp [hn]⟩
theorem Ad2{X:List AO}{h:Heap}{st:Nat->Option Obj}(hX:∀ p∈X,h.get? p.1=some p.2/\st p.1=none){p q:AO}(h1:p∈X)(h2:q∈X)(e:p.1=q.1):p.2=q.2:=by
 have z1:=(hX p h1).1
 have z2:=(hX q h2).1
 rw [e,z2] at z1
 exact (Option.some.inj z1).symm
theorem DatV.tupI{L:List AO}{v:Value}{l:List PyD}(h:DatV L v (.tup l)):∃ a vs,v=.ref a/\(a,tupO vs)∈L/\Ab L vs l:=by
 cases h with
 | tup hm hs=>exact ⟨_,_,rfl,hm,hs⟩
theorem Ab.consI{L:List AO}{vs:List Value}{d:PyD}{l:List PyD}(h:Ab L vs (d::l)):∃ v r,vs=v::r/\DatV L v d/\Ab L r l:=by
 cases h with
 | cons h r=>exact ⟨_,_,rfl,h,r⟩
theorem Ab.nilI{L:List AO}{vs:List Value}(h:Ab L vs []):vs=[]:=by
 cases h;rfl
theorem DatV.strI{L:List AO}{v:Value}{s:Str}(h:DatV L v (.str s)):∃ t,v=.str s t:=by
 cases h;exact ⟨_,rfl⟩
theorem DatV.bytesI{L:List AO}{v:Value}{s:Array UInt8}(h:DatV L v (.bytes s)):∃ t,v=.bytes s t:=by
 cases h;exact ⟨_,rfl⟩
theorem DatV.noneI{L:List AO}{v:Value}(h:DatV L v .none):v=.none:=by
 cases h;rfl
theorem opI{L:List AO}{v:Value}{o:Op}(h:DatV L v o.dat):∃ d,v=.ref d:=by
 cases o<;>exact (DatV.tupI h).imp λ_ q=>q.choose_spec.1
theorem two_I{L:List AO}{v:Value}{d e:PyD}(h:DatV L v (.tup [d,e])):∃ a x y,v=.ref a/\(a,tupO [x,y])∈L/\DatV L x d/\DatV L y e:=by
 obtain ⟨a,_,e0,hm,hs⟩:=h.tupI
 obtain ⟨x,_,rfl,h1,s1⟩:=hs.consI
 obtain ⟨y,_,rfl,h2,s2⟩:=s1.consI
 cases s2.nilI
 exact ⟨a,x,y,e0,hm,h1,h2⟩
theorem figI{L:List AO}{v:Value}{s:Str}(h:DatV L v (Op.fig s).dat):∃ a t u,v=.ref a/\(a,tupO [.str "figure" t,.str s u])∈L:=by
 obtain ⟨a,x,y,e,hm,h1,h2⟩:=two_I h
 obtain ⟨t,rfl⟩:=h1.strI
 obtain ⟨u,rfl⟩:=h2.strI
 exact ⟨a,t,u,e,hm⟩
theorem litI{L:List AO}{v:Value}{s:Array UInt8}(h:DatV L v (Op.lit s).dat):∃ a t u,v=.ref a/\(a,tupO [.str "text" t,.bytes s u])∈L:=by
 obtain ⟨a,x,y,e,hm,h1,h2⟩:=two_I h
 obtain ⟨t,rfl⟩:=h1.strI
 obtain ⟨u,rfl⟩:=h2.bytesI
 exact ⟨a,t,u,e,hm⟩
theorem refI{L:List AO}{v:Value}{s:Str}(h:DatV L v (Op.ref s).dat):∃ a t u x y,v=.ref a/\(a,tupO [.str "ref" t,.str s u,.ref x,.ref y,.none])∈L:=by
 obtain ⟨a,_,e0,hm,hs⟩:=DatV.tupI h
 obtain ⟨_,_,rfl,h1,s1⟩:=hs.consI
 obtain ⟨_,_,rfl,h2,s2⟩:=s1.consI
 obtain ⟨_,_,rfl,h3,s3⟩:=s2.consI
 obtain ⟨_,_,rfl,h4,s4⟩:=s3.consI
 obtain ⟨_,_,rfl,h5,s5⟩:=s4.consI
 obtain ⟨t,rfl⟩:=h1.strI
 obtain ⟨u,rfl⟩:=h2.strI
 obtain ⟨x,_,rfl,_⟩:=h3.tupI
 obtain ⟨y,_,rfl,_⟩:=h4.tupI
 cases h5.noneI
 cases s5.nilI
 exact ⟨a,t,u,x,y,e0,hm⟩
theorem Gi{a b:Addr}(h:Value.ref a=.ref b):a=b:=by cases h;rfl
theorem wid_L{ov:Value}{a:Addr}{o:Option Op}{o2:Op}{X:List AO}(hX:∀ p∈X,∀ q∈X,p.1=q.1->p.2=q.2)(hw:WOk o o2)(ha:∃ v,v=.ref a/\DatV X v o2.dat)(ho:OpV X ov o) :
  ∃ L,Bv L X/\∀ c,Ok w b (cWid ov a L c):=by
 obtain ⟨v,ev,ha⟩:=ha
 have two:∀ {p q:AO},p∈X->q∈X->p.2≠q.2->Bv [p,q] X:=λh h' hn=>led2 h h' λe=>hn (hX _ h _ h' e)
 cases hw with
 | none_fig=>
  obtain ⟨x,_,_,rfl,hm⟩:=figI ha
  cases Gi ev
  rw [show ov=.none from ho]
  exact ⟨_,led1 hm,λc=>Tw c⟩
 | none_one=>
  obtain ⟨x,_,_,rfl,hm⟩:=litI ha
  cases Gi ev
  rw [show ov=.none from ho]
  exact ⟨_,led1 hm,λc=>Tu c⟩
 | any_fig=>
  obtain ⟨d,rfl⟩:=opI ho
  obtain ⟨x,_,_,rfl,hm⟩:=figI ha
  cases Gi ev
  exact ⟨_,led1 hm,λc=>Afj c⟩
 | any_ref=>
  obtain ⟨d,rfl⟩:=opI ho
  obtain ⟨x,_,_,_,_,rfl,hm⟩:=refI ha
  cases Gi ev
  exact ⟨_,led1 hm,λc=>Afi c⟩
 | refxyz=>
  obtain ⟨x,_,_,rfl,hm⟩:=litI ha
  cases Gi ev
  obtain ⟨d,_,_,_,_,rfl,hm'⟩:=refI ho
  exact ⟨_,two hm hm' (by simp [tupO]),λc=>Xd c⟩
 | fig0=>
  obtain ⟨x,_,_,rfl,hm⟩:=litI ha
  cases Gi ev
  obtain ⟨d,_,_,rfl,hm'⟩:=figI ho
  exact ⟨_,two hm hm' (by simp [tupO]),λc=>Acq c⟩
 | aa=>
  obtain ⟨x,_,_,rfl,hm⟩:=litI ha
  cases Gi ev
  obtain ⟨d,_,_,rfl,hm'⟩:=litI ho
  exact ⟨_,two hm hm' (by simp [tupO]),λc=>wid_aa c⟩
 | ba=>
  obtain ⟨x,_,_,rfl,hm⟩:=litI ha
  cases Gi ev
  obtain ⟨d,_,_,rfl,hm'⟩:=litI ho
  exact ⟨_,two hm hm' (by simp [tupO]),λc=>wid_ba c⟩
 | abBY=>
  obtain ⟨x,_,_,rfl,hm⟩:=litI ha
  cases Gi ev
  obtain ⟨d,_,_,rfl,hm'⟩:=litI ho
  exact ⟨_,two hm hm' (by simp [tupO]),λc=>Acr c⟩
theorem wid_F{ov:Value}{a:Addr}{o:Option Op}{o2:Op}(hw:WOk o o2)(c:Code):OkF w b (Ae9 ov a c) (λX=>DatV X (.ref a) o2.dat/\OpV X ov o) nL:=by
 intro A s R X h1 h2 h3 h4 h5 h6 h7 h8 h9 h10
 obtain ⟨L,hL,hx⟩:=wid_L (w:=w) (b:=b) (λp hp q hq e=>Ad2 h6 hp hq e) hw ⟨_,rfl,h9.1⟩ h9.2
 exact Afh hx c A s R X h1 h2 h3 h4 h5 h6 h7 h8 hL h10
end
noncomputable def coBy(r:Rdr)(ov:Value):Code:=.call (.ref 300) ⟨[.ref r.rd,ov],[]⟩
theorem OpV.left{X L:List AO}{v:Value}:∀ {o:Option Op},OpV X v o->OpV (X++L) v o
 | none,h=>h
 | some _,h=>DatV.left h
theorem OpV.right{X L:List AO}{v:Value}:∀ {o:Option Op},OpV L v o->OpV (X++L) v o
 | none,h=>h
 | some _,h=>DatV.right h

theorem Ahu{r:Rdr}{p:Int}{t:Tok}{ks ls:List Tk}{o:Option Op}{o2:Op}  (h:RdP r p (ks++ls))(ho:OpTk ks ls o2)(hw:WOk o o2):OkF w b (cRF (coBy r .none) 75 w.params r p (p+(ks.length:Int)) t) ((λX=>ledK w.params (ks++ls) X/\OpV X .none o)) (λnw _ L=>DatV L (.ref (nw 0)) o2.dat):=by
 let lZ:List (Fm w b):=[fl (λ_=>cRF (Bk r) 65 w.params r p (p+(ks.length:Int)) t) (ledK w.params (ks++ls)) (λnw _ L=>DatV L (.ref (nw 0)) o2.dat) λ_=>Jp h ho,⟨λ_ _ c=>.full (Ae9 .none (Af c 1) c) (λX=>DatV X (.ref (Af c 1)) o2.dat/\OpV X .none o) nL,λ_ _ c=>wid_F hw c⟩]
 refine oF lZ (r.K w.params p t true) 81 g20N [1] [4] (λal tk=>[(ledK w.params (ks++ls),λL=>DatV L (.ref (al 1)) o2.dat),(λX=>DatV X (.ref (al 1)) o2.dat/\OpV X .none o,λL=>L=[])]) ?_ (λal tk X hX=>cS hX.1 λL hL=>cS ⟨DatV.right hL,hX.2.left⟩ λL2 hL2=>cZ (DatV.left (DatV.right hL)))<;>intros<;>kernel_rfl
theorem by_ref{r:Rdr}{p:Int}{t:Tok}{ks ls:List Tk}{o:Option Op}{o2:Op}{d:Addr}(h:RdP r p (ks++ls))(ho:OpTk ks ls o2)(hw:WOk o o2):OkF w b (cRF (coBy r (.ref d)) 75 w.params r p (p+(ks.length:Int)) t) ((λX=>ledK w.params (ks++ls) X/\OpV X (.ref d) o)) (λnw _ L=>DatV L (.ref (nw 0)) o2.dat):=by
 let lZ:List (Fm w b):=[fl (λ_=>cRF (Bk r) 65 w.params r p (p+(ks.length:Int)) t) (ledK w.params (ks++ls)) (λnw _ L=>DatV L (.ref (nw 0)) o2.dat) λ_=>Jp h ho,⟨λ_ _ c=>.full (Ae9 (.ref d) (Af c 1) c) (λX=>DatV X (.ref (Af c 1)) o2.dat/\OpV X (.ref d) o) nL,λ_ _ c=>wid_F hw c⟩]
 refine oF lZ (r.K w.params p t true) 81 g20N [1] [4] (λal tk=>[(ledK w.params (ks++ls),λL=>DatV L (.ref (al 1)) o2.dat),(λX=>DatV X (.ref (al 1)) o2.dat/\OpV X (.ref d) o,λL=>L=[])]) ?_ (λal tk X hX=>cS hX.1 λL hL=>cS ⟨DatV.right hL,hX.2.left⟩ λL2 hL2=>cZ (DatV.left (DatV.right hL)))<;>intros<;>kernel_rfl
noncomputable def coEx(r:Rdr)(kind:Str)(u:Tok):Code:=.call (.ref 307) ⟨[.ref r.rd,.str kind u],[]⟩
noncomputable def cEx0(code:Code)(P:Params)(r:Rdr)(p p':Int)(t:Tok)(kind:Str)(u:Tok)(ov:(Nat->Addr)->Value)(g1 g2:Bool):Con:=
 ⟨code,Au (r.K P p t true),[(r.d,λtk=>r.dict P p' (tk 0))],3,λnw tk=>[(nw 0,tupO [.str kind u,ov nw,.ref (nw 1),vB g1 (tk 1),vB g2 (tk 2)])],3,λnw _=>.ok (.ret (.ref (nw 0))),90⟩
noncomputable def rowD(kind:Str)(o:Option Op)(by':Op)(o1 o2:Option Op):PyD:=.tup [.str kind,optD o,by'.dat,optD o1,optD o2]

theorem Adz{g1 g2:Bool}{r:Rdr}{p:Int}{t:Tok}{ks bs ls:List Tk}{k:Tk}{o1 o2:Option Op}{ob:Op}{kind:Str}{u:Tok}(hk:sEqB kind "CHARACTERS"=true)(h:RdP r p (k::(ks++bs)))(hby:wdB (some k) "BY"=true)(hks:OpTk ks bs ob)(hw:WOk none ob)(hb:BdTk bs ls o1 o2)(hg1:o1.isSome=g1)(hg2:o2.isSome=g2):OkF w b (cEx0 (coEx r kind u) w.params r p (far (p+1+(ks.length:Int)) bs ls) t kind u (λ_=>.none) g1 g2) (ledK w.params (k::(ks++bs))) (λnw tk L=>DatV L (.ref (nw 1)) ob.dat/\DatV L (vB g1 (tk 1)) (optD o1)/\DatV L (vB g2 (tk 2)) (optD o2)):=by
 refine oFX [pl (cSEq kind "CHARACTERS" true) (Bl hk),fl (Aby w.params r p t "BY") (ledK w.params (k::(ks++bs))) nL (Aew Lv h hby),⟨λA T c=>.full (cRF (coBy r .none) 75 w.params r (p+1) ((p+1)+(ks.length:Int)) (T 5)) (λX=>ledK w.params (ks++bs) X/\OpV X .none none) (λnw _ L=>DatV L (.ref (nw 0)) ob.dat),λ_ _ _=>Ahu h.tail hks hw⟩,⟨λA T c=>.full (Aed w.params r (p+1+(ks.length:Int)) (far (p+1+(ks.length:Int)) bs ls) (T 6) g1 g2) (ledK w.params bs) (λ_ tk L=>DatV L (vB g1 (tk 1)) (optD o1)/\DatV L (vB g2 (tk 2)) (optD o2)),λ_ _ _=>bnd_W h.tail.app hb hg1 hg2⟩] (r.K w.params p t true) 162 0x71451451441441410010810400400400420410010010010810400400410010010410830811400400010830811000410020c2043003080000002000002000002040042040001001001 [6,1] [8,9,10] (λal tk=>[eN (ledK w.params (k::(ks++bs))),(λX=>ledK w.params (ks++bs) X/\OpV X .none none,λL=>DatV L (.ref (al 1)) ob.dat),(ledK w.params bs,λL=>DatV L (vB g1 (tk (8+1))) (optD o1)/\DatV L (vB g2 (tk (8+2))) (optD o2))]) ?_ ?_ (λal tk X hX=>cS (by ((repeat (refine Bv.more ?_));refine Bv.sub hX ?_;repeat (first|exact .refl _|refine .trans ?_ Bd|refine .trans ?_ Bh))) λL hL=>cS ⟨by ((repeat (refine Bv.more ?_));refine Bv.sub hX ?_;repeat (first|exact .refl _|refine .trans ?_ Bd|refine .trans ?_ Bh)),rfl⟩ λL2 hL2=>cS (by ((repeat (refine Bv.more ?_));refine Bv.sub hX ?_;repeat (first|exact .refl _|refine .trans ?_ Bd|refine .trans ?_ Bh))) λL3 hL3=>cZ ⟨DatV.left (DatV.right hL2),DatV.right hL3.1,DatV.right hL3.2⟩)<;>dsimp only [fms,pl,fl]<;>refine gg2 g1 g2 ?_ ?_ ?_ ?_<;>intros<;>kernel_rfl
theorem Ady{g1 g2:Bool}{r:Rdr}{p:Int}{t:Tok}{ks1 ks bs ls:List Tk}{k:Tk}{o1 o2:Option Op}{o ob:Op}{kind:Str}{u:Tok}(hk:sEqB kind "CHARACTERS"=false)(h:RdP r p (ks1++(k::(ks++bs))))(hks1:OpTk ks1 (k::(ks++bs)) o)(hby:wdB (some k) "BY"=true)(hks:OpTk ks bs ob)(hw:WOk (some o) ob)(hb:BdTk bs ls o1 o2)(hg1:o1.isSome=g1)(hg2:o2.isSome=g2):OkF w b (cEx0 (coEx r kind u) w.params r p (far (p+(ks1.length:Int)+1+(ks.length:Int)) bs ls) t kind u (λnw=>.ref (nw 2)) g1 g2) (ledK w.params (ks1++(k::(ks++bs)))) (λnw tk L=>DatV L (.ref (nw 1)) ob.dat/\DatV L (vB g1 (tk 1)) (optD o1)/\DatV L (vB g2 (tk 2)) (optD o2)/\DatV L (.ref (nw 2)) o.dat):=by
 refine oFX [pl (cSEq kind "CHARACTERS" false) (Bl hk),fl (λ_=>cRF (Bk r) 65 w.params r p (p+(ks1.length:Int)) t) (ledK w.params (ks1++(k::(ks++bs)))) (λnw _ L=>DatV L (.ref (nw 0)) o.dat) λ_=>Jp h hks1,⟨λA T c=>.full (Aby w.params r (p+(ks1.length:Int)) (T 3) "BY" c) (ledK w.params (k::(ks++bs))) nL,λ_ _ c=>Aew Lv h.app hby c⟩,⟨λA T c=>.full (cRF (coBy r (.ref (Af c 1))) 75 w.params r (p+(ks1.length:Int)+1) (p+(ks1.length:Int)+1+(ks.length:Int)) (T 6)) (λX=>ledK w.params (ks++bs) X/\OpV X (.ref (Af c 1)) (some o)) (λnw _ L=>DatV L (.ref (nw 0)) ob.dat),λ_ _ _=>by_ref h.app.tail hks hw⟩,⟨λA T c=>.full (Aed w.params r (p+(ks1.length:Int)+1+(ks.length:Int)) (far (p+(ks1.length:Int)+1+(ks.length:Int)) bs ls) (T 7) g1 g2) (ledK w.params bs) (λ_ tk L=>DatV L (vB g1 (tk 1)) (optD o1)/\DatV L (vB g2 (tk 2)) (optD o2)),λ_ _ _=>bnd_W h.app.tail.app hb hg1 hg2⟩] (r.K w.params p t true) 170 0x71451451441441410010810400400400420410010010010810400400410010010410830811800400010830811400410020c20440030800000020000020000020400420c2043001002040001001001 [7,2,1] [9,10,11] (λal tk=>[(ledK w.params (ks1++(k::(ks++bs))),λL=>DatV L (.ref (al 1)) o.dat),eN (ledK w.params (k::(ks++bs))),(λX=>ledK w.params (ks++bs) X/\OpV X (.ref (al 1)) (some o),λL=>DatV L (.ref (al 2)) ob.dat),(ledK w.params bs,λL=>DatV L (vB g1 (tk (9+1))) (optD o1)/\DatV L (vB g2 (tk (9+2))) (optD o2))]) ?_ ?_ (λal tk X hX=>cS (by ((repeat (refine Bv.more ?_));refine Bv.sub hX ?_;repeat (first|exact .refl _|refine .trans ?_ Bd|refine .trans ?_ Bh))) λL hL=>cS (by ((repeat (refine Bv.more ?_));refine Bv.sub hX ?_;repeat (first|exact .refl _|refine .trans ?_ Bd|refine .trans ?_ Bh))) λL1 hL1=>cS ⟨by ((repeat (refine Bv.more ?_));refine Bv.sub hX ?_;repeat (first|exact .refl _|refine .trans ?_ Bd|refine .trans ?_ Bh)),OpV.left (o:=some o) (OpV.right (o:=some o) hL)⟩ λL2 hL2=>cS (by ((repeat (refine Bv.more ?_));refine Bv.sub hX ?_;repeat (first|exact .refl _|refine .trans ?_ Bd|refine .trans ?_ Bh))) λL3 hL3=>cZ ⟨DatV.left (DatV.right hL2),DatV.right hL3.1,DatV.right hL3.2,DatV.left (DatV.left (DatV.left (DatV.right hL)))⟩)<;>dsimp only [fms,pl,fl]<;>refine gg2 g1 g2 ?_ ?_ ?_ ?_<;>intros<;>kernel_rfl
inductive ExTk (kind:Str):List Tk->List Tk->PyD->Prop where
 | ch {ks bs ls:List Tk}{k:Tk}{o1 o2:Option Op}{ob:Op}(hk:sEqB kind "CHARACTERS"=true)(hby:wdB (some k) "BY"=true)(hks:OpTk ks bs ob)(hw:WOk none ob)(hb:BdTk bs ls o1 o2):ExTk kind (k::(ks++bs)) ls (rowD kind none ob o1 o2)
 | op {ks1 ks bs ls:List Tk}{k:Tk}{o1 o2:Option Op}{o ob:Op}(hk:sEqB kind "CHARACTERS"=false)(hks1:OpTk ks1 (k::(ks++bs)) o)(hby:wdB (some k) "BY"=true)(hks:OpTk ks bs ob)(hw:WOk (some o) ob)(hb:BdTk bs ls o1 o2) :
  ExTk kind (ks1++(k::(ks++bs))) ls (rowD kind (some o) ob o1 o2)
section
variable {w:World}{b:B3}{r:Rdr}{p p':Int}{t:Tok}{all ls:List Tk}{kind:Str}{u:Tok}{row:PyD}
theorem Ri{g1 g2:Bool}{ob:Op}{o1 o2:Option Op}{need:List AO->Prop}(h:OkF w b (cEx0 (coEx r kind u) w.params r p p' t kind u (λ_=>.none) g1 g2) need (λnw tk L=>DatV L (.ref (nw 1)) ob.dat/\DatV L (vB g1 (tk 1)) (optD o1)/\DatV L (vB g2 (tk 2)) (optD o2))) :
  RF w b (coEx r kind u) 90 r p p' t need (rowD kind none ob o1 o2):=
 Sx h _ _ _ (λnw _=>nw) (λ_ tk=>tk) rfl rfl (Nat.le_refl _) (λ_ _=>rfl) (λp hp=>by rcases mcm hp with rfl|hp<;>first|exact .head _|cases hp) (λnw tk q hq=>.inl (by rcases mcm hq with rfl|hq<;>first|exact .head _|cases hq)) (λ_ _=>rfl) (λ_ h=>h)
  λnw tk L hL=>.tup (.head _) (.cons .str (.cons .none (.cons hL.1.cons (.cons hL.2.1.cons (.cons hL.2.2.cons .nil)))))
theorem Qo{g1 g2:Bool}{o ob:Op}{o1 o2:Option Op}{need:List AO->Prop}(h:OkF w b (cEx0 (coEx r kind u) w.params r p p' t kind u (λnw=>.ref (nw 2)) g1 g2) need (λnw tk L=>DatV L (.ref (nw 1)) ob.dat/\DatV L (vB g1 (tk 1)) (optD o1)/\DatV L (vB g2 (tk 2)) (optD o2)/\DatV L (.ref (nw 2)) o.dat)) :
  RF w b (coEx r kind u) 90 r p p' t need (rowD kind (some o) ob o1 o2):=
 Sx h _ _ _ (λnw _=>nw) (λ_ tk=>tk) rfl rfl (Nat.le_refl _) (λ_ _=>rfl) (λp hp=>by rcases mcm hp with rfl|hp<;>first|exact .head _|cases hp) (λnw tk q hq=>.inl (by rcases mcm hq with rfl|hq<;>first|exact .head _|cases hq)) (λ_ _=>rfl) (λ_ h=>h)
  λnw tk L hL=>.tup (.head _) (.cons .str (.cons hL.2.2.2.cons (.cons hL.1.cons (.cons hL.2.1.cons (.cons hL.2.2.1.cons .nil)))))
theorem BdTk.len{o1 o2:Option Op}(h:BdTk all ls o1 o2):ls.length<=all.length:=by
 cases h<;>(try simp only [List.length_cons,List.length_append])<;>omega
theorem ExTk.len(h:ExTk kind all ls row):ls.length < all.length:=by
 cases h with
 | ch _ _ _ _ hb=>have:=hb.len;simp only [List.length_cons,List.length_append];omega
 | op _ _ _ _ _ hb=>have:=hb.len;simp only [List.length_cons,List.length_append];omega
theorem ex_F(h:RdP r p all)(he:ExTk kind all ls row):RF w b (coEx r kind u) 90 r p (far p all ls) t (ledK w.params all) row:=by
 cases he with
 | @ch ks bs _ k o1 o2 ob hk hby hks hw hb=>
  have e:far p (k::(ks++bs)) ls=far (p+1+(ks.length:Int)) bs ls:=by
   unfold far;simp only [List.length_cons,List.length_append];omega
  rw [e]
  cases h1:o1.isSome<;>cases h2:o2.isSome
  ·exact Ri (Adz hk h hby hks hw hb h1 h2)
  ·exact Ri (Adz hk h hby hks hw hb h1 h2)
  ·exact Ri (Adz hk h hby hks hw hb h1 h2)
  ·exact Ri (Adz hk h hby hks hw hb h1 h2)
 | @op ks1 ks bs _ k o1 o2 o ob hk hks1 hby hks hw hb=>
  have e:far p (ks1++(k::(ks++bs))) ls=far (p+(ks1.length:Int)+1+(ks.length:Int)) bs ls:=by
   unfold far;simp only [List.length_cons,List.length_append];omega
  rw [e]
  cases h1:o1.isSome<;>cases h2:o2.isSome
  ·exact Qo (Ady hk h hks1 hby hks hw hb h1 h2)
  ·exact Qo (Ady hk h hks1 hby hks hw hb h1 h2)
  ·exact Qo (Ady hk h hks1 hby hks hw hb h1 h2)
  ·exact Qo (Ady hk h hks1 hby hks hw hb h1 h2)
theorem Ac2{bb:Bool}{ks:List Tk}(h:RdP r p ks)(hx:∀ c,Ok w b (Fj w.params r p t ks.head? bb c))(c:Code):OkF w b (Va w.params r p t bb c) (ledK w.params ks) nL:=
 Wb (hx c) rfl rfl
end
noncomputable def cApp(c n:Nat)(cd:Code):Con:=
 ⟨.call (.builtin "list.append") ⟨[.ref (Af cd 0),.ref (Af cd 1)],[]⟩,[(Af cd 0,Ac (refs c) n)],[(Af cd 0,λtk=>Ac (refs (tk 0)) (tk 1))],0,λ_ _=>[],2,λ_ _=>.ok (.ret .none),0⟩
noncomputable def two(a b:Nat):Nat->Nat
 | 0=>a
 | _=>b
theorem Kd{w:World}{st:Nat->Option Obj}(c n:Nat)(cd:Code):Ad w st (cApp c n cd) (λ_=>(refs c).length<=5000) (λ_ tk L=>L=[]/\refs (tk 0)=refs c++[.ref (Af cd 1)]):=by
 intro A s R X hA hdep hst hpre hnod hX hXn hap hnd hR
 have ho:s.heap.get? (Af cd 0)=some (Ac (refs c) n):=(hpre _ (.head _)).1
 obtain ⟨c',hc'⟩:=Ad8 c [Af cd 1]
 refine Bj slot_list_append ⟨_,ho,rfl⟩ entry_list_append (args_list_append _ _) ?_
 show wpAny _ _ (updateSeq (Af cd 0) (·.push (.ref (Af cd 1))) >>= λ_=>ret .none) _ _ s
 refine wpAny_bind ?_
 have hsz:(refs c).toArray.size<=sizeLine:=by simp only [List.size_toArray];have h5:(refs c).length<=5000:=hnd;rw [sizeLine_eq];omega
 refine wpAny_updateSeq ho rfl (hz:=hsz) (wpAny_pure ⟨.none,rfl,?_⟩)
 have hs:Heap.SameBut (Af cd 0) s.heap (s.heap.update (Af cd 0) (Obj.mapSeq (·.push (.ref (Af cd 1))))):=Heap.SameBut.update ..
 have ho':(s.heap.update (Af cd 0) (Obj.mapSeq (·.push (.ref (Af cd 1))))).get? (Af cd 0)=some (Ac (refs c') (n+1)):=by
  have e:Obj.mapSeq (·.push (Value.ref (Af cd 1))) (Ac (refs c) n)=Ac (refs c') (n+1):=by
   rw [hc']
   show Obj.mapSeq (·.push (Value.ref (Af cd 1))) { cls:=.type "list",data:=.seq (refs c).toArray n }=_
   rw [Obj.mapSeq_push_plain,List.push_toArray]
   rfl
  rw [←e]
  exact Heap.get?_update_self _ ho rfl
 refine hR (λ_=>0) (two c' (n+1)) _ s.toks [] (Be.sameBut hs ho') (λb o e hne=>(hs.2 b λz=>hne _ (.head _) z.symm).trans e) (λp hp=>?_) (λ_ hp=>(nomatch hp)) List.nodup_nil ⟨rfl,?_⟩
 ·rcases mcm hp with rfl|hp
  ·exact ho'
  ·cases hp
 ·exact hc'
noncomputable def fdOf:Option Obj->FuncData
 | some ⟨_,_,.func fd,_⟩=>fd
 | _=>default
noncomputable def Ae(o:Option Obj):List Stmt:=match (fdOf o).body with
 | .stmts b=>b
 | _=>[]
noncomputable def textV:Option Value->Str
 | some (.str x _)=>x
 | _=>Str.empty
noncomputable def qualOf(st:Nat->Option Obj)(v:Value):Str:=match v with
 | .ref c=>match st c with
  | some ⟨_,_,.fields vs,_⟩=>textV vs[1]?
  | _=>Str.empty
 | _=>Str.empty
noncomputable def envF(st:Nat->Option Obj)(fn lo:Addr):Env:=
 { scope:=(fdOf (st fn)).scope,locals:=lo,globals:=(fdOf (st fn)).globals,cells:=(fdOf (st fn)).closure,qual:=qualOf st (fdOf (st fn)).code++".<locals>.",func:=some fn,code:=(fdOf (st fn)).code,frame:=some lo,builtins:=(fdOf (st fn)).builtins }
noncomputable def Ek(es:List DictEntry)(n:Nat):Obj:={ cls:=.type "frame",data:=.dict es.toArray n }
noncomputable def Aem(env:Env):Option Stmt->Code
 | some (.While t b o _)=>.whileLoop t b o env
 | _=>.block [] env
noncomputable def Ld:Option Stmt->List Stmt
 | some (.While _ b _ _)=>b
 | _=>[]
noncomputable def xP(c n:Nat):Fm w b:=⟨λ_ _ cd=>.full (cApp c n cd) (λ_=>(refs c).length<=5000) (λ_ tk L=>L=[]/\refs (tk 0)=refs c++[Value.ref (Af cd 1)]),λ_ _ cd=>Kd c n cd⟩
noncomputable def frRR(P:Params)(a1 a2 a3 a4:Tok)(rd rl:Addr)(kind:Str)(kt wt:Tok):Obj:=Ek [ent P "reader" a1 (.ref rd),ent P "rows" a2 (.ref rl),ent P "kind" a3 (.str kind kt),ent P "word" a4 (.str "FIRST" wt)] 4
noncomputable def coLp(st:SP)(P:Params)(lo:Addr):Code:=Aem (envF (st P) 314 lo) ((Ld (Ae (st P 314))[1]?)[4]?)
noncomputable def Oj(st:SP)(P:Params)(lo:Addr):Code:=Aem (envF (st P) 314 lo) (Ae (st P 314))[1]?
noncomputable def loOf:Code->Addr
 | .whileLoop _ _ _ e=>e.locals
 | .forLoop _ _ _ _ e=>e.locals
 | .compLoop _ _ _ _ e=>e.locals
 | _=>0
structure RR where
 lo:Addr
 rl:Addr
 a1:Tok
 a2:Tok
 a3:Tok
 a4:Tok
noncomputable def RR.fr(P:Params)(x:RR)(r:Rdr)(kind:Str)(kt wt:Tok):Obj:=frRR P x.a1 x.a2 x.a3 x.a4 r.rd x.rl kind kt wt
noncomputable def Agg(P:Params)(r:Rdr)(p:Int)(t:Tok)(x:RR)(kind:Str)(kt wt c n:Nat):List AO:=Au (r.K P p t true)++[(x.lo,x.fr P r kind kt wt),(x.rl,Ac (refs c) n)]
noncomputable def keRR(P:Params)(r:Rdr)(p:Int)(t:Tok)(x:RR)(kind:Str)(kt wt c n:Nat)(w1 w2 w3:Bool):List Ent:=r.K P p t w1++[⟨x.lo,x.fr P r kind kt wt,w2,false⟩,⟨x.rl,Ac (refs c) n,w3,false⟩]
noncomputable def cLp(st:SP)(P:Params)(r:Rdr)(p p':Int)(t:Tok)(x:RR)(kind:Str)(kt wt c n:Nat):Con:=
 ⟨coLp st P x.lo,Agg P r p t x kind kt wt c n,[(r.d,λtk=>r.dict P p' (tk 0)),(x.rl,λtk=>Ac (refs (tk 1)) (tk 2))],0,λ_ _=>[],3,λ_ _=>.ok .next,92⟩
noncomputable def Ai(P:Params)(all:List Tk)(c k:Nat):List AO->Prop:=λX=>ledK P all X/\(refs c).length+k<=5000
noncomputable def Ag(c:Nat)(rows:List PyD):AL:=λ_ tk L=>∃ vs,refs (tk 1)=refs c++vs/\Ab L vs rows
noncomputable def BtB(nx:Option Tk)(bb:Bool):Prop:=∀ {w:World}{b:B3}{r:Rdr}{p:Int}{t:Tok},At r p nx->∀ c,Ok w b (Fj w.params r p t nx bb c)

theorem Jb{P:Params}{all mid:List Tk}{X:List AO}(hs:∃ a,all=a++mid)(h:ledK P all X):ledK P mid X:=by
 obtain ⟨a,rfl⟩:=hs
 exact h.sub Bh
theorem in_fin{P:Params}{all mid:List Tk}{row:PyD}{rows:List PyD}{c i2 i3 m1:Nat}{al:Nat->Addr}{tk:Nat->Tok}{nw':Nat->Addr}{tk':Nat->Tok}(hs:∃ a,all=a++mid)(h1:tk' 1=tk (i3+1)):∀ X,Ai P all c (rows.length+1) X->Ch (Ag c (row::rows) nw' tk')
  [(ledK P all,λL=>L=[]),(ledK P all,λL=>DatV L (.ref (al m1)) row),(λ_=>(refs c).length<=5000,λL=>L=[]/\refs (tk i2)=refs c++[Value.ref (al m1)]),(Ai P mid (tk i2) rows.length,Ag (tk i2) rows al (λj=>tk (i3+j)))] X []:=by
 intro X hX
 obtain ⟨hX,hn⟩:=hX
 refine cS hX λL1 e1=>cS hX.more λL2 hd=>cS (by omega) λL3 h3=>cS ⟨(Jb hs hX).more.more.more,?_⟩ λL4 h4=>cZ ?_
 ·rw [h3.2,List.length_append]
  show (refs c).length+1+rows.length<=5000
  omega
 ·obtain ⟨vs,h5,h6⟩:=h4
  refine ⟨.ref (al m1)::vs,?_,.cons (DatV.left (DatV.left (DatV.right hd))) h6.right⟩
  rw [h1]
  have h5:refs (tk (i3+1))=refs (tk i2)++vs:=h5
  rw [h5,h3.2,List.append_assoc]
  rfl

theorem in_ch{r:Rdr}{p:Int}{t:Tok}{x:RR}{kind:Str}{kt wt c n:Nat}(hk:sEqB kind "CHARACTERS"=!false):OkF w b ({ cLp Aa w.params r p p t x kind kt wt c n with upd:=[],nt:=0 }) tT nL:=by
 let lZ:List (Fm w b):=[pl (cSNe kind "CHARACTERS" false) (Ky hk)]
 refine oFX lZ (keRR w.params r p t x kind kt wt c n false false false) 17 8448 [] [] (λal tk=>[]) ?_ ?_ (λal tk X hX=>cZ rfl)<;>intros<;>kernel_rfl
theorem Agw{r:Rdr}{p:Int}{t:Tok}{x:RR}{kind:Str}{kt wt c n:Nat}{all:List Tk}(hk:sEqB kind "CHARACTERS"=!true)(h:RdP r p all)(hb:BtB all.head? false):OkF w b ({ cLp Aa w.params r p p t x kind kt wt c n with upd:=[],nt:=0 }) (ledK w.params all) nL:=by
 let lZ:List (Fm w b):=[pl (cSNe kind "CHARACTERS" true) (Ky hk),fl (Va w.params r p t false) (ledK w.params all) nL (Ac2 h (hb h.at))]
 refine oFX lZ (keRR w.params r p t x kind kt wt c n false false false) 26 0x81003004002100 [] [] (λal tk=>[eN (ledK w.params all)]) ?_ ?_ (λal tk X hX=>cS hX λL hL=>cZ hL)<;>intros<;>kernel_rfl
theorem Agx{r:Rdr}{p:Int}{t:Tok}{x:RR}{kind:Str}{kt wt c n:Nat}{all mid ls:List Tk}{row:PyD}{rows:List PyD}(hk:sEqB kind "CHARACTERS"=!true)(h:RdP r p all)(hb:BtB all.head? true)(he:ExTk kind all mid row)(hs:∃ a,all=a++mid)(hi:∀ t c n,OkF w b (cLp Aa w.params r (far p all mid) (far p all ls) t x kind kt wt c n) (Ai w.params mid c rows.length) (Ag c rows)):OkF w b (cLp Aa w.params r p (far p all ls) t x kind kt wt c n) (Ai w.params all c (rows.length+1)) (Ag c (row::rows)):=by
 let lZ:List (Fm w b):=[pl (cSNe kind "CHARACTERS" true) (Ky hk),fl (Va w.params r p t true) (ledK w.params all) nL (Ac2 h (hb h.at)),⟨λ_ _ c=>.full (cRF (coEx r kind (Aj c 1)) 90 w.params r p (far p all mid) t) (ledK w.params all) (λnw _ L=>DatV L (.ref (nw 0)) row),λ_ _ _=>ex_F h he⟩,xP c n,⟨λA T c=>.full (cLp Aa w.params r (far p all mid) (far p all ls) (T 1) x kind kt wt (T 2) (T 3)) (Ai w.params mid (T 2) rows.length) (Ag (T 2) rows),λ_ _ _=>hi _ _ _⟩]
 refine oFX lZ (keRR w.params r p t x kind kt wt c n true false true) 48 0x40440440c2040184105042040100104005145144081003004002100 [] [4,5,6] (λal tk=>[eN (ledK w.params all),(ledK w.params all,λL=>DatV L (.ref (al 0)) row),(λ_=>(refs c).length<=5000,λL=>L=[]/\refs (tk 2)=refs c++[Value.ref (al 0)]),(Ai w.params mid (tk 2) rows.length,Ag (tk 2) rows al (λj=>tk (4+j)))]) ?_ ?_ (λal tk=>in_fin hs rfl)<;>intros<;>kernel_rfl
section
open PySem.SeqAt
theorem Kv{w:World}{A:Around}{R:Result->Shared->Prop}{s:Shared}{T:String}{name:Str}{id:String}{b:Builtin}{self:Value}{rest:List Value}{S:PySem.Spec}(h:Slot T name id)(hT:s.TypeIs self T)(hb:entryFor table id=some b)(ha:argsOk id ⟨self::rest,[]⟩)
  (g:Meets (b ⟨self::rest,[]⟩) S)(hs:S A R s):codeAny (model prog w) A (.call (.builtin id) ⟨self::rest,[]⟩) R s:=
 codeAny_call_builtin h.plain hb (h.check _ _ _ _ _ _ _ _ hT ha (g prog w A R s hs))
mutual
noncomputable def PyD.dep:PyD->Nat
 | .tup l=>PyD.depL l+1
 | .lst _=>1000000
 | _=>0
noncomputable def PyD.depL:List PyD->Nat
 | []=>0
 | d::l=>max d.dep (PyD.depL l)
end
theorem EqAt.bytes{A:Around}{s:Shared}{b:Array UInt8}{t u:Tok}:EqAt A s (.bytes b t) (.bytes b u) true:=λprog w E Q hq=>by
 unfold eqBool
 refine wpAny_holding ?_
 refine wpAny_ite_split (λ_=>wpAny_bind (wpAny_rule (wpAny_pure hq))) (λ_=>?_)
 have z:RcAt A s (.bytes b t) (.bytes b u) true:=λprog w E Q hq=>W.eq_bytes (by rw [beq_self_eq_true];exact hq)
 exact wpAny_bind (z prog w E _ (wpAny_truthy_bool hq))
theorem EqAt.strSame{A:Around}{s:Shared}{x:Str}{t u:Tok}:EqAt A s (.str x t) (.str x u) true:=by
 have z:=(eqGives_str x x t u).at A s
 rwa [beq_self_eq_true] at z
theorem Ab.get{L:List AO}{vs:List Value}{l:List PyD}(h:Ab L vs l):vs.length=l.length/\∀ (j:Nat)(h:j < vs.length)(h':j < l.length),DatV L vs[j] l[j]:=
 h.ind (M:=λvs l=>vs.length=l.length/\∀ (j:Nat)(h:j < vs.length)(h':j < l.length),DatV L vs[j] l[j]) ⟨rfl,λ_ h=>nomatch h⟩ λhd _ r=>⟨congrArg (·+1) r.1,λj=>j.rec (λ_ _=>hd) λj _ h h'=>r.2 j (Nat.lt_of_succ_lt_succ h) (Nat.lt_of_succ_lt_succ h')⟩
theorem Rf:∀ {l:List PyD}{j:Nat}(h:j < l.length),l[j].dep<=PyD.depL l
 | d::l,0,_=>Nat.le_max_left _ _
 | d::l,j+1,h=>Nat.le_trans (Rf (l:=l) (j:=j) (by simpa using h)) (Nat.le_max_right _ _)
theorem eq_dat{X:List AO}{s:Shared}(hX:∀ p∈X,s.heap.get? p.1=some p.2):∀ (n:Nat){d:PyD}{v v':Value},d.dep<=n->n < 1000->DatV X v d->DatV X v' d->∀ A:Around,A.units+(n+1) < cLine->EqAt A s v v' true:=by
 intro n
 induction n with
 | zero=>
  intro d v v' hd _ h h' A hu
  cases h with
  | none=>cases h';exact EqAt.same _
  | str=>
   cases h'
   exact EqAt.strSame
  | bytes=>cases h';exact EqAt.bytes
  | tup=>simp [PyD.dep] at hd
  | lst=>simp [PyD.dep] at hd
 | succ n ih=>
  intro d v v' hd hn h h' A hu
  cases h with
  | none=>cases h';exact EqAt.same _
  | str=>
   cases h'
   exact EqAt.strSame
  | bytes=>cases h';exact EqAt.bytes
  | lst=>exfalso;rw [PyD.dep] at hd;omega
  | @tup a vs l hm hs=>
   cases h' with
   | @tup a' vs' _ hm' hs'=>
    rw [PyD.dep] at hd
    by_cases e:a=a'
    ·subst e;exact EqAt.same _
    ·refine EqAt.of_refs e ?_
     obtain ⟨l1,g1⟩:=hs.get
     obtain ⟨l2,g2⟩:=hs'.get
     have z:=RcAt.tuples (A:=A) (s:=s) (l:=a) (b:=a') (items:=vs.toArray) (items2:=vs'.toArray) (e:=λ_=>true) ⟨_,hX _ hm,rfl,_,rfl⟩ ⟨_,hX _ hm',rfl,_,rfl⟩ (by omega) (λj h1 h2=>?_)
     ·have e1:(List.range (min vs.toArray.size vs'.toArray.size)).all (λ_=>true)=true:=List.all_eq_true.mpr λ_ _=>rfl
      rw [e1] at z
      simpa [l1,l2] using z
     ·have h1':j < vs.length:=by simpa using h1
      have h2':j < vs'.length:=by simpa using h2
      have h3:j < l.length:=by omega
      have q:=ih (d:=l[j]) (Nat.le_trans (Rf h3) (by omega)) (by omega) (g1 j h1' h3) (g2 j h2' h3) A.in1 (by show A.units+1+(n+1) < cLine;omega)
      simpa using q
noncomputable def Wr(c:Code):Con:=⟨.call (.builtin "tuple.__ne__") ⟨[.ref (Af c 0),.ref (Af c 1)],[]⟩,[],[],0,λ_ _=>[],0,λ_ _=>.ok (.ret (.bool false)),5⟩
theorem Acw{w:World}{st:Nat->Option Obj}{l:List PyD}(hd:PyD.depL l<=50)(c:Code):Ad w st (Wr c) (λX=>DatV X (.ref (Af c 0)) (.tup l)/\DatV X (.ref (Af c 1)) (.tup l)) nL:=by
 intro A s R X hA hdep hst hpre hnod hX hXn hap hnd hR
 obtain ⟨h,h'⟩:=hnd
 have hXs:∀ p∈X,s.heap.get? p.1=some p.2:=λp hp=>(hX p hp).1
 have hu:A.units+100 < cLine:=hdep.2
 cases h with
 | @tup a vs _ hm hs=>
  cases h' with
  | @tup a' vs' _ hm' hs'=>
   obtain ⟨l1,g1⟩:=hs.get
   obtain ⟨l2,g2⟩:=hs'.get
   refine Kv F.slot_tuple_ne (self:=.ref _) (rest:=[.ref _]) ⟨_,hXs _ hm,rfl⟩ F.entry_tuple_ne (F.args_tuple_ne_2 _ _) (tuple_neAt _ _ vs.toArray vs'.toArray 0 0 none none #[] #[] (λ_=>true)) ⟨hXs _ hm,hXs _ hm',λj h1 h2=>?_,?_⟩
   ·have h1':j < vs.length:=by simpa using h1
    have h2':j < vs'.length:=by simpa using h2
    have h3:j < l.length:=by omega
    have q:=eq_dat hXs 50 (d:=l[j]) (Nat.le_trans (Rf h3) hd) (by omega) (g1 j h1' h3) (g2 j h2' h3) A.in1 (by show A.units+1+_ < cLine;omega)
    simpa using q
   ·have z:=hR (λ_=>0) (λ_=>0) s.heap s.toks [] (Be.refl _) (λ_ _ e _=>e) (λ_ hp=>(nomatch hp)) (λ_ hp=>(nomatch hp)) List.nodup_nil rfl
    have e:(!((List.range (min vs.toArray.size vs'.toArray.size)).all (λ_=>true) && vs.toArray.size == vs'.toArray.size))=false:=by
     have e1:(List.range (min vs.toArray.size vs'.toArray.size)).all (λ_=>true)=true:=List.all_eq_true.mpr λ_ _=>rfl
     rw [e1]
     simp [l1,l2]
    rw [e]
    exact z
end
section
open PySem.SeqAt
noncomputable def Ti(c n:Nat)(cd:Code):Con:=
 ⟨.call (.builtin "list.__eq__") ⟨[.ref (Af cd 0),.ref (Af cd 1)],[]⟩,[(Af cd 0,Ac (refs c) n),(Af cd 1,Ac [] 0)],[],0,λ_ _=>[],0,λ_ _=>.ok (.ret (.bool false)),1⟩
theorem Mh{w:World}{st:Nat->Option Obj}(c n:Nat)(cd:Code):Ad w st (Ti c n cd) (λ_=>refs c≠[]) nL:=by
 intro A s R X hA hdep hst hpre hnod hX hXn hap hnd hR
 have h1:s.heap.get? (Af cd 0)=some (Ac (refs c) n):=(hpre _ (.head _)).1
 have h2:s.heap.get? (Af cd 1)=some (Ac [] 0):=(hpre _ (.tail _ (.head _))).1
 have hne:refs c≠[]:=hnd
 refine Kv F.slot_list_eq (self:=.ref _) (rest:=[.ref _]) ⟨_,h1,rfl⟩ F.entry_list_eq (F.args_list_eq_2 _ _) (list_eq_lengthsAt _ _ (refs c).toArray #[] n 0 none none #[] #[] (by simpa using hne)) ⟨h1,h2,?_⟩
 exact hR (λ_=>0) (λ_=>0) s.heap s.toks [] (Be.refl _) (λ_ _ e _=>e) (λ_ hp=>(nomatch hp)) (λ_ hp=>(nomatch hp)) List.nodup_nil rfl

noncomputable def cApp0(cd:Code):Con:=
 ⟨.call (.builtin "list.append") ⟨[.ref (Af cd 0),.ref (Af cd 1)],[]⟩,[(Af cd 0,Ac [] 0)],[(Af cd 0,λtk=>Ac (refs (tk 0)) (tk 1))],0,λ_ _=>[],2,λ_ _=>.ok (.ret .none),0⟩
theorem Ai5{w:World}{st:Nat->Option Obj}(cd:Code):Ad w st (cApp0 cd) tT (λ_ tk L=>L=[]/\refs (tk 0)=[Value.ref (Af cd 1)]):=by
 obtain ⟨c,hc⟩:=Vu
 have z:=Kd (w:=w) (st:=st) c 0 cd
 unfold cApp at z
 rw [hc] at z
 intro A s R X h1 h2 h3 h4 h5 h6 h7 h8 _ h10
 exact z A s R X h1 h2 h3 h4 h5 h6 h7 h8 (by show 0<=5000;omega) h10
noncomputable def xP0:Fm w b:=⟨λ_ _ cd=>.full (cApp0 cd) tT (λ_ tk L=>L=[]/\refs (tk 0)=[Value.ref (Af cd 1)]),λ_ _ cd=>Ai5 cd⟩
end
inductive InTk (kind:Str):List Tk->List Tk->List PyD->Prop where
 | ch {ls:List Tk}(hk:sEqB kind "CHARACTERS"=true):InTk kind ls ls []
 | stop {ls:List Tk}(hk:sEqB kind "CHARACTERS"=false)(hb:BtB ls.head? false):InTk kind ls ls []
 | more {all mid ls:List Tk}{row:PyD}{rows:List PyD}(hk:sEqB kind "CHARACTERS"=false)(hb:BtB all.head? true)(he:ExTk kind all mid row)(hi:InTk kind mid ls rows):InTk kind all ls (row::rows)
theorem BdTk.suf{all ls:List Tk}{o1 o2:Option Op}(h:BdTk all ls o1 o2):∃ a,all=a++ls:=by
 cases h with
 | no=>exact ⟨[],rfl⟩
 | @b ls k i ks d=>exact ⟨k::i::ks,rfl⟩
 | @a ls k ks d=>exact ⟨k::ks,rfl⟩
 | @ba ls k i k' ks ks'=>exact ⟨k::i::(ks++(k'::ks')),by simp⟩
 | @ab ls k k' i' ks ks'=>exact ⟨k::(ks++(k'::i'::ks')),by simp⟩
theorem ExTk.suf{kind:Str}{all ls:List Tk}{row:PyD}(h:ExTk kind all ls row):∃ a,all=a++ls:=by
 cases h with
 | @ch ks bs _ k _ _ _ _ _ _ _ hb=>obtain ⟨a,rfl⟩:=hb.suf;exact ⟨k::(ks++a),by simp⟩
 | @op ks1 ks bs _ k _ _ _ _ _ _ _ _ _ hb=>obtain ⟨a,rfl⟩:=hb.suf;exact ⟨ks1++(k::(ks++a)),by simp⟩
theorem InTk.suf{kind:Str}{all ls:List Tk}{rows:List PyD}(h:InTk kind all ls rows):∃ a,all=a++ls:=by
 induction h with
 | ch=>exact ⟨[],rfl⟩
 | stop=>exact ⟨[],rfl⟩
 | more _ _ he _ ih=>obtain ⟨a,rfl⟩:=he.suf;obtain ⟨b,rfl⟩:=ih;exact ⟨a++b,by simp⟩
theorem Ah6{p:Int}{a ls:List Tk}:far p (a++ls) ls=p+(a.length:Int):=by
 unfold far;simp only [List.length_append];omega
theorem RdP.far{r:Rdr}{p:Int}{all ls:List Tk}(h:RdP r p all)(hs:∃ a,all=a++ls):RdP r (far p all ls) ls:=by
 obtain ⟨a,rfl⟩:=hs
 rw [Ah6]
 exact h.app
theorem Nd{p:Int}{all mid ls:List Tk}:Mine.far (Mine.far p all mid) mid ls=Mine.far p all ls:=by unfold Mine.far;omega
theorem Aas{r:Rdr}{p:Int}{t:Tok}{x:RR}{kind:Str}{kt wt c n:Nat}{all:List Tk}{need:List AO->Prop}(hn:∀ X,ledK w.params all X->need X)
  (h:OkF w b { cLp Aa w.params r p p t x kind kt wt c n with upd:=[],nt:=0 } need nL) :
  OkF w b (cLp Aa w.params r p p t x kind kt wt c n) (Ai w.params all c 0) (Ag c []):=by
 refine Ap h _ _ _ (λnw _=>nw) (λ_ _=>Uf t c n) (λ_ _=>[]) rfl rfl (Nat.le_refl _) (λ_ _=>rfl) (λ_ hp=>(nomatch hp)) (λnw tk q hq=>.inr ⟨?_,λ_ hp=>(nomatch hp)⟩) (λ_ _=>rfl) (λX hX=>hn X hX.1) λnw tk L hL=>⟨[],(List.append_nil _).symm,.nil⟩
 rcases mcm hq with rfl|hq
 ·exact mai ((.tail _ (.head _)))
 ·rcases mcm hq with rfl|hq
  ·exact maj ((.tail _ (.head _)))
  ·cases hq
theorem lp_ok{r:Rdr}{x:RR}{kind:Str}{kt wt:Tok}{all ls:List Tk}{rows:List PyD}(hi:InTk kind all ls rows) :
  ∀ {p:Int},RdP r p all->∀ t c n,OkF w b (cLp Aa w.params r p (Mine.far p all ls) t x kind kt wt c n) (Ai w.params all c rows.length) (Ag c rows):=by
 induction hi with
 | ch hk=>
  intro p h t c n
  have e:∀ l,Mine.far p l l=p:=λl=>by unfold Mine.far;omega
  rw [e]
  exact Aas (need:=λ_=>True) (λ_ _=>trivial) (in_ch hk)
 | stop hk hb=>
  intro p h t c n
  have e:∀ l,Mine.far p l l=p:=λl=>by unfold Mine.far;omega
  rw [e]
  exact Aas (λ_ h=>h) (Agw hk h hb)
 | more hk hb he hi ih=>
  intro p h t c n
  have z:=λt c n=>ih (h.far he.suf) t c n
  refine Agx hk h hb he he.suf λt c n=>?_
  have q:=z t c n
  rw [Nd] at q
  exact q
noncomputable def Pg(nx:Option Tk):Prop:=wdB nx "CHARACTERS"=false/\wdB nx "ALL"=false/\wdB nx "LEADING"=false/\wdB nx "FIRST"=false
inductive Fo:List Tk->List Tk->List PyD->Prop where
 | stop {ls:List Tk}(h:Pg ls.head?):Fo ls ls []
 | sort {k:Tk}{all mid mid2 ls:List Tk}{kind:Str}{row:PyD}{rows rows2:List PyD}(hk:kind="CHARACTERS"\/kind="ALL"\/kind="LEADING"\/kind="FIRST")(hw:wdB (some k) kind=true)(he:ExTk kind all mid row)(hi:InTk kind mid mid2 rows)(ho:Fo mid2 ls rows2) :
  Fo (k::all) ls (row::(rows++rows2))
theorem Fo.suf{all ls:List Tk}{rows:List PyD}(h:Fo all ls rows):∃ a,all=a++ls:=by
 induction h with
 | stop=>exact ⟨[],rfl⟩
 | @sort k _ _ _ _ _ _ _ _ _ _ he hi _ ih=>obtain ⟨a,rfl⟩:=he.suf;obtain ⟨b,rfl⟩:=hi.suf;obtain ⟨d,rfl⟩:=ih;exact ⟨k::(a++(b++d)),by simp⟩
noncomputable def cOut(st:SP)(P:Params)(r:Rdr)(p p':Int)(t:Tok)(x:RR)(kind:Str)(kt wt c n:Nat):Con:=
 ⟨Oj st P x.lo,Agg P r p t x kind kt wt c n,[(r.d,λtk=>r.dict P p' (tk 0)),(x.rl,λtk=>Ac (refs (tk 1)) (tk 2)),(x.lo,λtk=>x.fr P r "" (tk 3) (tk 4))],0,λ_ _=>[],5,λ_ _=>.ok .next,95⟩
theorem Ab.app{L:List AO}{vs vs':List Value}{l l':List PyD}(a:Ab L vs l)(b:Ab L vs' l'):Ab L (vs++vs') (l++l'):=a.ind (M:=λvs l=>Ab L (vs++vs') (l++l')) b λh _ r=>.cons h r
theorem Qn{P:Params}{k:Tk}{all mid mid2:List Tk}{row:PyD}{rows rows2:List PyD}{c i2 i3 i4 m1:Nat}{al:Nat->Addr}{tk:Nat->Tok}{nw':Nat->Addr}{tk':Nat->Tok}(hs:∃ a,all=a++mid)(hs2:∃ a,mid=a++mid2)(h1:tk' 1=tk (i4+1))
  {X N:List AO}(hX:ledK P (k::all) X)(hn:(refs c).length+(row::(rows++rows2)).length<=5000):Ch (Ag c (row::(rows++rows2)) nw' tk')
  [(ledK P all,λL=>DatV L (.ref (al m1)) row),(λ_=>(refs c).length<=5000,λL=>L=[]/\refs (tk i2)=refs c++[Value.ref (al m1)]),(Ai P mid (tk i2) rows.length,Ag (tk i2) rows al (λj=>tk (i3+j))),(Ai P mid2 (tk (i3+1)) rows2.length,Ag (tk (i3+1)) rows2 al (λj=>tk (i4+j)))] X N:=by
 have hXa:ledK P all X:=hX.sub Bd
 have hn:(refs c).length+((rows++rows2).length+1)<=5000:=hn
 rw [List.length_append] at hn
 refine cS hXa λL2 hd=>cS (by omega) λL3 h3=>?_
 have e3:(refs (tk i2)).length=(refs c).length+1:=by rw [h3.2,List.length_append];rfl
 refine cS ⟨(Jb hs hXa).more.more,by omega⟩ λL4 h4=>?_
 obtain ⟨vs,h5,h6⟩:=h4
 have h5:refs (tk (i3+1))=refs (tk i2)++vs:=h5
 have e4:(refs (tk (i3+1))).length=(refs c).length+1+rows.length:=by rw [h5,List.length_append,e3,h6.get.1]
 refine cS ⟨(Jb hs2 (Jb hs hXa)).more.more.more,by omega⟩ λL5 h7=>cZ ?_
 obtain ⟨us,h8,h9⟩:=h7
 have h8:refs (tk (i4+1))=refs (tk (i3+1))++us:=h8
 refine ⟨.ref (al m1)::(vs++us),?_,.cons (DatV.left (DatV.left (DatV.left (DatV.right hd)))) (Ab.app (Ab.left h6.right) h9.right)⟩
 rw [h1,h8,h5,h3.2]
 simp

theorem Adc{r:Rdr}{p:Int}{t:Tok}{x:RR}{kind:Str}{kt wt c n:Nat}{all:List Tk}(h:RdP r p all)(hn:Pg all.head?):OkF w b ({ cOut Aa w.params r p p t x kind kt wt c n with upd:=[(x.lo,λtk=>x.fr w.params r "" (tk 0) (tk 1))],nt:=2 }) (ledK w.params all) nL:=by
 let lZ:List (Fm w b):=[fl (Ax w.params r p t "CHARACTERS") (ledK w.params (all)) nL (Ba Ao h hn.1),fl (Ax w.params r p t "ALL") (ledK w.params (all)) nL (Ba Bf h hn.2.1),fl (Ax w.params r p t "LEADING") (ledK w.params (all)) nL (Ba Bn h hn.2.2.1),fl (Ax w.params r p t "FIRST") (ledK w.params (all)) nL (Ba Dw h hn.2.2.2)]
 refine oFX lZ (keRR w.params r p t x kind kt wt c n false true false) 283 0x70002000400420410010010040c21401840c00000030000030000031800061460010810400400401030840061030000000c00000c00000c60001851800420410010010040c20c01840c00000030000030000031800061460010810400400401030820061030000000c00000c00000c6000185180042041001001001001001043100 [] [0,5] (λal tk=>[eN (ledK w.params (all)),eN (ledK w.params (all)),eN (ledK w.params (all)),eN (ledK w.params (all))]) ?_ ?_ (λal tk X hX=>cS hX λL1 h1=>cS hX.more λL2 h2=>cS hX.more.more λL3 h3=>cS hX.more.more.more λL4 h4=>cZ (by rw [h1,h2,h3,h4];rfl))<;>intros<;>kernel_rfl
theorem Oe{r:Rdr}{p:Int}{t:Tok}{x:RR}{kind:Str}{kt wt c n:Nat}{k:Tk}{all mid mid2 ls:List Tk}{row:PyD}{rows rows2:List PyD}(h:RdP r p (k::all))(hw:wdB (some k) "CHARACTERS"=true)(he:ExTk "CHARACTERS" all mid row)(hs2:∃ a,mid=a++mid2)(hi:∀ x kt wt t c n,OkF w b (cLp Aa w.params r (far (p+1) all mid) (far (p+1) all mid2) t x "CHARACTERS" kt wt c n) (Ai w.params mid c rows.length) (Ag c rows))(ho:∀ x kind kt wt t c n,OkF w b (cOut Aa w.params r (far (p+1) all mid2) (far (p+1) all ls) t x kind kt wt c n) (Ai w.params mid2 c rows2.length) (Ag c rows2)):OkF w b (cOut Aa w.params r p (far (p+1) all ls) t x kind kt wt c n) (Ai w.params (k::all) c (row::(rows++rows2)).length) (Ag c (row::(rows++rows2))):=by
 let lZ:List (Fm w b):=[fl (By w.params r p t "CHARACTERS") (ledK w.params (k::all)) nL (Cf Ao h hw),⟨λA T c=>.full (cRF (coEx r "CHARACTERS" (Aj c 1)) 90 w.params r (p+1) (far (p+1) all mid) (T 8)) (ledK w.params all) (λnw _ L=>DatV L (.ref (nw 0)) row),λ_ _ _=>ex_F h.tail he⟩,xP c n,⟨λA T c=>.full (cLp Aa w.params r (far (p+1) all mid) (far (p+1) all mid2) (T 17) x "CHARACTERS" (T 2) (T 5) (T 18) (T 19)) (Ai w.params mid (T 18) rows.length) (Ag (T 18) rows),λ_ _ _=>hi _ _ _ _ _ _⟩,⟨λA T c=>.full (cOut Aa w.params r (far (p+1) all mid2) (far (p+1) all ls) (T 20) x "CHARACTERS" (T 2) (T 5) (T 21) (T 22)) (Ai w.params mid2 (T 21) rows2.length) (Ag (T 21) rows2),λ_ _ _=>ho _ _ _ _ _ _ _⟩]
 refine oFX lZ (keRR w.params r p t x kind kt wt c n true true true) 238 0x72051c81481c61441881481c61441482041461440c02080092492480002000400420410010010000061460010810400400400001851800420410010010000061460010810400400401461831030820061030000000c00000c00000c6000185180042041001001001001001043100 [] [23,24,25,26,27] (λal tk=>[eN (ledK w.params (k::all)),(ledK w.params all,λL=>DatV L (.ref (al 4)) row),(λ_=>(refs c).length<=5000,λL=>L=[]/\refs (tk 18)=refs c++[Value.ref (al 4)]),(Ai w.params mid (tk 18) rows.length,Ag (tk 18) rows al (λj=>tk (20+j))),(Ai w.params mid2 (tk (20+1)) rows2.length,Ag (tk (20+1)) rows2 al (λj=>tk (23+j)))]) ?_ ?_ (λal tk X hX=>cS hX.1 λL0 _=>(by refine Qn (tk:=tk) (al:=al) he.suf hs2 ?_ hX.1.more hX.2;rfl))<;>intros<;>kernel_rfl
theorem Agj{r:Rdr}{p:Int}{t:Tok}{x:RR}{kind:Str}{kt wt c n:Nat}{k:Tk}{all mid mid2 ls:List Tk}{row:PyD}{rows rows2:List PyD}(h:RdP r p (k::all))(hw:wdB (some k) "ALL"=true)(he:ExTk "ALL" all mid row)(hs2:∃ a,mid=a++mid2)(hi:∀ x kt wt t c n,OkF w b (cLp Aa w.params r (far (p+1) all mid) (far (p+1) all mid2) t x "ALL" kt wt c n) (Ai w.params mid c rows.length) (Ag c rows))(ho:∀ x kind kt wt t c n,OkF w b (cOut Aa w.params r (far (p+1) all mid2) (far (p+1) all ls) t x kind kt wt c n) (Ai w.params mid2 c rows2.length) (Ag c rows2)):OkF w b (cOut Aa w.params r p (far (p+1) all ls) t x kind kt wt c n) (Ai w.params (k::all) c (row::(rows++rows2)).length) (Ag c (row::(rows++rows2))):=by
 let lZ:List (Fm w b):=[fl (Ax w.params r p t "CHARACTERS") (ledK w.params (k::all)) nL (Ba Ao h (Dr hw (by decide))),fl (By w.params r p t "ALL") (ledK w.params (k::all)) nL (Cf Bf h hw),⟨λA T c=>.full (cRF (coEx r "ALL" (Aj c 1)) 90 w.params r (p+1) (far (p+1) all mid) (T 10)) (ledK w.params all) (λnw _ L=>DatV L (.ref (nw 0)) row),λ_ _ _=>ex_F h.tail he⟩,xP c n,⟨λA T c=>.full (cLp Aa w.params r (far (p+1) all mid) (far (p+1) all mid2) (T 17) x "ALL" (T 3) (T 5) (T 18) (T 19)) (Ai w.params mid (T 18) rows.length) (Ag (T 18) rows),λ_ _ _=>hi _ _ _ _ _ _⟩,⟨λA T c=>.full (cOut Aa w.params r (far (p+1) all mid2) (far (p+1) all ls) (T 20) x "ALL" (T 3) (T 5) (T 21) (T 22)) (Ai w.params mid2 (T 21) rows2.length) (Ag (T 21) rows2),λ_ _ _=>ho _ _ _ _ _ _ _⟩]
 refine oFX lZ (keRR w.params r p t x kind kt wt c n true true true) 264 0x72051c81481c61441c81481c61441882051461441002080092492480002000400420410010010000061460010810400400400001851800420410010010051860c40c20c01840c00000030000030000031800061460010810400400401030820061030000000c00000c00000c6000185180042041001001001001001043100 [] [23,24,25,26,27] (λal tk=>[eN (ledK w.params (k::all)),eN (ledK w.params (k::all)),(ledK w.params all,λL=>DatV L (.ref (al 4)) row),(λ_=>(refs c).length<=5000,λL=>L=[]/\refs (tk 18)=refs c++[Value.ref (al 4)]),(Ai w.params mid (tk 18) rows.length,Ag (tk 18) rows al (λj=>tk (20+j))),(Ai w.params mid2 (tk (20+1)) rows2.length,Ag (tk (20+1)) rows2 al (λj=>tk (23+j)))]) ?_ ?_ (λal tk X hX=>cS hX.1 λL0 _=>cS hX.1.more λL1 _=>(by refine Qn (tk:=tk) (al:=al) he.suf hs2 ?_ hX.1.more.more hX.2;rfl))<;>intros<;>kernel_rfl
theorem Uh{r:Rdr}{p:Int}{t:Tok}{x:RR}{kind:Str}{kt wt c n:Nat}{k:Tk}{all mid mid2 ls:List Tk}{row:PyD}{rows rows2:List PyD}(h:RdP r p (k::all))(hw:wdB (some k) "LEADING"=true)(he:ExTk "LEADING" all mid row)(hs2:∃ a,mid=a++mid2)(hi:∀ x kt wt t c n,OkF w b (cLp Aa w.params r (far (p+1) all mid) (far (p+1) all mid2) t x "LEADING" kt wt c n) (Ai w.params mid c rows.length) (Ag c rows))(ho:∀ x kind kt wt t c n,OkF w b (cOut Aa w.params r (far (p+1) all mid2) (far (p+1) all ls) t x kind kt wt c n) (Ai w.params mid2 c rows2.length) (Ag c rows2)):OkF w b (cOut Aa w.params r p (far (p+1) all ls) t x kind kt wt c n) (Ai w.params (k::all) c (row::(rows++rows2)).length) (Ag c (row::(rows++rows2))):=by
 let lZ:List (Fm w b):=[fl (Ax w.params r p t "CHARACTERS") (ledK w.params (k::all)) nL (Ba Ao h (Dr hw (by decide))),fl (Ax w.params r p t "ALL") (ledK w.params (k::all)) nL (Ba Bf h (Dr hw (by decide))),fl (By w.params r p t "LEADING") (ledK w.params (k::all)) nL (Cf Bn h hw),⟨λA T c=>.full (cRF (coEx r "LEADING" (Aj c 1)) 90 w.params r (p+1) (far (p+1) all mid) (T 12)) (ledK w.params all) (λnw _ L=>DatV L (.ref (nw 0)) row),λ_ _ _=>ex_F h.tail he⟩,xP c n,⟨λA T c=>.full (cLp Aa w.params r (far (p+1) all mid) (far (p+1) all mid2) (T 17) x "LEADING" (T 4) (T 5) (T 18) (T 19)) (Ai w.params mid (T 18) rows.length) (Ag (T 18) rows),λ_ _ _=>hi _ _ _ _ _ _⟩,⟨λA T c=>.full (cOut Aa w.params r (far (p+1) all mid2) (far (p+1) all ls) (T 20) x "LEADING" (T 4) (T 5) (T 21) (T 22)) (Ai w.params mid2 (T 21) rows2.length) (Ag (T 21) rows2),λ_ _ _=>ho _ _ _ _ _ _ _⟩]
 refine oFX lZ (keRR w.params r p t x kind kt wt c n true true true) 290 0x72051c81481c61442081481c61441c82061461441402080092492480002000400420410010010000061460010810400400401461831030840061030000000c00000c00000c60001851800420410010010040c20c01840c00000030000030000031800061460010810400400401030820061030000000c00000c00000c6000185180042041001001001001001043100 [] [23,24,25,26,27] (λal tk=>[eN (ledK w.params (k::all)),eN (ledK w.params (k::all)),eN (ledK w.params (k::all)),(ledK w.params all,λL=>DatV L (.ref (al 4)) row),(λ_=>(refs c).length<=5000,λL=>L=[]/\refs (tk 18)=refs c++[Value.ref (al 4)]),(Ai w.params mid (tk 18) rows.length,Ag (tk 18) rows al (λj=>tk (20+j))),(Ai w.params mid2 (tk (20+1)) rows2.length,Ag (tk (20+1)) rows2 al (λj=>tk (23+j)))]) ?_ ?_ (λal tk X hX=>cS hX.1 λL0 _=>cS hX.1.more λL1 _=>cS hX.1.more.more λL2 _=>(by refine Qn (tk:=tk) (al:=al) he.suf hs2 ?_ hX.1.more.more.more hX.2;rfl))<;>intros<;>kernel_rfl
theorem Aah{r:Rdr}{p:Int}{t:Tok}{x:RR}{kind:Str}{kt wt c n:Nat}{k:Tk}{all mid mid2 ls:List Tk}{row:PyD}{rows rows2:List PyD}(h:RdP r p (k::all))(hw:wdB (some k) "FIRST"=true)(he:ExTk "FIRST" all mid row)(hs2:∃ a,mid=a++mid2)(hi:∀ x kt wt t c n,OkF w b (cLp Aa w.params r (far (p+1) all mid) (far (p+1) all mid2) t x "FIRST" kt wt c n) (Ai w.params mid c rows.length) (Ag c rows))(ho:∀ x kind kt wt t c n,OkF w b (cOut Aa w.params r (far (p+1) all mid2) (far (p+1) all ls) t x kind kt wt c n) (Ai w.params mid2 c rows2.length) (Ag c rows2)):OkF w b (cOut Aa w.params r p (far (p+1) all ls) t x kind kt wt c n) (Ai w.params (k::all) c (row::(rows++rows2)).length) (Ag c (row::(rows++rows2))):=by
 let lZ:List (Fm w b):=[fl (Ax w.params r p t "CHARACTERS") (ledK w.params (k::all)) nL (Ba Ao h (Dr hw (by decide))),fl (Ax w.params r p t "ALL") (ledK w.params (k::all)) nL (Ba Bf h (Dr hw (by decide))),fl (Ax w.params r p t "LEADING") (ledK w.params (k::all)) nL (Ba Bn h (Dr hw (by decide))),fl (By w.params r p t "FIRST") (ledK w.params (k::all)) nL (Cf Dw h hw),⟨λA T c=>.full (cRF (coEx r "FIRST" (Aj c 1)) 90 w.params r (p+1) (far (p+1) all mid) (T 14)) (ledK w.params all) (λnw _ L=>DatV L (.ref (nw 0)) row),λ_ _ _=>ex_F h.tail he⟩,xP c n,⟨λA T c=>.full (cLp Aa w.params r (far (p+1) all mid) (far (p+1) all mid2) (T 17) x "FIRST" (T 5) (T 5) (T 18) (T 19)) (Ai w.params mid (T 18) rows.length) (Ag (T 18) rows),λ_ _ _=>hi _ _ _ _ _ _⟩,⟨λA T c=>.full (cOut Aa w.params r (far (p+1) all mid2) (far (p+1) all ls) (T 20) x "FIRST" (T 5) (T 5) (T 21) (T 22)) (Ai w.params mid2 (T 21) rows2.length) (Ag (T 21) rows2),λ_ _ _=>ho _ _ _ _ _ _ _⟩]
 refine oFX lZ (keRR w.params r p t x kind kt wt c n true true true) 316 0x72051c81481c61442481481c61442082071461441802080092492480002000400420410010010051860c40c21401840c00000030000030000031800061460010810400400401030840061030000000c00000c00000c60001851800420410010010040c20c01840c00000030000030000031800061460010810400400401030820061030000000c00000c00000c6000185180042041001001001001001043100 [] [23,24,25,26,27] (λal tk=>[eN (ledK w.params (k::all)),eN (ledK w.params (k::all)),eN (ledK w.params (k::all)),eN (ledK w.params (k::all)),(ledK w.params all,λL=>DatV L (.ref (al 4)) row),(λ_=>(refs c).length<=5000,λL=>L=[]/\refs (tk 18)=refs c++[Value.ref (al 4)]),(Ai w.params mid (tk 18) rows.length,Ag (tk 18) rows al (λj=>tk (20+j))),(Ai w.params mid2 (tk (20+1)) rows2.length,Ag (tk (20+1)) rows2 al (λj=>tk (23+j)))]) ?_ ?_ (λal tk X hX=>cS hX.1 λL0 _=>cS hX.1.more λL1 _=>cS hX.1.more.more λL2 _=>cS hX.1.more.more.more λL3 _=>(by refine Qn (tk:=tk) (al:=al) he.suf hs2 ?_ hX.1.more.more.more.more hX.2;rfl))<;>intros<;>kernel_rfl
theorem Ie{w:World}{st:Nat->Option Obj}{x:Con}{need0:List AO->Prop}{also0:AL}(hx:Ad w st x need0 also0)
  (y:Con)(need:List AO->Prop)(also:AL)(f:(Nat->Addr)->(Nat->Tok)->Nat->Addr)(g:(Nat->Addr)->(Nat->Tok)->Nat->Tok)(rest:(Nat->Addr)->(Nat->Tok)->List AO)
  (hc:y.code=x.code)(hp:y.pre=x.pre)(hd:x.deep<=y.deep)(hpost:∀ nw tk,y.post (cut y.n (f nw tk)) (cut y.nt (g nw tk))++rest nw tk=x.post nw tk)
  (hu:∀ p∈x.upd,p.1∈y.upd.map (·.1))(hu2:(x.pre.map (·.1)).Nodup->∀ nw tk,∀ p∈Ce y.upd (cut y.nt (g nw tk)),p∈Ce x.upd tk\/(p∈x.pre/\∀ q∈x.upd,q.1≠p.1))
  (hr:∀ nw tk,y.res (cut y.n (f nw tk)) (cut y.nt (g nw tk))=x.res nw tk)(hn:∀ X,need X->need0 X)
  (ha:∀ nw tk L,also0 nw tk L->also (cut y.n (f nw tk)) (cut y.nt (g nw tk)) (rest nw tk++L)):Ad w st y need also:=by
 intro A s R X hA hdep hst hpre hnod
 rw [hp] at hnod
 exact Ap hx y need also f g rest hc hp hd hpost hu (hu2 hnod) hr hn ha A s R X hA hdep hst hpre (hp▸hnod)
noncomputable def pick5(a b c d e:Tok):Nat->Tok
 | 0=>a
 | 1=>b
 | 2=>c
 | 3=>d
 | _=>e
theorem out_ok{r:Rdr}{all ls:List Tk}{rows:List PyD}(ho:Fo all ls rows) :
  ∀ {p:Int},RdP r p all->∀ x kind kt wt t c n,OkF w b (cOut Aa w.params r p (Mine.far p all ls) t x kind kt wt c n) (Ai w.params all c rows.length) (Ag c rows):=by
 induction ho with
 | stop hk=>
  intro p h x kind kt wt t c n
  have e:∀ l,Mine.far p l l=p:=λl=>by unfold Mine.far;omega
  rw [e]
  refine Ie (Adc (c:=c) (n:=n) (kt:=kt) (wt:=wt) (kind:=kind) (t:=t) (x:=x) h hk) _ _ _ (λnw _=>nw) (λ_ tk=>pick5 t c n (tk 0) (tk 1)) (λ_ _=>[]) rfl rfl (Nat.le_refl _) (λ_ _=>rfl) (λq hq=>?_) (λhnod nw tk q hq=>?_) (λ_ _=>rfl) (λX hX=>hX.1) λnw tk L hL=>⟨[],(List.append_nil _).symm,.nil⟩
  ·rcases mcm hq with rfl|hq
   ·exact .tail _ (.tail _ (.head _))
   ·cases hq
  ·have hnod:[r.rd,r.d,r.tl,x.lo,x.rl].Nodup:=hnod
   simp only [List.nodup_cons,List.mem_cons,List.not_mem_nil,or_false,not_or] at hnod
   rcases mcm hq with rfl|hq
   ·refine .inr ⟨mai ((.tail _ (.head _))),λq hq=>?_⟩
    rcases mcm hq with rfl|hq
    ·exact λz=>hnod.2.1.2.1 z.symm
    ·cases hq
   ·rcases mcm hq with rfl|hq
    ·refine .inr ⟨maj ((.tail _ (.head _))),λq hq=>?_⟩
     rcases mcm hq with rfl|hq
     ·exact hnod.2.2.2.1
     ·cases hq
    ·rcases mcm hq with rfl|hq
     ·exact .inl (.head _)
     ·cases hq
 | @sort k all mid mid2 ls kind0 row rows rows2 hk hw he hi ho ih=>
  intro p h x kind kt wt t c n
  have e1:Mine.far p (k::all) ls=Mine.far (p+1) all ls:=by unfold Mine.far;simp only [List.length_cons];omega
  have e2:Mine.far (Mine.far (p+1) all mid) mid mid2=Mine.far (p+1) all mid2:=Nd
  have e3:Mine.far (Mine.far (p+1) all mid2) mid2 ls=Mine.far (p+1) all ls:=Nd
  have hmid:=h.tail.far he.suf
  have hi':∀ x kt wt t c n,OkF w b (cLp Aa w.params r (Mine.far (p+1) all mid) (Mine.far (p+1) all mid2) t x kind0 kt wt c n) (Ai w.params mid c rows.length) (Ag c rows):=λx kt wt t c n=>by
   have z:=lp_ok (b:=b) (w:=w) (x:=x) (kt:=kt) (wt:=wt) hi hmid t c n
   rwa [e2] at z
  have hs2:∃ a,all=a++mid2:=by
   obtain ⟨a,ha⟩:=he.suf
   obtain ⟨b,hb⟩:=hi.suf
   exact ⟨a++b,by rw [ha,hb,List.append_assoc]⟩
  have ho':∀ x kind kt wt t c n,OkF w b (cOut Aa w.params r (Mine.far (p+1) all mid2) (Mine.far (p+1) all ls) t x kind kt wt c n) (Ai w.params mid2 c rows2.length) (Ag c rows2):=λx kind kt wt t c n=>by
   have z:=ih (h.tail.far hs2) x kind kt wt t c n
   rwa [e3] at z
  rw [e1]
  rcases hk with rfl|rfl|rfl|rfl
  ·exact Oe h hw he hi.suf hi' ho'
  ·exact Agj h hw he hi.suf hi' ho'
  ·exact Uh h hw he hi.suf hi' ho'
  ·exact Aah h hw he hi.suf hi' ho'
noncomputable def Cm(w:World)(st:Nat->Option Obj)(x:Con)(t:Sem Fin)(need:List AO->Prop)(also:AL):Prop:=
 ∀ (A:Around)(s:Shared)(R:Result->Shared->Prop)(X:List AO),A.handled=none->Room A x.deep->Stat st s.heap->(∀ p∈x.pre,s.heap.get? p.1=some p.2/\st p.1=none)->(x.pre.map (·.1)).Nodup->
  (∀ p∈X,s.heap.get? p.1=some p.2/\st p.1=none)->(X.map (·.1)).Nodup->(∀ p∈x.pre,∀ q∈X,p.1≠q.1)->need X->
  (∀ (nw:Nat->Addr)(tks:Nat->Tok)(h':Heap)(t':Nat)(L:List AO),Be s.heap h'->
   (∀ b o,s.heap.get? b=some o->(∀ p∈x.upd,p.1≠b)->h'.get? b=some o)->(∀ p∈Ce x.upd (cut x.nt tks),h'.get? p.1=some p.2)->
   (∀ p∈x.post (cut x.n nw) (cut x.nt tks)++L,h'.get? p.1=some p.2/\s.heap.get? p.1=none)->((x.post (cut x.n nw) (cut x.nt tks)++L).map (·.1)).Nodup->also (cut x.n nw) (cut x.nt tks) L->
   R (x.res (cut x.n nw) (cut x.nt tks)) { s with heap:=h',toks:=t' })->
  wpOwn (model prog w) A x.code t (plus (postC prog w A R)) (postE R) s
noncomputable def letT(al:Nat->Addr)(tk:Nat->Tok)(n:Nat):Nat:=match Nat.blt n 512 with
 | true=>tk n
 | false=>al (n - 512)
noncomputable def Eh(V:SV)(x:Con)(t:Sem Fin)(n q:Nat)(K:List Ent)(σ τ:List Nat)(al:Nat->Addr)(tk:Nat->Tok):Out:=
 (run V al tk n x.code .base t K 0 0 q).end (Jz x (λj=>al (nthD σ j)) (λj=>letT al tk (nthD τ j)))
theorem Zk{w:World}{st:Nat->Option Obj}{cons:List CF}{den:Code->Sem Fin}{ct:Addr->FuncData->Args->Sem Fin}(x:Con)(t:Sem Fin)(need:List AO->Prop)(also:AL)
  (K:List Ent)(n q:Nat)(σ τ:List Nat)(E:EF)
  (hden:den=denote table)(hct:ct=Eb)(hlim:∀ h,Stat st h->h.NoLimit)(hcons:∀ f∈cons,∀ a t c,(f a t c).Valid w st)
  (hK:K.map (λe=>(e.a,e.o))=x.pre)(hw:∀ e∈K,e.w=true->e.a∈x.upd.map (·.1))(hf:∀ e∈K,e.f=false)
  (hrun:∀ dp fr gd un al tk,Eh ⟨w,⟨none,dp,fr,gd,un⟩,x.deep,st,cons,den,ct⟩ x t n q K σ τ al tk=(Eh ⟨w,⟨none,dp,fr,gd,un⟩,x.deep,st,cons,den,ct⟩ x t n q K σ τ al tk).toE .done (E al tk))
  (hfin:∀ al tk X,need X->Ch (also (cut x.n λj=>al (nthD σ j)) (cut x.nt λj=>letT al tk (nthD τ j))) (E al tk) X []) :
  Cm w st x t need also:=by
 intro A s R X hn hdep hst hpre hnod hX hXn hap hnd hR
 obtain ⟨hd,dp,fr,gd,un⟩:=A
 obtain ⟨h,g,d,ts,os⟩:=s
 have hn:hd=none:=hn
 subst hn
 let V:SV:=⟨w,⟨none,dp,fr,gd,un⟩,x.deep,st,cons,den,ct⟩
 have O:V.Ok:=⟨hden,hct,hlim,hdep,hcons⟩
 have D:=Hd (st:=st) hst hpre hnod hX hXn hap hK hw hf
 refine Fv (V:=V) (R₀:=R) (W:=x.upd.map (·.1)) (h₀:=h) (g:=g) (d:=d) (os:=os) O n X [] x.code .base t K 0 0 q (λ_=>0) (λ_=>0) h ts (λal' tk' _ _=>?_) D
 refine Ih (F:=also (cut x.n λj=>al' (nthD σ j)) (cut x.nt λj=>letT al' tk' (nthD τ j))) (f:=Jz x (λj=>al' (nthD σ j)) (λj=>letT al' tk' (nthD τ j))) (λr K' q' E' X' N' e c h' t' D'=>?_) _ (E al' tk') X [] (hrun dp fr gd un al' tk') (hfin al' tk' X hnd)
 obtain ⟨e0,e1,e2,e3,e4⟩:=Jy D'.nod e
 subst e0
 rw [e1]
 obtain ⟨r1,r2,r3,r4⟩:=Mt D' e2 e3 e4
 exact hR (λj=>al' (nthD σ j)) (λj=>letT al' tk' (nthD τ j)) h' t' N' D'.size r1 r2 r3 r4 c
noncomputable abbrev OkT(w:World)(b:B3)(x:Con)(t:Sem Fin)(need:List AO->Prop)(also:AL):Prop:=Cm (wZ w b) (Aa w.params) x t need also
theorem okT_of{cons:List CF}(x:Con)(t:Sem Fin)(need:List AO->Prop)(also:AL)(K:List Ent)(n q:Nat)(σ τ:List Nat)(E:EF)(hcons:∀ f∈cons,∀ a t c,OkX w b (f a t c))
  (hK:K.map (λe=>(e.a,e.o))=x.pre)(hw:∀ e∈K,e.w=true->e.a∈x.upd.map (·.1))(hf:∀ e∈K,e.f=false)
  (hrun:∀ dp fr gd un al tk,Eh (VZ w b cons x.deep dp un fr gd) x t n q K σ τ al tk=(Eh (VZ w b cons x.deep dp un fr gd) x t n q K σ τ al tk).toE .done (E al tk))
  (hfin:∀ al tk X,need X->Ch (also (cut x.n λj=>al (nthD σ j)) (cut x.nt λj=>letT al tk (nthD τ j))) (E al tk) X []):OkT w b x t need also:=
 Zk x t need also K n q σ τ E Ku Cp (λ_=>Ic) hcons hK hw hf hrun hfin
noncomputable abbrev RqT(w:World)(b:B3)(d:List CF)(x:Con)(t:Sem Fin)(n q:Nat)(K:List Ent)(σ τ:List Nat)(E:EF)(dp:Nat)(fr:Option (List Env))(gd:Option (List Code))(un:Nat)(al:Nat->Addr)(tk:Nat->Tok):Prop:=Eh (VZ w b d x.deep dp un fr gd) x t n q K σ τ al tk=(Eh (VZ w b d x.deep dp un fr gd) x t n q K σ τ al tk).toE .done (E al tk)
theorem oT{x:Con}{t:Sem Fin}{need:List AO->Prop}{also:AL}(l:List (Fm w b))(K:List Ent)(n q:Nat)(σ τ:List Nat)(E:EF)
  (h:∀ dp fr gd un al tk,RqT w b (fms l) x t n q K σ τ E dp fr gd un al tk)(hfin:∀ al tk X,need X->Ch (also (cut x.n λj=>al (nthD σ j)) (cut x.nt λj=>letT al tk (nthD τ j))) (E al tk) X [])(hK:K.map (λe=>(e.a,e.o))=x.pre:=by rfl)(hw:WsOk K (x.upd.map (·.1)):=by exact wokA)(hf:fOf K=false:=by rfl):OkT w b x t need also:=okT_of x t need also K n q σ τ E (Pk l) hK hw (f_ok hf) h hfin
theorem oTX{x:Con}{t:Sem Fin}{need:List AO->Prop}{also:AL}(l:List (Fm w b))(K:List Ent)(n q:Nat)(σ τ:List Nat)(E:EF)
  (h0:∀ y z dp fr gd un al tk,RqT w ⟨false,y,z⟩ (fms l) x t n q K σ τ E dp fr gd un al tk)(h1:∀ y z dp fr gd un al tk,RqT w ⟨true,y,z⟩ (fms l) x t n q K σ τ E dp fr gd un al tk)(hfin:∀ al tk X,need X->Ch (also (cut x.n λj=>al (nthD σ j)) (cut x.nt λj=>letT al tk (nthD τ j))) (E al tk) X [])(hK:K.map (λe=>(e.a,e.o))=x.pre:=by rfl)(hw:WsOk K (x.upd.map (·.1)):=by exact wokA)(hf:fOf K=false:=by rfl):OkT w b x t need also:=by
 obtain ⟨_ | _,y,z⟩:=b
 ·exact oT l K n q σ τ E (h0 y z) hfin hK hw hf
 ·exact oT l K n q σ τ E (h1 y z) hfin hK hw hf
theorem oTY{x:Con}{t:Sem Fin}{need:List AO->Prop}{also:AL}(l:List (Fm w b))(K:List Ent)(n0 n1 q0 q1:Nat)(σ τ:List Nat)(E:EF)
  (h00:∀ z dp fr gd un al tk,RqT w ⟨false,false,z⟩ (fms l) x t n0 q0 K σ τ E dp fr gd un al tk)(h01:∀ z dp fr gd un al tk,RqT w ⟨false,true,z⟩ (fms l) x t n1 q1 K σ τ E dp fr gd un al tk)(h10:∀ z dp fr gd un al tk,RqT w ⟨true,false,z⟩ (fms l) x t n0 q0 K σ τ E dp fr gd un al tk)(h11:∀ z dp fr gd un al tk,RqT w ⟨true,true,z⟩ (fms l) x t n1 q1 K σ τ E dp fr gd un al tk)(hfin:∀ al tk X,need X->Ch (also (cut x.n λj=>al (nthD σ j)) (cut x.nt λj=>letT al tk (nthD τ j))) (E al tk) X [])(hK:K.map (λe=>(e.a,e.o))=x.pre:=by rfl)(hw:WsOk K (x.upd.map (·.1)):=by exact wokA)(hf:fOf K=false:=by rfl):OkT w b x t need also:=by
 obtain ⟨_ | _,_ | _,z⟩:=b
 ·exact oT l K n0 q0 σ τ E (h00 z) hfin hK hw hf
 ·exact oT l K n1 q1 σ τ E (h01 z) hfin hK hw hf
 ·exact oT l K n0 q0 σ τ E (h10 z) hfin hK hw hf
 ·exact oT l K n1 q1 σ τ E (h11 z) hfin hK hw hf
noncomputable def Pu:Expr->Env->Sem Value:=ZFast.zw14044960220447912780
noncomputable def Ov:List Stmt->Env->Sem Flow:=ZFast.zw12563942051412417395
noncomputable def To:Value->Sem Bool:=ZFast.zw15245631507167962100
noncomputable def zCmp:CmpOp->Value->Value->Sem Value:=ZFast.zw12886488535604756494
noncomputable def Yz:Expr->Env->Sem Value->Sem Bool:=ZFast.zw15418851999007992765
theorem Hw:Pu=eval:=by unfold Pu;rw [←ZFast.ze14044960220447912780]
theorem Ro:Ov=execs:=by unfold Ov;rw [←ZFast.ze12563942051412417395]
theorem Xc:To=truthy:=by unfold To;rw [←ZFast.ze15245631507167962100]
theorem Afe:zCmp=compareOp:=by unfold zCmp;rw [←ZFast.ze12886488535604756494]
theorem Ve:Yz=PySem.isTrue:=by unfold Yz;rw [←ZFast.ze15418851999007992765]
noncomputable def Acj:Value->Sem Value:=ZFast.zw14684505520029207082
noncomputable def Afc:CmpOp->String × Str × Str:=ZFast.zw363932546726248868
noncomputable def zTry:Value->Str->Value->Sem (Option Value):=ZFast.zw3989567798202555795
theorem Aci:Acj=typeOf:=by unfold Acj;rw [←ZFast.ze14684505520029207082]
theorem Ack:Afc=cmpInfo:=by unfold Afc;rw [←ZFast.ze363932546726248868]
theorem Afb:zTry=tryCompare:=by unfold zTry;rw [←ZFast.ze3989567798202555795]
noncomputable def cmpR(op:CmpOp)(a b:Value):Sem Value:=
 R.bindR (Acj a) λta=>R.bindR (Acj b) λtb=>match ta with
  | .type s=>match tb with
   | .type s'=>match eqS s s' with
    | true=>R.bindR (zTry a (Afc op).2.1 b) λo=>match o with
     | some v=>.pure v
     | none=>.unsupported ""
    | false=>.unsupported ""
   | _=>.unsupported ""
  | _=>.unsupported ""
noncomputable def Abr(op:CmpOp)(a b:Value):Sem Value:=match op with
 | .Eq=>match a with
  | .ref _=>cmpR .Eq a b
  | _=>zCmp .Eq a b
 | .NotEq=>match a with
  | .ref _=>cmpR .NotEq a b
  | _=>zCmp .NotEq a b
 | op=>zCmp op a b
noncomputable def cmpN(l:Expr)(op:CmpOp)(r:Expr)(pos:Pos)(env:Env):Sem Bool:=
 R.bindR (Pu l env) λa=>R.bindR (Pu r env) λb=>.at pos λ_=>R.bindR (Abr op a b) λc=>To c
noncomputable def Oy(e:Expr)(env:Env):Sem Bool:=match e with
 | .Compare l [.Eq] [r] pos=>cmpN l .Eq r pos env
 | .Compare l [.NotEq] [r] pos=>cmpN l .NotEq r pos env
 | e=>Yz e env (Pu e env)
noncomputable def Afl(e:Expr)(env:Env):Sem Bool:=match e with
 | .BoolOp .Or [x,y] _=>R.bindR (Oy x env) λc=>match c with
  | true=>.pure true
  | false=>Oy y env
 | e=>Oy e env
noncomputable def execN(s:Stmt)(env:Env):Sem Flow:=match s with
 | .If test body orelse pos=>.at pos λ_=>R.bindR (Afl test env) λc=>match c with
  | true=>Ov body env
  | false=>Ov orelse env
 | s=>Ov [s] env
noncomputable def Jx:List Stmt->Env->Sem Flow
 | [],_=>.pure .next
 | s::r,env=>R.bindR (execN s env) λf=>match f with
  | .next=>Jx r env
  | f=>.pure f
noncomputable def Ref{α:Type}(M:Model)(Γ:PySem.Ctx)(t' t:Sem α):Prop:=∀ Q E p s,Sem.wp M Γ t' Q E p s->Sem.wp M Γ t Q E p s
section
variable {M:Model}{Γ:PySem.Ctx}
theorem Ref.refl{α:Type}(t:Sem α):Ref M Γ t t:=λ_ _ _ _ h=>h
theorem Ref.bind{α β:Type}{m m':Sem α}{f f':α->Sem β}(h:Ref M Γ m' m)(hf:∀ a,Ref M Γ (f' a) (f a)):Ref M Γ (R.bindR m' f') (m >>= f):=λQ E p s z=>by
 have z:Sem.wp M Γ (m' >>= f') Q E p s:=by
  rw [←R.bindR_eq] at z
  exact z
 rw [Sem.wp_bind'] at z ⊢
 exact h _ _ _ _ (Sem.wp_mono M Γ _ (λa p s h'=>hf a _ _ _ _ h') (λ_ _ _ h'=>h') _ _ z)
theorem Ref.at{α:Type}{pos:Pos}{t t':Sem α}(h:Ref M Γ t' t):Ref M Γ (.at pos λ_=>t') (do standAt pos;t):=λQ E p s z=>h Q E _ _ z
theorem Ref.holding{α:Type}{vs:List Value}{t t':Sem α}(h:Ref M Γ t' t):Ref M Γ t' (holding vs t):=λQ E p s z=>by
 rw [Sem.wp_holding]
 exact h _ _ _ _ z
theorem Ref.operate{vs:List Value}{t t':Sem Value}(h:Ref M Γ t' t):Ref M Γ t' (operate vs t):=λQ E p s z=>by
 rw [Sem.wp_operate]
 exact h _ _ _ _ z
theorem Ae7(hu:Γ.units < cLine)(op:CmpOp)(ho:op=.Eq\/op=.NotEq)(a:Addr)(b:Value):Ref M Γ (cmpR op (.ref a) b) (compareOp op (.ref a) b):=by
 intro Q E p s z
 have e:compareOp op (.ref a) b=richCompare op (.ref a) b:=by rcases ho with rfl|rfl<;>rfl
 rw [e]
 unfold richCompare
 rw [Sem.wp_holding,Sem.wp_bind']
 refine (Sem.wp_cRoomFor _ _ hu ?_)
 have e1:oneThing? op (.ref a) b=none:=by rcases ho with rfl|rfl<;>rfl
 unfold cmpR at z
 rw [←R.bindR_eq,Aci,Afb,Ack] at z
 simp only [e1]
 rcases hi:cmpInfo op with ⟨sym,f,r⟩
 rw [hi] at z
 have z:Sem.wp M Γ (typeOf (.ref a) >>= λta=>_) Q E p s:=z
 rw [Sem.wp_bind'] at z ⊢
 refine Sem.wp_mono M Γ _ (λta p s h=>?_) (λ_ _ _ h=>h) _ _ z
 have h:Sem.wp M Γ (typeOf b >>= λtb=>_) Q E p s:=h
 rw [Sem.wp_bind'] at h ⊢
 refine Sem.wp_mono M Γ _ (λtb p s h=>?_) (λ_ _ _ h=>h) _ _ h
 have key:∃ s1,ta=.type s1/\tb=.type s1/\Sem.wp M Γ (tryCompare (.ref a) f b >>= λo=>match o with
  | some v=>.pure v
  | none=>.unsupported "") Q E p s:=by
  clear e e1 z hi
  cases ta with
  | type s1=>
   cases tb with
   | type s2=>
    dsimp only at h
    cases hs:eqS s1 s2 with
    | true=>
     rw [hs] at h
     cases Kt hs
     exact ⟨_,rfl,rfl,h⟩
    | false=>rw [hs] at h;exact absurd h (by exact λz=>z)
   | _=>exact absurd h (by exact λz=>z)
  | _=>exact absurd h (by exact λz=>z)
 clear h
 obtain ⟨s1,rfl,rfl,h⟩:=key
 have e2:(Value.type s1 != Value.type s1)=false:=bne_self_eq_false _
 simp only [e2]
 show Sem.wp M Γ (do
  let x←tryCompare (.ref a) f b
  _) Q E p s
 rw [Sem.wp_bind'] at h ⊢
 refine Sem.wp_mono M Γ _ (λo p s h=>?_) (λ_ _ _ h=>h) _ _ h
 cases o with
 | some v=>exact h
 | none=>exact absurd h (by exact λz=>z)
theorem Yp(hu:Γ.units < cLine)(op:CmpOp)(a b:Value):Ref M Γ (Abr op a b) (compareOp op a b):=by
 have r:Ref M Γ (zCmp op a b) (compareOp op a b):=by rw [Afe];exact Ref.refl _
 have g:∀ op,op=.Eq\/op=.NotEq->∀ a,Ref M Γ (cmpR op (.ref a) b) (compareOp op (.ref a) b):=λop ho a=>Ae7 hu op ho a b
 unfold Abr
 cases op
 case Eq=>cases a<;>first|exact g _ (.inl rfl) _|exact r
 case NotEq=>cases a<;>first|exact g _ (.inr rfl) _|exact r
 all_goals exact r
theorem Wp(hu:Γ.units < cLine)(l:Expr)(op:CmpOp)(ho:op=.Eq\/op=.NotEq)(r:Expr)(pos:Pos)(env:Env)(Jn:Sem Value):Ref M Γ (cmpN l op r pos env) (PySem.isTrue (.Compare l [op] [r] pos) env Jn):=by
 have hm:behindInMarks op r=false:=by
  rcases ho with rfl|rfl<;>cases r<;>first|rfl|simp only [behindInMarks,show ((CmpOp.Eq == CmpOp.In) || (CmpOp.Eq == CmpOp.NotIn))=false from rfl,show ((CmpOp.NotEq == CmpOp.In) || (CmpOp.NotEq == CmpOp.NotIn))=false from rfl,Bool.and_false,Bool.false_and]
 rw [isTrue_Compare1,markedBehindIn_of_false hm]
 unfold cmpN
 rw [Hw,Xc]
 exact Ref.bind (Ref.refl _) λa=>Ref.bind (Ref.holding (Ref.refl _)) λb=>Ref.at (Ref.bind (Ref.operate (Yp hu op a b)) λc=>Ref.holding (Ref.refl _))
theorem Kj(hu:Γ.units < cLine)(e:Expr)(env:Env):Ref M Γ (Oy e env) (PySem.isTrue e env (eval e env)):=by
 have d:∀ e,Ref M Γ (Yz e env (Pu e env)) (PySem.isTrue e env (eval e env)):=λe=>by rw [Ve,Hw];exact Ref.refl _
 cases e with
 | Compare l os rs pos=>
  rcases os with _|⟨op,_|⟨_,_⟩⟩
  ·exact d _
  ·rcases rs with _|⟨r,_|⟨_,_⟩⟩
   ·cases op<;>exact d _
   ·cases op
    case Eq=>exact Wp hu _ _ (.inl rfl) _ _ _ _
    case NotEq=>exact Wp hu _ _ (.inr rfl) _ _ _ _
    all_goals exact d _
   ·cases op<;>exact d _
  ·cases op<;>exact d _
 | _=>exact d _
theorem Zj(hu:Γ.units < cLine)(e:Expr)(env:Env):Ref M Γ (Afl e env) (PySem.isTrue e env (eval e env)):=by
 have d:=Kj (Γ:=Γ) (M:=M) hu e env
 have two:∀ x y pos,Ref M Γ (Afl (.BoolOp .Or [x,y] pos) env) (PySem.isTrue (.BoolOp .Or [x,y] pos) env (eval (.BoolOp .Or [x,y] pos) env)):=λx y pos=>by
  show Ref M Γ _ (do
   match BoolOp.Or,←PySem.isTrue x env (eval x env) with
   | .And,false=>pure false
   | .Or,true=>pure true
   | _,_=>do
    match BoolOp.Or,←PySem.isTrue y env (eval y env) with
    | .And,false=>pure false
    | .Or,true=>pure true
    | _,_=>allTrue .Or [] env)
  refine Ref.bind (Kj hu x env) λc=>?_
  cases c with
  | true=>exact Ref.refl _
  | false=>
   have z:Ref M Γ (R.bindR (Oy y env) λc=>.pure c) (do
    match BoolOp.Or,←PySem.isTrue y env (eval y env) with
    | .And,false=>pure false
    | .Or,true=>pure true
    | _,_=>allTrue .Or [] env):=Ref.bind (Kj hu y env) λc=>by cases c<;>exact Ref.refl _
   intro Q E p s h
   refine z Q E p s ?_
   rw [←R.bindR_eq]
   show Sem.wp M Γ (Oy y env >>= λc=>pure c) Q E p s
   rw [Sem.wp_bind']
   exact h
 cases e with
 | BoolOp op vs pos=>
  rcases vs with _|⟨x,_|⟨y,_|⟨_,_⟩⟩⟩<;>cases op<;>first|exact two _ _ _|exact d
 | _=>exact d
theorem Abj(hu:Γ.units < cLine)(s:Stmt)(env:Env):Ref M Γ (execN s env) (exec s env):=by
 have d:∀ s,Ref M Γ (Ov [s] env) (exec s env):=λs=>by
  rw [Ro]
  intro Q E p s0 h
  rw [execs_cons,Sem.wp_bind'] at h
  refine Sem.wp_mono M Γ _ (λf p s h=>?_) (λ_ _ _ h=>h) _ _ h
  cases f<;>exact h
 cases s with
 | If test body orelse pos=>
  rw [exec_If]
  refine Ref.at (Ref.bind (Zj hu test env) λc=>?_)
  cases c<;>(rw [Ro];exact Ref.refl _)
 | _=>exact d _
theorem Fz(hu:Γ.units < cLine):∀ (l:List Stmt)(env:Env),Ref M Γ (Jx l env) (execs l env)
 | [],_=>Ref.refl _
 | s::r,env=>by
  rw [execs_cons]
  unfold Jx
  refine Ref.bind (Abj hu s env) λf=>?_
  cases f<;>first|exact Fz hu r env|exact Ref.refl _
end
noncomputable def Cq(body:List Stmt)(env:Env):Sem Fin:=R.bindR (Jx body env) λf=>.pure (.done f)
theorem Ab6{w:World}{A:Around}{body:List Stmt}{env:Env}{R₁:Result->Shared->Prop}{s:Shared}(hu:Room A 1)
  (h:wpOwn (model prog w) A (.func body env) (Cq body env) (plus (postC prog w A λr s=>match r with
   | .ok f=>R₁ (.ok (.ret (match f with|.ret v=>v | _=>.none))) s
   | .error _=>False)) (postE λr s=>match r with
   | .ok f=>R₁ (.ok (.ret (match f with|.ret v=>v | _=>.none))) s
   | .error _=>False) s):codeAny (model prog w) A (.func body env) R₁ s:=by
 refine codeAny_of_own ?_
 intro Γ p hc hΓ
 have z:=h Γ p hc hΓ
 have hun:Γ.units < cLine:=by
  have h1:=(hc▸hΓ.in:Γ.In (A.under (.func body env))).2.2.2.2
  have h2:(A.under (.func body env)).units<=A.units+3:=Nat.add_le_add_left (Hq _) _
  have h3:=hu.2
  omega
 unfold Cq at z
 rw [←R.bindR_eq] at z
 have z:Sem.wp (model prog w) Γ (Jx body env >>= λf=>Sem.pure (Fin.done f)) _ _ p s:=z
 rw [Sem.wp_bind'] at z
 have z2:=Fz hun body env _ _ _ _ z
 show Sem.wp (model prog w) Γ (do point;match←(execs body env).onRaise (leaving env) with|.ret v=>ret v | _=>ret .none) _ _ p s
 rw [Sem.wp_bind']
 show Sem.wp (model prog w) Γ ((execs body env).onRaise (leaving env) >>= _) _ _ p s
 rw [Sem.wp_bind',Sem.wp_onRaise]
 refine Sem.wp_mono (model prog w) Γ _ (λf p s h=>?_) (λe p s h=>?_) _ _ z2
 ·have h:=h.2
  cases f<;>exact h
 ·exact absurd h (by exact λz=>z)

theorem Ah1{w:World}{st:Nat->Option Obj}{x:Con}{body:List Stmt}{env:Env}{need:List AO->Prop}{also:AL}(v:(Nat->Addr)->(Nat->Tok)->Value)(hc:x.code=.func body env)(hd:1<=x.deep)(hr:∀ nw tk,x.res nw tk=.ok (.ret (v nw tk)))
  (hx:Cm w st x (Cq body env) need also):Ad w st x need also:=by
 intro A s R₁ X h1 h2 h3 h4 h5 h6 h7 h8 h9 h10
 rw [hc]
 have z:=hx A s (λr s=>match r with
   | .ok f=>R₁ (.ok (.ret (match f with|.ret v=>v | _=>.none))) s
   | .error _=>False) X h1 h2 h3 h4 h5 h6 h7 h8 h9 (λnw tks h' t' L a1 a2 a3 a4 a5 a6=>by
    have q:=h10 nw tks h' t' L a1 a2 a3 a4 a5 a6
    rw [hr] at q ⊢
    exact q)
 rw [hc] at z
 exact Ab6 (h2.le hd) z
noncomputable def Out.endC:Out->(Code->Ko->List Ent->Nat->Out)->Out
 | .nil f,k=>match f with
  | .fin ..=>.nil (.stuck 71)
  | .stuck n=>.nil (.stuck n)
  | .done=>.nil (.stuck 71)
  | .bad=>.nil (.stuck 71)
  | .cut c κ K _ _ q=>k c κ K q
 | .cons i r,k=>.cons i (r.endC k)
noncomputable def errT(V:SV)(n:Nat):Sem Fin->Option Value:=
 Nat.rec (λ_=>none) (λ_ ih t=>match t with
  | .raise e=>some e
  | .rule _ k=>ih (k ())
  | .at _ k=>ih (k ())
  | .point _ k=>ih (k ())
  | .ask k=>ih (k ⟨prog,V.w.params⟩)
  | _=>none) n
theorem Gb{V:SV}{R₀:Result->Shared->Prop}{c:Code}{κ:Ko}{s:Shared}:∀ (n:Nat)(t:Sem Fin)(v:Value),errT V n t=some v->endK V R₀ κ (.error v) s->Nu V R₀ c κ t s
 | 0,_,_,e,_=>by cases e
 | n+1,t,v,e,h=>by
  cases t with
  | raise x=>
   have e:some x=some v:=e
   cases e
   exact y_raise _ _ _ _ _ _ _ _ _ (y_err _ _ _ h)
  | rule tag k=>exact y_skim _ _ _ _ _ _ _ _ _ 1 (Gb n _ v e h)
  | «at» p k=>exact y_skim _ _ _ _ _ _ _ _ _ 1 (Gb n _ v e h)
  | point l k=>exact y_skim _ _ _ _ _ _ _ _ _ 1 (Gb n _ v e h)
  | ask k=>exact y_skim _ _ _ _ _ _ _ _ _ 1 (Gb n _ v e h)
  | _=>cases e
noncomputable def Te(V:SV)(x:Con)(cc:(Nat->Addr)->(Nat->Tok)->Code)(inn:Bool)(nw:Nat->Addr)(tks:Nat->Tok)(ev:Addr)(c:Code)(κ:Ko)(K:List Ent)(q:Nat):Out:=
 match Gm c (cc (cut x.n nw) (cut x.nt tks)) with
 | some l0=>match Ds (Ce x.upd (cut x.nt tks)) K q with
  | some l=>match Fb (x.post (cut x.n nw) (cut x.nt tks)) K (adv x.upd.length q) with
   | some l'=>match Ea (digs (x.post (cut x.n nw) (cut x.nt tks)).length (adv x.upd.length q)) with
    | true=>match inn,κ with
     | false,.base=>conses l0 (conses l (conses l' (.nil .done)))
     | true,.ret c1 hd k .base=>match hd with
      | none=>match errT V 40 (k (.error (.ref ev))) with
       | some v=>.cons (.c c1 x.code) (.cons (.r (.error v) (.error (.ref ev))) (conses l0 (conses l (conses l' (.nil .done)))))
       | none=>stuck 72
      | some _=>stuck 73
     | _,_=>stuck 74
    | false=>stuck 62
   | none=>stuck 63
  | none=>stuck 64
 | none=>stuck 65
noncomputable def Ac5(inn:Bool)(A:Around)(c:Code):Around:=match inn with
 | false=>A
 | true=>(A.under c).mark none
noncomputable def Rg(w:World)(st:Nat->Option Obj)(x:Con)(t:Sem Fin)(cc:(Nat->Addr)->(Nat->Tok)->Code)(inn:Bool)(need:List AO->Prop)(also:AL):Prop:=
 ∀ (A:Around)(s:Shared)(R:Result->Shared->Prop)(X:List AO),A.handled=none->Room A x.deep->Stat st s.heap->(∀ p∈x.pre,s.heap.get? p.1=some p.2/\st p.1=none)->(x.pre.map (·.1)).Nodup->
  (∀ p∈X,s.heap.get? p.1=some p.2/\st p.1=none)->(X.map (·.1)).Nodup->(∀ p∈x.pre,∀ q∈X,p.1≠q.1)->need X->
  (∀ (nw:Nat->Addr)(tks:Nat->Tok)(h':Heap)(t':Nat)(L:List AO),Be s.heap h'->
   (∀ b o,s.heap.get? b=some o->(∀ p∈x.upd,p.1≠b)->h'.get? b=some o)->(∀ p∈Ce x.upd (cut x.nt tks),h'.get? p.1=some p.2)->
   (∀ p∈x.post (cut x.n nw) (cut x.nt tks)++L,h'.get? p.1=some p.2/\s.heap.get? p.1=none)->((x.post (cut x.n nw) (cut x.nt tks)++L).map (·.1)).Nodup->also (cut x.n nw) (cut x.nt tks) L->
   codeAny (model prog w) (Ac5 inn A x.code) (cc (cut x.n nw) (cut x.nt tks)) (match inn with
    | false=>R
    | true=>λr s'=>∃ ev,r=.error (.ref ev)/\R (.error (.ref ev)) s') { s with heap:=h',toks:=t' })->
  wpOwn (model prog w) A x.code t (plus (postC prog w A R)) (postE R) s
noncomputable def Ow(V:SV)(x:Con)(t:Sem Fin)(cc:(Nat->Addr)->(Nat->Tok)->Code)(inn:Bool)(n q:Nat)(K:List Ent)(σ τ:List Nat)(al:Nat->Addr)(tk:Nat->Tok)(ev:Addr):Out:=
 (run V al tk n x.code .base t K 0 0 q).endC (Te V x cc inn (λj=>al (nthD σ j)) (λj=>letT al tk (nthD τ j)) ev)
theorem Nf{V:SV}{R₀:Result->Shared->Prop}{W:List Addr}{h₀:Heap}{g:Array GenState}{d:Drawn}{os:OsState}{F:List AO->Prop}{f:Addr->Code->Ko->List Ent->Nat->Out}
  (hf:∀ c κ K q E X N,(∀ ev,f ev c κ K q=(f ev c κ K q).toE .done E)->Ch F E X N->∀ h t,Rep V.stat W h₀ h K X N->codeAny (model prog V.w) (Bu V.A₀ κ) c (endK V R₀ κ) ⟨h,g,d,t,os⟩) :
  ∀ (o:Out)(E:List Ev)(X N:List AO),(∀ ev,o.endC (f ev)=(o.endC (f ev)).toE .done E)->Ch F E X N->Good V R₀ W h₀ g d os X N o
 | .nil (.cut c κ K m i q),E,X,N,e,c'=>hf c κ K q E X N e c'
 | .nil (.fin ..),E,X,N,e,_=>(Dl (n:=71) (e 0)).elim
 | .nil (.stuck n),E,X,N,e,_=>(Dl (n:=n) (e 0)).elim
 | .nil .done,E,X,N,e,_=>(Dl (n:=71) (e 0)).elim
 | .nil .bad,E,X,N,e,_=>(Dl (n:=71) (e 0)).elim
 | .cons i r,E,X,N,e,c=>by
  have e:∀ ev,Out.cons i (r.endC (f ev))=(Out.cons i (r.endC (f ev))).toE .done E:=e
  cases hi:i.isE with
  | false=>
   have e2:∀ ev,i=i.diag/\r.endC (f ev)=(r.endC (f ev)).toE .done E:=λev=>by
    have z:=e ev
    rw [Zl hi] at z
    injection z with z1 z2
    exact ⟨z1,z2⟩
   have h:=Nf hf r E X N (λev=>(e2 ev).2) c
   have ok:=It.ok_of (e2 0).1
   cases i<;>first|exact ⟨ok,h⟩|cases hi
  | true=>
   cases i with
   | e nd al=>
    cases E with
    | nil=>have z:Out.cons _ _=Out.nil .bad:=e 0;cases z
    | cons v E=>
     have e2:∀ ev,It.e nd al=.e v.1 v.2/\r.endC (f ev)=(r.endC (f ev)).toE .done E:=λev=>by
      have z:Out.cons (.e nd al) (r.endC (f ev))=.cons (.e v.1 v.2) ((r.endC (f ev)).toE .done E):=e ev
      injection z with z1 z2
      exact ⟨z1,z2⟩
     have e1:=(e2 0).1
     injection e1 with e3 e4
     subst e3 e4
     exact ⟨c.1,λL hL=>Nf hf r E _ _ (λev=>(e2 ev).2) (c.2 L hL)⟩
   | _=>cases hi
theorem Agn{E:List Ev}(e:Out.nil .done=(Out.nil .done).toE .done E):E=[]:=by
 cases E with
 | nil=>rfl
 | cons=>have e:Out.nil .done=.nil .bad:=e;injection e with e;cases e
theorem Abn{V:SV}{x:Con}{cc:(Nat->Addr)->(Nat->Tok)->Code}{inn:Bool}{nw:Nat->Addr}{tks:Nat->Tok}{c:Code}{κ:Ko}{K:List Ent}{q:Nat}{E:List Ev}(hn:(K.map (·.a)).Nodup)
  (e:∀ ev,Te V x cc inn nw tks ev c κ K q=(Te V x cc inn nw tks ev c κ K q).toE .done E) :
  (E=[]/\c=cc (cut x.n nw) (cut x.nt tks)/\(∀ p∈Ce x.upd (cut x.nt tks),∃ e∈K,p=(e.a,e.o))/\(∀ p∈x.post (cut x.n nw) (cut x.nt tks),∃ e∈K,p=(e.a,e.o)/\e.f=true)/\((x.post (cut x.n nw) (cut x.nt tks)).map (·.1)).Nodup)/\
  match inn with
  | false=>κ=.base
  | true=>∃ hd k,hd=none/\κ=.ret x.code hd k .base/\∀ ev,errT V 40 (k (.error (.ref ev)))=some (.ref ev):=by
 have stop:∀ {n:Nat},(∀ ev:Addr,stuck n=(stuck n).toE .done E)->False:=λz=>Dl (z 0)
 unfold Te at e
 cases h0:Gm c (cc (cut x.n nw) (cut x.nt tks)) with
 | none=>simp only [h0] at e;exact (stop e).elim
 | some l0=>
  simp only [h0] at e
  cases h1:Ds (Ce x.upd (cut x.nt tks)) K q with
  | none=>simp only [h1] at e;exact (stop e).elim
  | some l=>
   simp only [h1] at e
   cases h2:Fb (x.post (cut x.n nw) (cut x.nt tks)) K (adv x.upd.length q) with
   | none=>simp only [h2] at e;exact (stop e).elim
   | some l'=>
    simp only [h2] at e
    cases h3:Ea (digs (x.post (cut x.n nw) (cut x.nt tks)).length (adv x.upd.length q)) with
    | false=>simp only [h3] at e;exact (stop e).elim
    | true=>
     simp only [h3] at e
     have tail:conses l0 (conses l (conses l' (.nil .done)))=(conses l0 (conses l (conses l' (.nil .done)))).toE .done E->
       E=[]/\c=cc (cut x.n nw) (cut x.nt tks)/\(∀ p∈Ce x.upd (cut x.nt tks),∃ e∈K,p=(e.a,e.o))/\(∀ p∈x.post (cut x.n nw) (cut x.nt tks),∃ e∈K,p=(e.a,e.o)/\e.f=true)/\((x.post (cut x.n nw) (cut x.nt tks)).map (·.1)).Nodup:=λz=>by
      obtain ⟨g0,z⟩:=Gc (Hp h0) z
      obtain ⟨g1,z⟩:=Gc (Dc h1) z
      obtain ⟨g2,z⟩:=Gc (Dc (Fa h2)) z
      exact ⟨Agn z,Pm h0 g0,He h1 g1,Kq h2 g2,Jr hn (Fa h2) g2 h3⟩
     cases inn with
     | false=>
      cases κ with
      | base=>exact ⟨tail (e 0),rfl⟩
      | ret=>exact (stop e).elim
     | true=>
      cases κ with
      | base=>exact (stop e).elim
      | ret c1 hd k κ'=>
       cases κ' with
       | ret=>exact (stop e).elim
       | base=>
        cases hd with
        | some _=>exact (stop e).elim
        | none=>
         dsimp only at e
         have key:∀ ev,∃ v,errT V 40 (k (.error (.ref ev)))=some v/\c1=x.code/\v=.ref ev/\conses l0 (conses l (conses l' (.nil .done)))=(conses l0 (conses l (conses l' (.nil .done)))).toE .done E:=λev=>by
          have z:=e ev
          cases h4:errT V 40 (k (.error (.ref ev))) with
          | none=>simp only [h4] at z;exact (Dl z).elim
          | some v=>
           simp only [h4] at z
           have z:Out.cons (.c c1 x.code) (.cons (.r (.error v) (.error (.ref ev))) (conses l0 (conses l (conses l' (.nil .done)))))=.cons (It.diag (.c c1 x.code)) (.cons (It.diag (.r (.error v) (.error (.ref ev)))) ((conses l0 (conses l (conses l' (.nil .done)))).toE .done E)):=z
           injection z with z1 z2
           injection z2 with z3 z4
           have z5:c1=x.code:=It.ok_of z1
           have z6:(Except.error v:Result)=.error (.ref ev):=It.ok_of z3
           injection z6 with z6
           exact ⟨v,rfl,z5,z6,z4⟩
         obtain ⟨_,_,k1,_,k2⟩:=key 0
         subst k1
         refine ⟨tail k2,none,k,rfl,rfl,λev=>?_⟩
         obtain ⟨v,h5,_,h6,_⟩:=key ev
         rw [h5,h6]
theorem Ae5{w:World}{st:Nat->Option Obj}{cons:List CF}{den:Code->Sem Fin}{ct:Addr->FuncData->Args->Sem Fin}(x:Con)(t:Sem Fin)(cc:(Nat->Addr)->(Nat->Tok)->Code)(inn:Bool)(need:List AO->Prop)(also:AL)
  (K:List Ent)(n q:Nat)(σ τ:List Nat)(E:EF)
  (hden:den=denote table)(hct:ct=Eb)(hlim:∀ h,Stat st h->h.NoLimit)(hcons:∀ f∈cons,∀ a t c,(f a t c).Valid w st)
  (hK:K.map (λe=>(e.a,e.o))=x.pre)(hw:∀ e∈K,e.w=true->e.a∈x.upd.map (·.1))(hf:∀ e∈K,e.f=false)
  (hrun:∀ dp fr gd un al tk ev,Ow ⟨w,⟨none,dp,fr,gd,un⟩,x.deep,st,cons,den,ct⟩ x t cc inn n q K σ τ al tk ev=(Ow ⟨w,⟨none,dp,fr,gd,un⟩,x.deep,st,cons,den,ct⟩ x t cc inn n q K σ τ al tk ev).toE .done (E al tk))
  (hfin:∀ al tk X,need X->Ch (also (cut x.n λj=>al (nthD σ j)) (cut x.nt λj=>letT al tk (nthD τ j))) (E al tk) X []) :
  Rg w st x t cc inn need also:=by
 intro A s R X hn hdep hst hpre hnod hX hXn hap hnd hR
 obtain ⟨hd,dp,fr,gd,un⟩:=A
 obtain ⟨h,g,d,ts,os⟩:=s
 have hn:hd=none:=hn
 subst hn
 let V:SV:=⟨w,⟨none,dp,fr,gd,un⟩,x.deep,st,cons,den,ct⟩
 have O:V.Ok:=⟨hden,hct,hlim,hdep,hcons⟩
 have D:=Hd (st:=st) hst hpre hnod hX hXn hap hK hw hf
 refine Fv (V:=V) (R₀:=R) (W:=x.upd.map (·.1)) (h₀:=h) (g:=g) (d:=d) (os:=os) O n X [] x.code .base t K 0 0 q (λ_=>0) (λ_=>0) h ts (λal' tk' _ _=>?_) D
 refine Nf (F:=also (cut x.n λj=>al' (nthD σ j)) (cut x.nt λj=>letT al' tk' (nthD τ j))) (f:=λev=>Te V x cc inn (λj=>al' (nthD σ j)) (λj=>letT al' tk' (nthD τ j)) ev) (λc' κ K' q' E' X' N' e c h' t' D'=>?_) _ (E al' tk') X [] (λev=>hrun dp fr gd un al' tk' ev) (hfin al' tk' X hnd)
 obtain ⟨⟨e0,e1,e2,e3,e4⟩,e5⟩:=Abn D'.nod e
 subst e0
 rw [e1]
 obtain ⟨r1,r2,r3,r4⟩:=Mt D' e2 e3 e4
 have z:=hR (λj=>al' (nthD σ j)) (λj=>letT al' tk' (nthD τ j)) h' t' N' D'.size r1 r2 r3 r4 c
 cases inn with
 | false=>
  have e5:κ=.base:=e5
  subst e5
  exact z
 | true=>
  obtain ⟨hd,k,h1,h2,h3⟩:=e5
  subst h1 h2
  refine codeAny_mono z λr s' hr=>?_
  obtain ⟨ev,h4,h5⟩:=hr
  subst h4
  exact Gb 40 _ _ (h3 ev) h5
structure FlyP where
 h₀:Heap
 e:Addr
 cls:Value
 dict:Option Addr
 sl:Array (Option Value)
 fs:List Addr
 la:Addr
 lo:Nat->Obj
noncomputable def FlyP.exc(P:FlyP)(vs:Array Value):Obj:={ cls:=P.cls,dict:=P.dict,data:=.fields vs,slots:=P.sl }
noncomputable def Tr(P:FlyP)(h:Heap)(vs:Array Value):Option Value->Prop
 | none=>vs[1]?=some .none
 | some v=>∃ T oT ts,vs[1]?=some (.ref T)/\P.h₀.get? T=none/\T≠P.e/\h.get? T=some oT/\oT.data=.fields ts/\ts[3]?=some v
structure Fly (P:FlyP)(fl:Option Value)(h:Heap):Prop where
 old:∀ b o,P.h₀.get? b=some o->b≠P.e->b∉P.fs->h.get? b=some o
 frs:∀ b∈P.fs,∀ o,P.h₀.get? b=some o->∃ sl,h.get? b=some { o with slots:=sl }
 exc:∃ vs,h.get? P.e=some (P.exc vs)/\Tr P h vs fl
 law:∃ t,h.get? P.la=some (P.lo t)
noncomputable def Ix(env:Env)(back:Value)(sl:Array (Option Value)):Array (Option Value):=
 #[some env.code,some (.ref env.globals),sl.getD 2 none,some back,sl.getD 4 none,env.func.map Value.ref,some (.ref env.builtins)]++(env.cells.map λc=>some (.ref c.2)).toArray
structure Af9 (P:FlyP)(env:Env):Prop where
 fr:env.frame=some P.la
 lo:∀ t back,back=.none\/back=.notImplemented->∃ t',{ P.lo t with slots:=Ix env back (P.lo t).slots }=P.lo t'
 nf:∀ t vs,(P.lo t).data≠.fields vs
structure FrOk (P:FlyP)(l:List Env):Prop where
 fr:∀ env∈l,env.scope.kind≠.module/\∃ L o,env.frame=some L/\L∈P.fs/\P.h₀.get? L=some o/\∀ vs,o.data≠.fields vs
 last:∃ l₀ envL,l=l₀++[envL]/\Af9 P envL/\∀ env∈l₀,env.frame≠some P.la
theorem FrOk.tail{P:FlyP}{env env':Env}{l:List Env}(h:FrOk P (env::env'::l)):FrOk P (env'::l):=by
 refine ⟨λx hx=>h.fr x (.tail _ hx),?_⟩
 obtain ⟨l₀,envL,e,h1,h2⟩:=h.last
 cases l₀ with
 | nil=>cases e
 | cons y l₀=>
  injection e with e1 e2
  exact ⟨l₀,envL,e2,h1,λx hx=>h2 x (.tail _ hx)⟩
noncomputable def Sn:Heap:={ objs:=#[] }
theorem Yc(b:Addr):Sn.get? b=none:=by
 cases q:Sn.get? b with
 | none=>rfl
 | some o=>exact absurd (Heap.lt_size q) (Nat.not_lt_zero _)
theorem Fly.fun{P:FlyP}{fl:Option Value}{h:Heap}(F:Fly P fl h):∀ {l:List Env},(∀ env∈l,env.scope.kind≠.module/\∃ L o,env.frame=some L/\L∈P.fs/\P.h₀.get? L=some o/\∀ vs,o.data≠.fields vs)->h.FunFrames Sn l
 | [],_=>trivial
 | env::l,hl=>by
  obtain ⟨h1,L,o,h2,h3,h4,h5⟩:=hl env (.head _)
  obtain ⟨sl,h6⟩:=F.frs L h3 o h4
  exact ⟨h1,⟨L,_,h2,Yc L,h6,h5⟩,F.fun λx hx=>hl x (.tail _ hx)⟩
section
variable {M:Model}{A:Around}{E:Value->Shared->Prop}{s:Shared}
theorem Sv{env:Env}{Q:Value->Shared->Prop}(h:∀ v,v=.none\/v=.notImplemented->Q v s):wpAny M A (keptBack env false []) Q E s:=by
 simp only [keptBack]
 split
 ·exact wpAny_pure (h _ (.inl rfl))
 ·refine wpAny_bind (wpAny_underTheClaimsCaller λb=>wpAny_pure ?_)
  cases b
  ·exact h _ (.inl rfl)
  ·exact h _ (.inr rfl)
theorem Aa4{P:FlyP}{envL:Env}(hL:Af9 P envL):∀ {l₀:List Env}{s:Shared}{Q:Unit->Shared->Prop},s.heap.FunFrames Sn (l₀++[envL])->(∀ env∈l₀,env.frame≠some P.la)->(∃ t,s.heap.get? P.la=some (P.lo t))->
  (∀ h',Heap.SlotsOnly ((l₀++[envL]).filterMap (·.frame)) s.heap h'->(∃ t,h'.get? P.la=some (P.lo t))->Q () { s with heap:=h' })->wpAny M A (readyFrames (l₀++[envL])) Q E s:=by
 intro l₀
 induction l₀ with
 | nil=>
  intro s Q hl _ ht h
  obtain ⟨t,ht⟩:=ht
  obtain ⟨hk,⟨L,o,hf,hn,ho,hd⟩,hr⟩:=hl
  have hf2:=hL.fr
  rw [hf] at hf2
  injection hf2 with hf2
  subst hf2
  rw [ho] at ht
  injection ht with ht
  subst ht
  simp only [List.nil_append,List.filterMap_cons,hf,List.filterMap_nil] at h
  simp only [List.nil_append,readyFrames,hf]
  refine wpAny_bind (wpAny_load ho ?_)
  by_cases hrd:(((P.lo t).slots.getD 3 none).isSome)=true
  ·rw [if_pos hrd];exact wpAny_pure (h _ (.refl ..) ⟨t,ho⟩)
  ·rw [if_neg hrd]
   refine wpAny_bind (wpAny_of_eq (a:=false) (by simp [behindIsImport,hk]) ?_)
   refine wpAny_bind (Sv λback hb=>?_)
   have hu:=Heap.SlotsOnly.update ho (λo=>Ix envL back o.slots)
   refine wpAny_bind (wpAny_update ho (wpAny_pure (h _ hu ?_)))
   obtain ⟨t',e⟩:=hL.lo t back hb
   refine ⟨t',?_⟩
   rw [←e]
   refine Heap.get?_update_self _ ho ?_
   have hx:=(Heap.get?_some_iff.mp ho).2
   revert hx
   rcases P.lo t with ⟨c,d,dt,s0⟩
   cases dt<;>first|(intro _;rfl)|(intro hx;simp [Obj.isFreed] at hx)
 | cons env l₀ ih=>
  intro s Q hl hne ht h
  obtain ⟨hk,⟨L,o,hf,hn,ho,hd⟩,hr⟩:=hl
  simp only [List.cons_append,List.filterMap_cons,hf] at h
  simp only [List.cons_append,readyFrames,hf]
  refine wpAny_bind (wpAny_load ho ?_)
  by_cases hrd:((o.slots.getD 3 none).isSome)=true
  ·rw [if_pos hrd];exact wpAny_pure (h _ (.refl ..) ht)
  ·rw [if_neg hrd]
   refine wpAny_bind (wpAny_of_eq (a:=false) (by simp [behindIsImport,hk]) ?_)
   refine wpAny_bind (wpAny_keptBack_false λback=>?_)
   refine wpAny_bind (wpAny_update ho ?_)
   have hu:=Heap.SlotsOnly.update ho (λo=>Ix env back o.slots)
   have hla:P.la≠L:=λz=>hne env (.head _) (by rw [hf,z])
   refine ih (hr.of_slotsOnly hu) (λx hx=>hne x (.tail _ hx)) ?_ λh' hs' ht'=>?_
   ·obtain ⟨t,ht⟩:=ht
    exact ⟨t,(hu.2.1 P.la λz=>hla (msp z)).trans ht⟩
   ·exact h h' ((hu.mono λb hb=>List.mem_cons.mpr (Or.inl (msp hb))).trans (hs'.mono λb hb=>List.mem_cons_of_mem _ hb)) ht'
theorem Uq{P:FlyP}{env:Env}{outer:List Env}{L:Addr}{Q:Value->Shared->Prop}(hfr:A.frames=some (env::outer))(hl:s.heap.FunFrames Sn (env::outer))(hP:FrOk P (env::outer))(ht:∃ t,s.heap.get? P.la=some (P.lo t))
  (hf:env.frame=some L)(h:∀ h',Heap.SlotsOnly ((env::outer).filterMap (·.frame)) s.heap h'->(∃ t,h'.get? P.la=some (P.lo t))->Q (.ref L) { s with heap:=h' }):wpAny M A (PySem.frameOf env) Q E s:=by
 unfold PySem.frameOf
 refine wpAny_bind (wpAny_frameEnvs hfr ?_)
 have hdw:((env::outer).dropWhile λx=>x.frame != env.frame)=env::outer:=by simp [List.dropWhile]
 rw [hdw]
 unfold frameObject
 obtain ⟨l₀,envL,e,h1,h2⟩:=hP.last
 refine wpAny_bind (wpAny_bind ?_)
 rw [e] at hl h ⊢
 refine Aa4 h1 hl h2 ht λh₁ hs₁ ht₁=>wpAny_pure ?_
 have e3:(match (l₀++[envL]:List Env) with|[]=>(none:Option Value)|env::_=>env.frame.map Value.ref)=some (.ref L):=by rw [←e];show env.frame.map Value.ref=_;rw [hf];rfl
 rw [hf]
 exact wpAny_pure (h h₁ hs₁ ht₁)
structure FlyP.Ok (P:FlyP):Prop where
 ne:P.e∉P.fs
 had:∀ b∈P.fs,∃ o,P.h₀.get? b=some o
 la:P.la∈P.fs
theorem Fly.kept{P:FlyP}{fl:Option Value}{h:Heap}(F:Fly P fl h){b:Addr}{o:Obj}(hb:P.h₀.get? b=some o):∃ o',h.get? b=some o':=by
 by_cases h1:b=P.e
 ·obtain ⟨vs,he,_⟩:=F.exc
  exact ⟨_,h1▸he⟩
 ·by_cases h2:b∈P.fs
  ·obtain ⟨sl,h3⟩:=F.frs b h2 o hb
   exact ⟨_,h3⟩
  ·exact ⟨o,F.old b o hb h1 h2⟩
theorem Tr.size{P:FlyP}{h:Heap}{vs:Array Value}{fl:Option Value}(t:Tr P h vs fl):1 < vs.size:=by
 cases fl with
 | none=>exact (Array.getElem?_eq_some_iff.mp t).1
 | some v=>
  obtain ⟨T,oT,ts,h1,_⟩:=t
  exact (Array.getElem?_eq_some_iff.mp h1).1
theorem Sy{P:FlyP}{env:Env}{outer:List Env}{L:Addr}{fl:Option Value}{head:Value}{hadNext:Bool}{Q:Unit->Shared->Prop}(O:P.Ok)(hfr:A.frames=some (env::outer))(hP:FrOk P (env::outer))(hf:env.frame=some L)(F:Fly P fl s.heap)
  (h:∀ h',Fly P (some (rawInt L)) h'->Q () { s with heap:=h' }) :
  wpAny M A (do let a←PySem.frameOf env;let pl←entryPlaceOf L hadNext;let b←EntryCells.newEntry head a .none (rawInt L) .none pl;setField (.ref P.e) 1 b) Q E s:=by
 obtain ⟨vs,he,tr⟩:=F.exc
 have hsz:=tr.size
 have sub:∀ b∈(env::outer).filterMap (·.frame),b∈P.fs:=λb hb=>by
  obtain ⟨x,hx,hxf⟩:=List.mem_filterMap.mp hb
  obtain ⟨_,L',_,h1,h2,_⟩:=hP.fr x hx
  rw [hxf] at h1
  injection h1 with h1
  rw [h1];exact h2
 refine wpAny_bind (Uq hfr (F.fun hP.fr) hP F.law hf λh₁ hs₁ ht₁=>?_)
 refine wpAny_bind (wpAny_entryPlaceOf λpl hpl=>?_)
 unfold EntryCells.newEntry newFields
 refine wpAny_bind (wpAny_newObj_type ?_ (hpl.sizeOk5 _ _ _ _ _))
 have he₁:h₁.get? P.e=some (P.exc vs):=(hs₁.2.1 P.e λz=>O.ne (sub _ z)).trans he
 have he₂:=Heap.get?_push_of_some (h:=h₁) { cls:=.type "traceback",dict:=none,data:=.fields ([head,.ref L,.none,rawInt L,.none]++(if pl.isEmpty then List.replicate 6 Value.none else pl)).toArray } he₁
 refine wpAny_setField he₂ (vs:=vs) rfl hsz (h _ ?_)
 have hTe:h₁.objs.size≠P.e:=Nat.ne_of_gt (Heap.lt_size he₁)
 have keep:∀ {b o},b≠P.e->h₁.get? b=some o->
   ((h₁.push { cls:=.type "traceback",dict:=none,data:=.fields ([head,.ref L,.none,rawInt L,.none]++(if pl.isEmpty then List.replicate 6 Value.none else pl)).toArray }).update P.e (Obj.mapFields (·.setIfInBounds 1 (Value.ref h₁.objs.size)))).get? b=some o:=
  λhbe hb=>by
   rw [Heap.get?_update_other _ _ (Ne.symm hbe)]
   exact Heap.get?_push_of_some _ hb
 have fresh:P.h₀.get? h₁.objs.size=none:=by
  cases q:P.h₀.get? h₁.objs.size with
  | none=>rfl
  | some o=>
   obtain ⟨o',h1⟩:=F.kept q
   obtain ⟨sl,h2⟩:=hs₁.2.2 _ _ h1
   exact absurd (Heap.lt_size h2) (Nat.lt_irrefl _)
 have ne:∀ {b},b∈P.fs->b≠P.e:=λhb z=>O.ne (z▸hb)
 have h3:(([head,.ref L,.none,rawInt L,.none]++(if pl.isEmpty then List.replicate 6 Value.none else pl)).toArray)[3]?=some (rawInt L):=by rw [List.getElem?_toArray];rfl
 refine ⟨λb o hb hbe hbf=>keep hbe ((hs₁.2.1 b λz=>hbf (sub b z)).trans (F.old b o hb hbe hbf)),λb hb o hbo=>?_,⟨vs.setIfInBounds 1 (.ref h₁.objs.size),?_,h₁.objs.size,{ cls:=.type "traceback",dict:=none,data:=.fields ([head,.ref L,.none,rawInt L,.none]++(if pl.isEmpty then List.replicate 6 Value.none else pl)).toArray },([head,.ref L,.none,rawInt L,.none]++(if pl.isEmpty then List.replicate 6 Value.none else pl)).toArray,by simp [hsz],fresh,hTe,?_,rfl,h3⟩,?_⟩
 ·obtain ⟨sl,h1⟩:=F.frs b hb o hbo
  obtain ⟨sl',h2⟩:=hs₁.2.2 _ _ h1
  exact ⟨sl',keep (ne hb) h2⟩
 ·exact Heap.get?_update_self (Obj.mapFields (·.setIfInBounds 1 (Value.ref h₁.objs.size))) he₂ rfl
 ·rw [Heap.get?_update_other _ _ (Ne.symm hTe)]
  exact Heap.get?_push_size h₁ rfl
 ·obtain ⟨t,h1⟩:=ht₁
  exact ⟨t,keep (ne O.la) h1⟩
theorem Fly.set3{P:FlyP}{h:Heap}{vs ts:Array Value}{T:Addr}{oT:Obj}(O:P.Ok){fl:Option Value}(F:Fly P fl h)(he:h.get? P.e=some (P.exc vs))(h1:vs[1]?=some (.ref T))(h2:P.h₀.get? T=none)(h3:T≠P.e)(h4:h.get? T=some oT)(h5:oT.data=.fields ts)(h6:3 < ts.size)(v:Value) :
  Fly P (some v) (h.update T (Obj.mapFields (·.setIfInBounds 3 v))):=by
 have other:∀ {b},b≠T->(h.update T (Obj.mapFields (·.setIfInBounds 3 v))).get? b=h.get? b:=λhb=>Heap.get?_update_other _ _ (Ne.symm hb)
 have nf:T∉P.fs:=λz=>by
  obtain ⟨o,ho⟩:=O.had T z
  rw [h2] at ho;cases ho
 refine ⟨λb o hb hbe hbf=>(other λz=>by rw [z,h2] at hb;cases hb).trans (F.old b o hb hbe hbf),λb hb o hbo=>?_,⟨vs,(other (Ne.symm h3)).trans he,T,_,_,h1,h2,h3,Heap.get?_update_self _ h4 (Obj.isFreed_of_fields (Obj.data_mapFields h5 _)),Obj.data_mapFields h5 _,by simp [h6]⟩,?_⟩
 ·obtain ⟨sl,h7⟩:=F.frs b hb o hbo
  exact ⟨sl,(other λz=>nf (z▸hb)).trans h7⟩
 ·obtain ⟨t,h7⟩:=F.law
  exact ⟨t,(other λz=>nf (z▸O.la)).trans h7⟩
theorem Fy{P:FlyP}{v:Value}{f:Option Addr}{Q:Unit->Shared->Prop}(O:P.Ok)(F:Fly P (some v) s.heap)(h:∀ h',Fly P (some (f.elim .none λf=>rawInt f)) h'->Q () { s with heap:=h' }):wpAny M A (setFlight (.ref P.e) f) Q E s:=by
 obtain ⟨vs,he,T,oT,ts,h1,h2,h3,h4,h5,h6⟩:=F.exc
 have hsz:=(Array.getElem?_eq_some_iff.mp h6).1
 unfold setFlight
 refine wpAny_bind (wpAny_field he (vs:=vs) rfl h1 ?_)
 rw [if_pos (show (Value.ref T != Value.none)=true from by simp)]
 exact wpAny_setField h4 h5 hsz (h _ (F.set3 O he h1 h2 h3 h4 h5 hsz _))
theorem Adv{P:FlyP}{v:Value}{env:Env}{L:Addr}(O:P.Ok)(hf:env.frame=some L)(F:Fly P (some v) s.heap)(h:∀ h',Fly P (some (rawInt L)) h'->E (.ref P.e) { s with heap:=h' }):cameBackBy M A env E (.ref P.e) s:=by
 unfold cameBackBy
 obtain ⟨vs,he,T,oT,ts,h1,h2,h3,h4,h5,h6⟩:=F.exc
 refine wpAny_bind (wpAny_field he (vs:=vs) rfl h1 ?_)
 rw [if_neg (show ¬ (Value.ref T == Value.none)=true from by simp)]
 rw [hf]
 first
  | exact Fy O F h
  | exact wpAny_bind (wpAny_pure (Fy O F h))
theorem Rb{P:FlyP}{env:Env}{outer:List Env}{L:Addr}{fl:Option Value}{Q:Unit->Shared->Prop}(O:P.Ok)(hfr:A.frames=some (env::outer))(hP:FrOk P (env::outer))(hf:env.frame=some L)(hfl:fl=none\/fl=some .none\/fl=some (rawInt L))(F:Fly P fl s.heap)
  (h:∀ h',Fly P (some (rawInt L)) h'->Q () { s with heap:=h' }):wpAny M A (noteFrame (.ref P.e) env) Q E s:=by
 unfold noteFrame
 simp only [hf]
 rcases hfl with rfl|rfl|rfl
 ·obtain ⟨vs,he,h1⟩:=F.exc
  refine wpAny_bind (wpAny_field he (vs:=vs) rfl h1 ?_)
  rw [if_neg (by decide)]
  exact Sy O hfr hP hf F h
 ·obtain ⟨vs,he,T,oT,ts,h1,h2,h3,h4,h5,h6⟩:=F.exc
  have hsz:=(Array.getElem?_eq_some_iff.mp h6).1
  refine wpAny_bind (wpAny_field he (vs:=vs) rfl h1 ?_)
  rw [if_pos (show (Value.ref T != Value.none)=true from by simp)]
  refine wpAny_bind (wpAny_field h4 h5 h6 ?_)
  rw [if_neg (show ¬ ((Value.none == rawInt L)=true) from by simp [rawInt])]
  refine wpAny_bind (wpAny_setField h4 h5 hsz ?_)
  exact Sy O hfr hP hf (F.set3 O he h1 h2 h3 h4 h5 hsz .none) h
 ·obtain ⟨vs,he,T,oT,ts,h1,h2,h3,h4,h5,h6⟩:=F.exc
  refine wpAny_bind (wpAny_field he (vs:=vs) rfl h1 ?_)
  rw [if_pos (show (Value.ref T != Value.none)=true from by simp)]
  refine wpAny_bind (wpAny_field h4 h5 h6 ?_)
  rw [if_pos (show (rawInt L == rawInt L)=true from by first|(simp;done)|exact beq_self_eq_true _)]
  exact wpAny_pure (h _ F)
theorem Hl{P:FlyP}{env:Env}{outer:List Env}{L:Addr}{fl:Option Value}{Q:Unit->Shared->Prop}(O:P.Ok)(hfr:A.frames=some (env::outer))(hP:FrOk P (env::outer))(hf:env.frame=some L)(hfl:fl=none\/fl=some .none\/fl=some (rawInt L))(F:Fly P fl s.heap)
  (h:∀ h',Fly P (some .none) h'->Q () { s with heap:=h' }):wpAny M A (leaving env (.ref P.e)) Q E s:=by
 unfold leaving
 refine wpAny_bind (Rb O hfr hP hf hfl F λh' F'=>?_)
 exact Fy O F' h
theorem Aba{P:FlyP}{env:Env}{outer:List Env}{L:Addr}{fl:Option Value}(O:P.Ok)(hfr:A.frames=some (env::outer))(hP:FrOk P (env::outer))(hf:env.frame=some L)(hfl:fl=none\/fl=some .none\/fl=some (rawInt L))(F:Fly P fl s.heap)
  (h:∀ h',Fly P (some (rawInt L)) h'->E (.ref P.e) { s with heap:=h' }):notedBy M A env E (.ref P.e) s:=
 Rb O hfr hP hf hfl F h
end
section
variable {M:Model}{A:Around}{E:Value->Shared->Prop}{s:Shared}{c:Code}
theorem Jm{α:Type}{m:Sem α}{Q:Except Value α->Shared->Prop}(h:wpOwn M A c m (λa=>Q (.ok a)) (λe=>Q (.error e)) s) :
  wpOwn M A c m.attempt Q E s:=λΓ p hc hΓ=>by rw [Sem.wp_attempt];exact h Γ p hc hΓ
theorem Jl{α:Type}{m:Sem α}{k:Value->Sem Unit}{Q:α->Shared->Prop}
  (h:wpOwn M A c m Q (λe s'=>wpOwn M A c (k e) (λ_ s''=>E e s'') E s') s):wpOwn M A c (m.onRaise k) Q E s:=λΓ p hc hΓ=>by
 rw [Sem.wp_onRaise]
 exact Sem.wp_mono M Γ m (λ_ _ _ h'=>h') (λe p' s' h'=>h' Γ p' hc hΓ) p s (h Γ p hc hΓ)
theorem Du{α:Type}{a:α}{Q:α->Shared->Prop}(h:Q a s):wpOwn M A c (pure a) Q E s:=λ_ _ _ _=>h
theorem Cb{x:Stmt}{r:List Stmt}{env:Env}{Q:Flow->Shared->Prop}
  (h:wpOwn M A c (exec x env) (λf s'=>match f with|.next=>wpOwn M A c (execs r env) Q E s'|f=>Q f s') E s):wpOwn M A c (execs (x::r) env) Q E s:=by
 rw [execs_cons]
 refine wpOwn_bind (wpOwn_mono h (λf s' h'=>?_) λ_ _ h'=>h')
 cases f<;>first|exact h'|exact Du h'
theorem Lc{M:Model}{Γ:PySem.Ctx}{r:List Stmt}{env:Env}{Q:Flow->Pos->Shared->Prop}{E:Value->Pos->Shared->Prop}:∀ (l:List Stmt)(p:Pos)(s:Shared),
  Sem.wp M Γ (execs l env) (λf p s=>match f with|.next=>Sem.wp M Γ (execs r env) Q E p s|f=>Q f p s) E p s->Sem.wp M Γ (execs (l++r) env) Q E p s
 | [],p,s,h=>h
 | x::l,p,s,h=>by
  rw [List.cons_append,execs_cons,Sem.wp_bind']
  rw [execs_cons,Sem.wp_bind'] at h
  refine Sem.wp_mono M Γ _ (λf p s h=>?_) (λ_ _ _ h=>h) _ _ h
  cases f<;>first|exact Lc l p s h|exact h
theorem Gz{l r:List Stmt}{env:Env}{Q:Flow->Shared->Prop}
  (h:wpOwn M A c (execs l env) (λf s'=>match f with|.next=>wpOwn M A c (execs r env) Q E s'|f=>Q f s') E s):wpOwn M A c (execs (l++r) env) Q E s:=by
 intro Γ p hc hΓ
 refine Lc l p s (Sem.wp_mono M Γ _ (λf p s h=>?_) (λ_ _ _ h=>h) _ _ (h Γ p hc hΓ))
 cases f<;>first|exact (h:wpOwn M A c (execs r env) Q E s) Γ p hc hΓ|exact h
end
section
variable {w:World}{A:Around}{E:Value->Shared->Prop}{R₁:Result->Shared->Prop}{s:Shared}
theorem Dh{c:Code}{l:List Stmt}{env:Env}(hu:Room A 1)(h:wpOwn (model prog w) A c (Cq l env) (plus (postC prog w A R₁)) (postE R₁) s) :
  wpOwn (model prog w) A c (execs l env) (λf s'=>R₁ (.ok f) s') (λe s'=>R₁ (.error e) s') s:=by
 intro Γ p hc hΓ
 have z:=h Γ p hc hΓ
 have hun:Γ.units < cLine:=by
  have h1:=(hc▸hΓ.in:Γ.In (A.under c)).2.2.2.2
  have h2:(A.under c).units<=A.units+uB c:=Nat.add_le_add_left (Hq _) _
  have h3:=hu.2
  have h4:uB c<=20:=by unfold uB;split<;>decide
  omega
 unfold Cq at z
 rw [←R.bindR_eq] at z
 have z:Sem.wp (model prog w) Γ (Jx l env >>= λf=>Sem.pure (Fin.done f)) _ _ p s:=z
 rw [Sem.wp_bind'] at z
 refine Sem.wp_mono (model prog w) Γ _ (λf p s h=>h.2) (λe p s h=>h) _ _ (Fz hun l env _ _ _ _ z)
theorem Jc{body:List Stmt}{env:Env}(h:wpOwn (model prog w) A (.func body env) (execs body env) (λf s'=>R₁ (.ok (.ret (match f with|.ret v=>v | _=>.none))) s')
   (λe s'=>wpAny (model prog w) (A.under (.func body env)) (leaving env e) (λ_ s''=>R₁ (.error e) s'') (λ_ _=>False) s') s):codeAny (model prog w) A (.func body env) R₁ s:=by
 refine codeAny_of_own ?_
 intro Γ p hc hΓ
 show Sem.wp (model prog w) Γ (do point;match←(execs body env).onRaise (leaving env) with|.ret v=>ret v | _=>ret .none) _ _ p s
 rw [Sem.wp_bind']
 show Sem.wp (model prog w) Γ ((execs body env).onRaise (leaving env) >>= _) _ _ p s
 rw [Sem.wp_bind',Sem.wp_onRaise]
 refine Sem.wp_mono (model prog w) Γ _ (λf p s h=>?_) (λe p s h=>?_) _ _ (h Γ p hc hΓ)
 ·cases f<;>exact h
 ·exact Sem.wp_mono (model prog w) Γ _ (λ_ _ _ h=>h) (λ_ _ _ h=>h.elim) _ _ (h Γ p (hc▸hΓ.in))
theorem Mv{c:Code}{test:Expr}{body orelse:List Stmt}{pos:Pos}{env:Env}{Q:Flow->Shared->Prop}
  (h:codeAny (model prog w) (A.under c) (.whileLoop test body orelse env) (λr s'=>match r with|.ok f=>Q f s'|.error e=>cameBackBy (model prog w) (A.under c) env E e s') s) :
  wpOwn (model prog w) A c (exec (.While test body orelse pos) env) Q E s:=wpOwn_of_wpAny (wpAny_While h)
theorem Pz{test:Expr}{body orelse:List Stmt}{env:Env}
  (h:wpOwn (model prog w) A (.whileLoop test body orelse env) (whileTurn test body orelse env) (λfin s'=>match fin with|.done f=>R₁ (.ok f) s'|.again c'=>c'.quiet=true/\codeAny (model prog w) A c' R₁ s')
   (notedBy (model prog w) (A.under (.whileLoop test body orelse env)) env λe s'=>R₁ (.error e) s') s):codeAny (model prog w) A (.whileLoop test body orelse env) R₁ s:=by
 refine codeAny_of_own ?_
 show wpOwn _ A _ ((whileTurn test body orelse env).onRaise (λx=>do noteFrame x env;theTreesLotGoes x)) _ _ s
 refine Jl (wpOwn_mono h (λ_ _ h=>h) λe s' h=>?_)
 exact wpOwn_of_wpAny (wpAny_bind (wpAny_mono h (λ_ _ h=>wpAny_theTreesLotGoes h) λ_ _ h=>h))
noncomputable def Xf(t:Sem Fin):Sem Fin:=R.bindR t λfin=>match fin with
 | .done f=>.pure (.done f)
 | .again _=>.unsupported ""
theorem Le{c:Code}{t:Sem Fin}(h:wpOwn (model prog w) A c (Xf t) (plus (postC prog w A R₁)) (postE R₁) s) :
  wpOwn (model prog w) A c t (λfin s'=>∃ f,fin=.done f/\R₁ (.ok f) s') (λe s'=>R₁ (.error e) s') s:=by
 intro Γ p hc hΓ
 have z:=h Γ p hc hΓ
 unfold Xf at z
 rw [←R.bindR_eq] at z
 have z:Sem.wp (model prog w) Γ (t >>= λfin=>_) _ _ p s:=z
 rw [Sem.wp_bind'] at z
 refine Sem.wp_mono (model prog w) Γ _ (λfin p s h=>?_) (λe p s h=>h) _ _ z
 cases fin with
 | done f=>exact ⟨f,rfl,h.2⟩
 | again c'=>exact absurd h (by exact λz=>z)
end
noncomputable abbrev OkC(w:World)(b:B3)(x:Con)(t:Sem Fin)(cc:(Nat->Addr)->(Nat->Tok)->Code)(inn:Bool)(need:List AO->Prop)(also:AL):Prop:=Rg (wZ w b) (Aa w.params) x t cc inn need also
theorem okC_of{cons:List CF}(x:Con)(t:Sem Fin)(cc:(Nat->Addr)->(Nat->Tok)->Code)(inn:Bool)(need:List AO->Prop)(also:AL)(K:List Ent)(n q:Nat)(σ τ:List Nat)(E:EF)(hcons:∀ f∈cons,∀ a t c,OkX w b (f a t c))
  (hK:K.map (λe=>(e.a,e.o))=x.pre)(hw:∀ e∈K,e.w=true->e.a∈x.upd.map (·.1))(hf:∀ e∈K,e.f=false)
  (hrun:∀ dp fr gd un al tk ev,Ow (VZ w b cons x.deep dp un fr gd) x t cc inn n q K σ τ al tk ev=(Ow (VZ w b cons x.deep dp un fr gd) x t cc inn n q K σ τ al tk ev).toE .done (E al tk))
  (hfin:∀ al tk X,need X->Ch (also (cut x.n λj=>al (nthD σ j)) (cut x.nt λj=>letT al tk (nthD τ j))) (E al tk) X []):OkC w b x t cc inn need also:=
 Ae5 x t cc inn need also K n q σ τ E Ku Cp (λ_=>Ic) hcons hK hw hf hrun hfin
section
variable {M:Model}{A:Around}{E:Value->Shared->Prop}{s:Shared}{c:Code}
end
noncomputable def Pj(w:World)(st:Nat->Option Obj)(v:Value)(x:Con)(t:Sem Fin):Prop:=
 ∀ (A:Around)(s:Shared)(R:Result->Shared->Prop),A.handled=some v->Room A x.deep->Stat st s.heap->(∀ p∈x.pre,s.heap.get? p.1=some p.2/\st p.1=none)->(x.pre.map (·.1)).Nodup->
  (∀ (nw:Nat->Addr)(tks:Nat->Tok)(h':Heap)(t':Nat),Be s.heap h'->
   (∀ b o,s.heap.get? b=some o->(∀ p∈x.upd,p.1≠b)->h'.get? b=some o)->(∀ p∈Ce x.upd (cut x.nt tks),h'.get? p.1=some p.2)->
   (∀ p∈x.post (cut x.n nw) (cut x.nt tks),h'.get? p.1=some p.2/\s.heap.get? p.1=none)->((x.post (cut x.n nw) (cut x.nt tks)).map (·.1)).Nodup->
   R (x.res (cut x.n nw) (cut x.nt tks)) { s with heap:=h',toks:=t' })->
  wpOwn (model prog w) A x.code t (plus (postC prog w A R)) (postE R) s
theorem Yi{w:World}{st:Nat->Option Obj}{den:Code->Sem Fin}{ct:Addr->FuncData->Args->Sem Fin}(v:Value)(x:Con)(t:Sem Fin)
  (K:List Ent)(n q:Nat)(σ τ:List Nat)
  (hden:den=denote table)(hct:ct=Eb)(hlim:∀ h,Stat st h->h.NoLimit)
  (hK:K.map (λe=>(e.a,e.o))=x.pre)(hw:∀ e∈K,e.w=true->e.a∈x.upd.map (·.1))(hf:∀ e∈K,e.f=false)
  (hrun:∀ dp fr gd un al tk,Eh ⟨w,⟨some v,dp,fr,gd,un⟩,x.deep,st,[],den,ct⟩ x t n q K σ τ al tk=(Eh ⟨w,⟨some v,dp,fr,gd,un⟩,x.deep,st,[],den,ct⟩ x t n q K σ τ al tk).toE .done []) :
  Pj w st v x t:=by
 intro A s R hn hdep hst hpre hnod hR
 obtain ⟨hd,dp,fr,gd,un⟩:=A
 obtain ⟨h,g,d,ts,os⟩:=s
 have hn:hd=some v:=hn
 subst hn
 let V:SV:=⟨w,⟨some v,dp,fr,gd,un⟩,x.deep,st,[],den,ct⟩
 have O:V.Ok:=⟨hden,hct,hlim,hdep,λ_ hf=>(nomatch hf)⟩
 have D:=Hd (st:=st) (X:=[]) hst hpre hnod (λ_ h=>nomatch h) List.nodup_nil (λ_ _ _ h=>nomatch h) hK hw hf
 refine Fv (V:=V) (R₀:=R) (W:=x.upd.map (·.1)) (h₀:=h) (g:=g) (d:=d) (os:=os) O n [] [] x.code .base t K 0 0 q (λ_=>0) (λ_=>0) h ts (λal' tk' _ _=>?_) D
 refine Ih (F:=λ_=>True) (f:=Jz x (λj=>al' (nthD σ j)) (λj=>letT al' tk' (nthD τ j))) (λr K' q' E' X' N' e c h' t' D'=>?_) _ [] [] [] (hrun dp fr gd un al' tk') trivial
 obtain ⟨e0,e1,e2,e3,e4⟩:=Jy D'.nod e
 rw [e1]
 obtain ⟨r1,r2,r3,_⟩:=Mt D' e2 e3 e4
 exact hR (λj=>al' (nthD σ j)) (λj=>letT al' tk' (nthD τ j)) h' t' D'.size r1 r2 (λp hp=>r3 p (mai (hp))) e4
noncomputable abbrev OkH(w:World)(b:B3)(v:Value)(x:Con)(t:Sem Fin):Prop:=Pj (wZ w b) (Aa w.params) v x t
noncomputable def VH(w:World)(b:B3)(v:Value)(room dp un:Nat)(fr:Option (List Env))(gd:Option (List Code)):SV:=
 ⟨wZ w b,⟨some v,dp,fr,gd,un⟩,room,Aa w.params,[],denZ,Gf⟩
theorem Pf(v:Value)(x:Con)(t:Sem Fin)(K:List Ent)(n q:Nat)(σ τ:List Nat)
  (hK:K.map (λe=>(e.a,e.o))=x.pre)(hw:∀ e∈K,e.w=true->e.a∈x.upd.map (·.1))(hf:∀ e∈K,e.f=false)
  (hrun:∀ dp fr gd un al tk,Eh (VH w b v x.deep dp un fr gd) x t n q K σ τ al tk=(Eh (VH w b v x.deep dp un fr gd) x t n q K σ τ al tk).toE .done []):OkH w b v x t:=
 Yi v x t K n q σ τ Ku Cp (λ_=>Ic) hK hw hf hrun
noncomputable abbrev RqC(w:World)(b:B3)(d:List CF)(x:Con)(t:Sem Fin)(cc:(Nat->Addr)->(Nat->Tok)->Code)(inn:Bool)(n q:Nat)(K:List Ent)(σ τ:List Nat)(E:EF)(dp:Nat)(fr:Option (List Env))(gd:Option (List Code))(un:Nat)(al:Nat->Addr)(tk:Nat->Tok)(ev:Addr):Prop:=Ow (VZ w b d x.deep dp un fr gd) x t cc inn n q K σ τ al tk ev=(Ow (VZ w b d x.deep dp un fr gd) x t cc inn n q K σ τ al tk ev).toE .done (E al tk)
theorem oC{x:Con}{t:Sem Fin}{cc:(Nat->Addr)->(Nat->Tok)->Code}{inn:Bool}{need:List AO->Prop}{also:AL}(l:List (Fm w b))(K:List Ent)(n q:Nat)(σ τ:List Nat)(E:EF)
  (h:∀ dp fr gd un al tk ev,RqC w b (fms l) x t cc inn n q K σ τ E dp fr gd un al tk ev)(hfin:∀ al tk X,need X->Ch (also (cut x.n λj=>al (nthD σ j)) (cut x.nt λj=>letT al tk (nthD τ j))) (E al tk) X [])(hK:K.map (λe=>(e.a,e.o))=x.pre:=by rfl)(hw:WsOk K (x.upd.map (·.1)):=by exact wokA)(hf:fOf K=false:=by rfl):OkC w b x t cc inn need also:=okC_of x t cc inn need also K n q σ τ E (Pk l) hK hw (f_ok hf) h hfin
theorem oCX{x:Con}{t:Sem Fin}{cc:(Nat->Addr)->(Nat->Tok)->Code}{inn:Bool}{need:List AO->Prop}{also:AL}(l:List (Fm w b))(K:List Ent)(n q:Nat)(σ τ:List Nat)(E:EF)
  (h0:∀ y z dp fr gd un al tk ev,RqC w ⟨false,y,z⟩ (fms l) x t cc inn n q K σ τ E dp fr gd un al tk ev)(h1:∀ y z dp fr gd un al tk ev,RqC w ⟨true,y,z⟩ (fms l) x t cc inn n q K σ τ E dp fr gd un al tk ev)(hfin:∀ al tk X,need X->Ch (also (cut x.n λj=>al (nthD σ j)) (cut x.nt λj=>letT al tk (nthD τ j))) (E al tk) X [])(hK:K.map (λe=>(e.a,e.o))=x.pre:=by rfl)(hw:WsOk K (x.upd.map (·.1)):=by exact wokA)(hf:fOf K=false:=by rfl):OkC w b x t cc inn need also:=by
 obtain ⟨_ | _,y,z⟩:=b
 ·exact oC l K n q σ τ E (h0 y z) hfin hK hw hf
 ·exact oC l K n q σ τ E (h1 y z) hfin hK hw hf
noncomputable def Jq(w:World)(st:Nat->Option Obj)(fl:List Env)(x:Con)(t:Sem Fin)(need:List AO->Prop)(also:AL):Prop:=
 ∀ (A:Around)(s:Shared)(R:Result->Shared->Prop)(X:List AO),A.handled=none->A.frames=some fl->Room A x.deep->Stat st s.heap->(∀ p∈x.pre,s.heap.get? p.1=some p.2/\st p.1=none)->(x.pre.map (·.1)).Nodup->
  (∀ p∈X,s.heap.get? p.1=some p.2/\st p.1=none)->(X.map (·.1)).Nodup->(∀ p∈x.pre,∀ q∈X,p.1≠q.1)->need X->
  (∀ (nw:Nat->Addr)(tks:Nat->Tok)(h':Heap)(t':Nat)(L:List AO),Be s.heap h'->
   (∀ b o,s.heap.get? b=some o->(∀ p∈x.upd,p.1≠b)->h'.get? b=some o)->(∀ p∈Ce x.upd (cut x.nt tks),h'.get? p.1=some p.2)->
   (∀ p∈x.post (cut x.n nw) (cut x.nt tks)++L,h'.get? p.1=some p.2/\s.heap.get? p.1=none)->((x.post (cut x.n nw) (cut x.nt tks)++L).map (·.1)).Nodup->also (cut x.n nw) (cut x.nt tks) L->
   R (x.res (cut x.n nw) (cut x.nt tks)) { s with heap:=h',toks:=t' })->
  wpOwn (model prog w) A x.code t (plus (postC prog w A R)) (postE R) s
theorem Zv{w:World}{st:Nat->Option Obj}{cons:List CF}{den:Code->Sem Fin}{ct:Addr->FuncData->Args->Sem Fin}(fl:List Env)(x:Con)(t:Sem Fin)(need:List AO->Prop)(also:AL)
  (K:List Ent)(n q:Nat)(σ τ:List Nat)(E:EF)
  (hden:den=denote table)(hct:ct=Eb)(hlim:∀ h,Stat st h->h.NoLimit)(hcons:∀ f∈cons,∀ a t c,(f a t c).Valid w st)
  (hK:K.map (λe=>(e.a,e.o))=x.pre)(hw:∀ e∈K,e.w=true->e.a∈x.upd.map (·.1))(hf:∀ e∈K,e.f=false)
  (hrun:∀ dp gd un al tk,Eh ⟨w,⟨none,dp,some fl,gd,un⟩,x.deep,st,cons,den,ct⟩ x t n q K σ τ al tk=(Eh ⟨w,⟨none,dp,some fl,gd,un⟩,x.deep,st,cons,den,ct⟩ x t n q K σ τ al tk).toE .done (E al tk))
  (hfin:∀ al tk X,need X->Ch (also (cut x.n λj=>al (nthD σ j)) (cut x.nt λj=>letT al tk (nthD τ j))) (E al tk) X []) :
  Jq w st fl x t need also:=by
 intro A s R X hn hfl hdep hst hpre hnod hX hXn hap hnd hR
 obtain ⟨hd,dp,fr,gd,un⟩:=A
 obtain ⟨h,g,d,ts,os⟩:=s
 have hn:hd=none:=hn
 have hfl:fr=some fl:=hfl
 subst hn hfl
 let V:SV:=⟨w,⟨none,dp,some fl,gd,un⟩,x.deep,st,cons,den,ct⟩
 have O:V.Ok:=⟨hden,hct,hlim,hdep,hcons⟩
 have D:=Hd (st:=st) hst hpre hnod hX hXn hap hK hw hf
 refine Fv (V:=V) (R₀:=R) (W:=x.upd.map (·.1)) (h₀:=h) (g:=g) (d:=d) (os:=os) O n X [] x.code .base t K 0 0 q (λ_=>0) (λ_=>0) h ts (λal' tk' _ _=>?_) D
 refine Ih (F:=also (cut x.n λj=>al' (nthD σ j)) (cut x.nt λj=>letT al' tk' (nthD τ j))) (f:=Jz x (λj=>al' (nthD σ j)) (λj=>letT al' tk' (nthD τ j))) (λr K' q' E' X' N' e c h' t' D'=>?_) _ (E al' tk') X [] (hrun dp gd un al' tk') (hfin al' tk' X hnd)
 obtain ⟨e0,e1,e2,e3,e4⟩:=Jy D'.nod e
 subst e0
 rw [e1]
 obtain ⟨r1,r2,r3,r4⟩:=Mt D' e2 e3 e4
 exact hR (λj=>al' (nthD σ j)) (λj=>letT al' tk' (nthD τ j)) h' t' N' D'.size r1 r2 r3 r4 c
noncomputable abbrev OkR(w:World)(b:B3)(fl:List Env)(x:Con)(t:Sem Fin)(need:List AO->Prop)(also:AL):Prop:=Jq (wZ w b) (Aa w.params) fl x t need also
noncomputable def VR(w:World)(b:B3)(cons:List CF)(fl:List Env)(room dp un:Nat)(gd:Option (List Code)):SV:=
 ⟨wZ w b,⟨none,dp,some fl,gd,un⟩,room,Aa w.params,cons,denZ,Gf⟩
theorem okR_of{cons:List CF}(fl:List Env)(x:Con)(t:Sem Fin)(need:List AO->Prop)(also:AL)(K:List Ent)(n q:Nat)(σ τ:List Nat)(E:EF)(hcons:∀ f∈cons,∀ a t c,OkX w b (f a t c))
  (hK:K.map (λe=>(e.a,e.o))=x.pre)(hw:∀ e∈K,e.w=true->e.a∈x.upd.map (·.1))(hf:∀ e∈K,e.f=false)
  (hrun:∀ dp gd un al tk,Eh (VR w b cons fl x.deep dp un gd) x t n q K σ τ al tk=(Eh (VR w b cons fl x.deep dp un gd) x t n q K σ τ al tk).toE .done (E al tk))
  (hfin:∀ al tk X,need X->Ch (also (cut x.n λj=>al (nthD σ j)) (cut x.nt λj=>letT al tk (nthD τ j))) (E al tk) X []):OkR w b fl x t need also:=
 Zv fl x t need also K n q σ τ E Ku Cp (λ_=>Ic) hcons hK hw hf hrun hfin
section
variable {M:Model}{A:Around}{E:Value->Shared->Prop}{s:Shared}{c:Code}
theorem En{α:Type}{vs:List Value}{m:Sem α}{Q:α->Shared->Prop}(h:wpOwn M A c m Q E s):wpOwn M A c (holding vs m) Q E s:=λΓ p hc hΓ=>by rw [Sem.wp_holding];exact h Γ p hc hΓ
theorem Px{vs:List Value}{m:Sem Value}{Q:Value->Shared->Prop}(h:wpOwn M A c m Q E s):wpOwn M A c (operate vs m) Q E s:=λΓ p hc hΓ=>by rw [Sem.wp_operate];exact h Γ p hc hΓ
theorem Gh{q:Pos}{Q:Unit->Shared->Prop}(h:Q () s):wpOwn M A c (standAt q) Q E s:=wpOwn_of_wpAny (wpAny_standAt h)
theorem Sh{e:Value}{env:Env}{t:Expr}{n:Str}{body:List Stmt}{pos:Pos}{rest:List ExceptHandler}{Q:Flow->Shared->Prop}
  (h:codeAny M ((A.under c).mark (some e)) (.handlers e [.ExceptHandler (some t) none [] pos] env) (λr s₁=>r=.ok .brk/\
   codeAny M ((A.under c).mark (some e)) (.handlers e [.ExceptHandler none (some n) body pos] env) (λr s₂=>∃ f,r=.ok f/\wpOwn M A c (do bindName env n .none;unbindBehindTheSuite env n pos) (λ_ s₃=>Q f s₃) E s₂) s₁) s)(hnb:e≠byPass) :
  wpOwn M A c (handleBy e env (.ExceptHandler (some t) (some n) body pos::rest)) Q E s:=by
 rw [handleBy]
 have hnb':(some e:Option Value)≠some byPass:=λx=>hnb (Option.some.inj x)
 refine wpOwn_bind (En (wpOwn_of_wpAny (wpAny_runOwn (codeAny_mono h (λr s₁ h₁=>?_)) hnb')))
 obtain ⟨rfl,h₁⟩:=h₁
 refine wpOwn_bind (Du ?_)
 simp only [Bool.not_true,Bool.false_eq_true,if_false]
 refine wpOwn_bind (En (wpOwn_of_wpAny (wpAny_runOwn (codeAny_mono h₁ (λr s₂ h₂=>?_)) hnb')))
 obtain ⟨f,rfl,h₂⟩:=h₂
 exact wpOwn_bind (En (wpOwn_mono h₂ (λ_ s₃ h₃=>Du h₃) λ_ _ x=>x))
theorem Aae{e:Value}{env:Env}{n:Str}{l r:Expr}{p1 p2 pos:Pos}{Q:Flow->Shared->Prop}
  (h:wpOwn M A c (setFlight e none) (λ_ s₁=>wpOwn M A c (bindName env n e) (λ_ s₂=>wpOwn M A c (eval l env) (λa s₃=>wpOwn M A c (eval r env) (λb s₄=>wpOwn M A c (compareOp .Eq a b) (λv s₅=>Q (.ret v) s₅) (λ_ _=>False) s₄) (λ_ _=>False) s₃) (λ_ _=>False) s₂) E s₁) E s) :
  wpOwn M A c (handleWith e env [.ExceptHandler none (some n) [.Return (some (.Compare l [.Eq] [r] p1)) p2] pos]) Q E s:=by
 show wpOwn M A c (do
  standAt pos
  setFlight e none
  bindName env n e
  match←(execs [.Return (some (.Compare l [.Eq] [r] p1)) p2] env).attempt with
   | .ok f=>pure f
   | .error x=>
    noteFrame x env
    holding [x] <| (do
     bindName env n .none
     unbindBehindTheSuite env n pos:Sem Unit).onRaise λ_=>setFlight x none
    passOn "try.except-as" x env) Q E s
 refine wpOwn_bind (Gh (wpOwn_bind (wpOwn_mono h (λ_ s₁ h=>wpOwn_bind (wpOwn_mono h (λ_ s₂ h=>wpOwn_bind (Jm ?_)) λ_ _ h=>h)) λ_ _ h=>h)))
 have hm:behindInMarks .Eq r=false:=by cases r<;>first|rfl|simp only [behindInMarks,show ((CmpOp.Eq == CmpOp.In) || (CmpOp.Eq == CmpOp.NotIn))=false from rfl,Bool.and_false,Bool.false_and]
 refine Cb ?_
 rw [exec_Return_some]
 refine wpOwn_bind (Gh (wpOwn_bind ?_))
 rw [eval_Compare1,markedBehindIn_of_false hm]
 refine wpOwn_bind (wpOwn_mono h (λa s₃ h=>wpOwn_bind (En (wpOwn_mono h (λb s₄ h=>wpOwn_bind (Gh (Px (wpOwn_mono h (λv s₅ h=>Du (Du h)) λ_ _ h=>h.elim)))) λ_ _ h=>h.elim))) λ_ _ h=>h.elim)
theorem Xx{env:Env}{n:Str}{pos:Pos}{Q:Unit->Shared->Prop}(h:wpOwn M A c (R.bindR (bindName env n .none) λ_=>unbindName env n) Q (λ_ _=>False) s) :
  wpOwn M A c (do bindName env n .none;unbindBehindTheSuite env n pos) Q E s:=by
 intro Γ p hc hΓ
 have z:=h Γ p hc hΓ
 rw [←R.bindR_eq] at z
 have z:Sem.wp M Γ (bindName env n .none >>= λ_=>unbindName env n) _ _ p s:=z
 rw [Sem.wp_bind'] at z ⊢
 refine Sem.wp_mono M Γ _ (λ_ p s h=>?_) (λ_ _ _ h=>h.elim) _ _ z
 show Sem.wp M Γ ((unbindName env n).onRaise λ_=>standAt { pos with line:=0 }) _ _ p s
 rw [Sem.wp_onRaise]
 exact Sem.wp_mono M Γ _ (λ_ _ _ h=>h) (λ_ _ _ h=>h.elim) _ _ h
end
section
variable {w:World}{A:Around}{R₁:Result->Shared->Prop}{s:Shared}
theorem Lf{e:Value}{hs:List ExceptHandler}{env:Env}(h:wpOwn (model prog w) A (.handlers e hs env) (handleWith e env hs) (λf s'=>R₁ (.ok f) s') (λ_ _=>False) s):codeAny (model prog w) A (.handlers e hs env) R₁ s:=by
 refine codeAny_of_own ?_
 show wpOwn _ A _ (do return Fin.done (←(handleWith e env hs).onRaise (λx=>do noteFrame x env;theTreesLotGoes x))) _ _ s
 exact wpOwn_bind (Jl (wpOwn_mono h (λf s' h=>Du h) λ_ _ h=>h.elim))
theorem Pb{α:Type}{c:Code}{m:Sem α}{f:α->Flow}(h:wpOwn (model prog w) A c (R.bindR m λa=>.pure (.done (f a))) (plus (postC prog w A R₁)) (postE R₁) s) :
  wpOwn (model prog w) A c m (λa s'=>R₁ (.ok (f a)) s') (λe s'=>R₁ (.error e) s') s:=by
 intro Γ p hc hΓ
 have z:=h Γ p hc hΓ
 rw [←R.bindR_eq] at z
 have z:Sem.wp (model prog w) Γ (m >>= λa=>Sem.pure (Fin.done (f a))) _ _ p s:=z
 rw [Sem.wp_bind'] at z
 exact Sem.wp_mono (model prog w) Γ _ (λf p s h=>h.2) (λe p s h=>h) _ _ z
end
noncomputable abbrev RqR(w:World)(b:B3)(d:List CF)(fl:List Env)(x:Con)(t:Sem Fin)(n q:Nat)(K:List Ent)(σ τ:List Nat)(E:EF)(dp:Nat)(gd:Option (List Code))(un:Nat)(al:Nat->Addr)(tk:Nat->Tok):Prop:=Eh (VR w b d fl x.deep dp un gd) x t n q K σ τ al tk=(Eh (VR w b d fl x.deep dp un gd) x t n q K σ τ al tk).toE .done (E al tk)
theorem oR{x:Con}{t:Sem Fin}{need:List AO->Prop}{also:AL}(fl:List Env)(l:List (Fm w b))(K:List Ent)(n q:Nat)(σ τ:List Nat)(E:EF)
  (h:∀ dp gd un al tk,RqR w b (fms l) fl x t n q K σ τ E dp gd un al tk)(hfin:∀ al tk X,need X->Ch (also (cut x.n λj=>al (nthD σ j)) (cut x.nt λj=>letT al tk (nthD τ j))) (E al tk) X [])(hK:K.map (λe=>(e.a,e.o))=x.pre:=by rfl)(hw:WsOk K (x.upd.map (·.1)):=by exact wokA)(hf:fOf K=false:=by rfl):OkR w b fl x t need also:=okR_of fl x t need also K n q σ τ E (Pk l) hK hw (f_ok hf) h hfin
noncomputable def dAO:AO:=(0,{ cls:=.none,data:=.plain })
noncomputable def pick(W:List AO)(ix:List Nat):List AO:=ix.map λi=>W.getD i dAO
noncomputable def Fh:List AO->List Nat->List AO->List AO
 | K,i::ux,u::U=>Fh (K.set i u) ux U
 | K,_,_=>K
noncomputable def ltB(n:Nat):List Nat->Bool
 | []=>true
 | i::r=>Nat.blt i n && ltB n r
theorem lA{n:Nat}:∀ {l:List Nat},ltB n l=true->∀ i∈l,i < n:=by
 intro l h
 induction l with
 | nil=>intro i hi;cases hi
 | cons x r ih=>
  obtain ⟨h1,h2⟩:=Bool.and_eq_true_iff.mp h
  intro i hi
  rcases mcm hi with rfl|hi
  ·exact Nat.le_of_ble_eq_true h1
  ·exact ih h2 i hi
structure Bas (st:Nat->Option Obj)(h₀:Heap)(d:Addr)(Bs:List AO):Prop where
 stat:Stat st h₀
 own:∀ p∈Bs,h₀.get? p.1=some p.2/\st p.1=none/\p.1≠d
 nod:(Bs.map (·.1)).Nodup
 dst:st d=none
 dhad:∃ o,h₀.get? d=some o
structure Kn (h₀:Heap)(d:Addr)(h:Heap)(K:List AO):Prop where
 kept:∀ b o,h₀.get? b=some o->b≠d->h.get? b=some o
 own:∀ p∈K,h.get? p.1=some p.2
 dir:∀ p∈K,p.1=d\/h₀.get? p.1=none
 nod:(K.map (·.1)).Nodup
 grown:Be h₀ h
section
variable {st:Nat->Option Obj}{h₀ h h':Heap}{d:Addr}{Bs K W:List AO}
theorem Bas.kstat(B:Bas st h₀ d Bs)(k:Kn h₀ d h K):Stat st h:=λa o e=>k.kept a o (B.stat a o e) λz=>by rw [z,B.dst] at e;cases e
theorem Bas.knone(B:Bas st h₀ d Bs){a:Addr}(e:a=d\/h₀.get? a=none):st a=none:=by
 rcases e with rfl|e
 ·exact B.dst
 ·cases q:st a with
  | none=>rfl
  | some o=>rw [B.stat a o q] at e;cases e
theorem Bas.all(B:Bas st h₀ d Bs)(k:Kn h₀ d h K):(∀ p∈Bs++K,h.get? p.1=some p.2/\st p.1=none)/\((Bs++K).map (·.1)).Nodup:=by
 refine ⟨λp hp=>?_,?_⟩
 ·rcases List.mem_append.mp hp with hp|hp
  ·obtain ⟨h1,h2,h3⟩:=B.own p hp
   exact ⟨k.kept _ _ h1 h3,h2⟩
  ·exact ⟨k.own p hp,B.knone (k.dir p hp)⟩
 ·rw [List.map_append,List.nodup_append]
  refine ⟨B.nod,k.nod,λa ha b hb z=>?_⟩
  obtain ⟨q,hq,rfl⟩:=mmp ha
  obtain ⟨p,hp,rfl⟩:=mmp hb
  obtain ⟨h1,_,h3⟩:=B.own q hq
  rcases k.dir p hp with e|e
  ·exact h3 (z.trans e)
  ·rw [←z,h1] at e;cases e
theorem Fi{ix:List Nat}(hx:∀ i∈ix,i < W.length):∀ p∈pick W ix,p∈W:=λp hp=>by
 obtain ⟨i,hi,rfl⟩:=mmp hp
 have:=hx i hi
 rw [List.getD_eq_getElem?_getD,List.getElem?_eq_getElem this]
 exact List.getElem_mem this
theorem Ra(hn:(W.map (·.1)).Nodup){i j:Nat}(hi:i < W.length)(hj:j < W.length)(e:(W.getD i dAO).1=(W.getD j dAO).1):i=j:=by
 rw [List.getD_eq_getElem?_getD,List.getD_eq_getElem?_getD,List.getElem?_eq_getElem hi,List.getElem?_eq_getElem hj] at e
 have h1:i < (W.map (·.1)).length:=by simpa using hi
 have h2:j < (W.map (·.1)).length:=by simpa using hj
 have e':(W.map (·.1))[i]=(W.map (·.1))[j]:=by simpa using e
 have hp:=List.pairwise_iff_getElem.mp hn
 rcases Nat.lt_trichotomy i j with z|z|z
 ·exact absurd e' (hp i j h1 h2 z)
 ·exact z
 ·exact absurd e'.symm (hp j i h2 h1 z)
theorem Dx(hn:(W.map (·.1)).Nodup):∀ {ix:List Nat},ix.Nodup->(∀ i∈ix,i < W.length)->((pick W ix).map (·.1)).Nodup
 | [],_,_=>List.nodup_nil
 | i::ix,hi,hx=>by
  obtain ⟨h1,h2⟩:=List.nodup_cons.mp hi
  refine List.nodup_cons.mpr ⟨λz=>?_,Dx hn h2 λj hj=>hx j (.tail _ hj)⟩
  obtain ⟨p,hp,e⟩:=mmp z
  obtain ⟨j,hj,rfl⟩:=mmp hp
  exact h1 (Ra hn (hx i (.head _)) (hx j (.tail _ hj)) e.symm▸hj)
theorem Xu(hn:(W.map (·.1)).Nodup){ix jx:List Nat}(hd:∀ i∈ix,i∉jx)(hx:∀ i∈ix,i < W.length)(hj:∀ i∈jx,i < W.length):∀ p∈pick W ix,∀ q∈pick W jx,p.1≠q.1:=λp hp q hq e=>by
 obtain ⟨i,hi,rfl⟩:=mmp hp
 obtain ⟨j,hjj,rfl⟩:=mmp hq
 exact hd i hi (Ra hn (hx i hi) (hj j hjj) e▸hjj)
theorem Bas.pick(B:Bas st h₀ d Bs)(ix:List Nat)(hi:ix.Nodup)(hil:∀ i∈ix,i < Bs.length):Bas st h₀ d (pick Bs ix):=
 ⟨B.stat,λp hp=>B.own p (Fi hil p hp),Dx B.nod hi hil,B.dst,B.dhad⟩
theorem Xm:∀ (ux:List Nat){K U:List AO},ux.length=U.length->∀ p∈Fh K ux U,p∈U\/∃ j,j∉ux/\K[j]?=some p:=by
 intro ux
 induction ux with
 | nil=>
  intro K U _ p hp
  have hp:p∈K:=by cases U<;>exact hp
  obtain ⟨j,hj⟩:=List.getElem?_of_mem hp
  exact .inr ⟨j,by simp,hj⟩
 | cons i ux ih=>
  intro K U hl p hp
  cases U with
  | nil=>cases hl
  | cons u U=>
   rcases ih (K:=K.set i u) (U:=U) (by simpa using hl) p hp with h1|⟨j,h1,h2⟩
   ·exact .inl (.tail _ h1)
   ·by_cases e:i=j
    ·subst e
     rw [List.getElem?_set] at h2
     simp only [if_true] at h2
     split at h2
     ·cases h2;exact .inl (.head _)
     ·cases h2
    ·rw [List.getElem?_set_ne e] at h2
     exact .inr ⟨j,λz=>by rcases mcm z with z|z<;>first|exact e z.symm|exact h1 z,h2⟩
theorem Oz:∀ {K:List AO}{ux:List Nat}{U:List AO},U.map (·.1)=ux.map (λi=>(K.getD i dAO).1)->(∀ i∈ux,i < K.length)->(Fh K ux U).map (·.1)=K.map (·.1)
 | K,[],[],_,_=>rfl
 | K,[],_::_,_,_=>rfl
 | K,_::_,[],_,_=>rfl
 | K,i::ux,u::U,e,hx=>by
  have e1:u.1=(K.getD i dAO).1:=(List.cons.inj e).1
  have e2:U.map (·.1)=ux.map (λi=>(K.getD i dAO).1):=(List.cons.inj e).2
  have hi:=hx i (.head _)
  have e3:(K.set i u).map (·.1)=K.map (·.1):=by
   rw [List.map_set]
   refine List.ext_getElem? λj=>?_
   by_cases ej:i=j
   ·subst ej
    have hi':i < (K.map (·.1)).length:=by simpa using hi
    rw [List.getElem?_set_self hi',e1,List.getD_eq_getElem?_getD,List.getElem?_eq_getElem hi,List.getElem?_map,List.getElem?_eq_getElem hi]
    rfl
   ·rw [List.getElem?_set_ne ej]
  have e4:∀ j,((K.set i u).getD j dAO).1=(K.getD j dAO).1:=λj=>by
   have:=congrArg (λl:List Addr=>l[j]?) e3
   simp only [List.getElem?_map] at this
   rw [List.getD_eq_getElem?_getD,List.getD_eq_getElem?_getD]
   cases h1:(K.set i u)[j]?<;>cases h2:K[j]?<;>rw [h1,h2] at this<;>simp at this ⊢
   exact this
  show (Fh (K.set i u) ux U).map (·.1)=_
  rw [Oz (K:=K.set i u) (by rw [e2];exact List.map_congr_left λj _=>(e4 j).symm) (λj hj=>by rw [List.length_set];exact hx j (.tail _ hj)),e3]
theorem Kn.after(k:Kn h₀ d h K){N U:List AO}(ux:List Nat)(hu:U.map (·.1)=ux.map λi=>(K.getD i dAO).1)(hux:∀ i∈ux,i < K.length)(a1:Be h h')
  (a2:∀ b o,h.get? b=some o->(∀ p∈U,p.1≠b)->h'.get? b=some o)(a3:∀ p∈U,h'.get? p.1=some p.2)(a4:∀ p∈N,h'.get? p.1=some p.2/\h.get? p.1=none)(a5:(N.map (·.1)).Nodup) :
  Kn h₀ d h' (N++Fh K ux U):=by
 have hl:ux.length=U.length:=by have:=congrArg List.length hu;simpa using this.symm
 have hU:∀ u∈U,u.1=d\/h₀.get? u.1=none:=λu hm=>by
  have:u.1∈U.map (·.1):=List.mem_map_of_mem (f:=(·.1)) hm
  rw [hu] at this
  obtain ⟨i,hi,e⟩:=mmp this
  have hi':=hux i hi
  rw [List.getD_eq_getElem?_getD,List.getElem?_eq_getElem hi'] at e
  rw [←e]
  exact k.dir _ (List.getElem_mem hi')
 have hadr:(Fh K ux U).map (·.1)=K.map (·.1):=Oz hu hux
 refine ⟨λb o hb hne=>a2 b o (k.kept b o hb hne) λp hp z=>?_,λp hp=>?_,λp hp=>?_,?_,k.grown.trans a1⟩
 ·rcases hU p hp with e|e
  ·exact hne (z▸e)
  ·rw [z,hb] at e;cases e
 ·rcases List.mem_append.mp hp with hp|hp
  ·exact (a4 p hp).1
  ·rcases Xm ux hl p hp with h1|⟨j,h1,h2⟩
   ·exact a3 p h1
   ·refine a2 _ _ (k.own p (List.mem_of_getElem? h2)) λu hm e=>?_
    have:u.1∈U.map (·.1):=List.mem_map_of_mem (f:=(·.1)) hm
    rw [hu] at this
    obtain ⟨i,hi,e'⟩:=mmp this
    obtain ⟨hj,h3⟩:=List.getElem?_eq_some_iff.mp h2
    have:i=j:=Ra k.nod (hux i hi) hj (by rw [e',e,List.getD_eq_getElem?_getD,h2];rfl)
    exact h1 (this▸hi)
 ·rcases List.mem_append.mp hp with hp|hp
  ·exact .inr (k.grown.none (a4 p hp).2)
  ·have:p.1∈(Fh K ux U).map (·.1):=List.mem_map_of_mem (f:=(·.1)) hp
   rw [hadr] at this
   obtain ⟨q,hq,e⟩:=mmp this
   rw [←e];exact k.dir q hq
 ·rw [List.map_append,List.nodup_append,hadr]
  refine ⟨a5,k.nod,λa ha b hb z=>?_⟩
  obtain ⟨p,hp,rfl⟩:=mmp ha
  obtain ⟨q,hq,rfl⟩:=mmp hb
  have:=(a4 p hp).2
  rw [z,k.own q hq] at this;cases this
end
theorem Fs{l:List (Addr × ((Nat->Tok)->Obj))}{tk:Nat->Tok}:(Ce l tk).map (·.1)=l.map (·.1):=by
 induction l with
 | nil=>rfl
 | cons p r ih=>show p.1::(Ce r tk).map (·.1)=p.1::r.map (·.1);rw [ih]
section
variable {w:World}{st:Nat->Option Obj}{A:Around}{s:Shared}{R:Result->Shared->Prop}{h₀:Heap}{d:Addr}{Bs K:List AO}{x:Con}{t:Sem Fin}
theorem Kn.useC{cc:(Nat->Addr)->(Nat->Tok)->Code}{inn:Bool}(hx:Rg w st x t cc inn tT nL)(B:Bas st h₀ d Bs)(k:Kn h₀ d s.heap K)(ix ux:List Nat)(hp:x.pre=pick (Bs++K) ix)(hi:ix.Nodup)(hil:∀ i∈ix,i < (Bs++K).length)
  (hu:x.upd.map (·.1)=ux.map λi=>(K.getD i dAO).1)(hul:∀ i∈ux,i < K.length)(hA:A.handled=none)(hr:Room A x.deep)
  (go:∀ nw tks h' t',Kn h₀ d h' (x.post (cut x.n nw) (cut x.nt tks)++Fh K ux (Ce x.upd (cut x.nt tks)))->codeAny (model prog w) (Ac5 inn A x.code) (cc (cut x.n nw) (cut x.nt tks)) (match inn with
    | false=>R
    | true=>λr s'=>∃ ev,r=.error (.ref ev)/\R (.error (.ref ev)) s') { s with heap:=h',toks:=t' }) :
  wpOwn (model prog w) A x.code t (plus (postC prog w A R)) (postE R) s:=by
 obtain ⟨h1,h2⟩:=B.all k
 refine hx A s R [] hA hr (B.kstat k) (λp hpm=>h1 p (Fi hil p (hp▸hpm))) (by rw [hp];exact Dx h2 hi hil) (λ_ h=>(nomatch h)) List.nodup_nil (λ_ _ _ h=>(nomatch h)) trivial λnw tks h' t' L a1 a2 a3 a4 a5 a6=>?_
 subst a6
 rw [List.append_nil] at a4 a5
 exact go nw tks h' t' (k.after ux (by rw [Fs,hu]) hul a1 (λb o hb hn=>a2 b o hb λp hp z=>(by
  have:p.1∈x.upd.map (·.1):=List.mem_map_of_mem (f:=(·.1)) hp
  rw [←Fs (tk:=cut x.nt tks)] at this
  obtain ⟨q,hq,e⟩:=mmp this
  exact hn q hq (e.trans z))) a3 a4 a5)
theorem Kn.useT{need:List AO->Prop}{also:AL}(hx:Cm w st x t need also)(B:Bas st h₀ d Bs)(k:Kn h₀ d s.heap K)(ix jx ux:List Nat)(hp:x.pre=pick (Bs++K) ix)(hi:ix.Nodup)(hil:∀ i∈ix,i < (Bs++K).length)
  (hj:jx.Nodup)(hjl:∀ i∈jx,i < (Bs++K).length)(hij:∀ i∈ix,i∉jx)(hn:need (pick (Bs++K) jx))
  (hu:x.upd.map (·.1)=ux.map λi=>(K.getD i dAO).1)(hul:∀ i∈ux,i < K.length)(hA:A.handled=none)(hr:Room A x.deep)
  (go:∀ nw tks h' t',Kn h₀ d h' (x.post (cut x.n nw) (cut x.nt tks)++Fh K ux (Ce x.upd (cut x.nt tks)))->R (x.res (cut x.n nw) (cut x.nt tks)) { s with heap:=h',toks:=t' }) :
  wpOwn (model prog w) A x.code t (plus (postC prog w A R)) (postE R) s:=by
 obtain ⟨h1,h2⟩:=B.all k
 refine hx A s R (pick (Bs++K) jx) hA hr (B.kstat k) (λp hpm=>h1 p (Fi hil p (hp▸hpm))) (by rw [hp];exact Dx h2 hi hil) (λp hpm=>h1 p (Fi hjl p hpm)) (Dx h2 hj hjl) (by rw [hp];exact Xu h2 hij hil hjl) hn λnw tks h' t' L a1 a2 a3 a4 a5 a6=>?_
 rw [List.map_append,List.nodup_append] at a5
 exact go nw tks h' t' (k.after ux (by rw [Fs,hu]) hul a1 (λb o hb hn=>a2 b o hb λp hp z=>(by
  have:p.1∈x.upd.map (·.1):=List.mem_map_of_mem (f:=(·.1)) hp
  rw [←Fs (tk:=cut x.nt tks)] at this
  obtain ⟨q,hq,e⟩:=mmp this
  exact hn q hq (e.trans z))) a3 (λp hp=>a4 p (mai (hp))) a5.1)
end
noncomputable def Hr(c n:Nat)(cd:Code):Con:=
 ⟨.call (.builtin "tuple.__new__") ⟨[.type "tuple",.ref (Af cd 1)],[]⟩,[(Af cd 1,Ac (refs c) n)],[],1,λnw tk=>[(nw 0,tupO (refs (tk 0)))],1,λnw _=>.ok (.ret (.ref (nw 0))),1⟩
theorem Ft{w:World}{st:Nat->Option Obj}(c n:Nat)(cd:Code):Ad w st (Hr c n cd) (λ_=>(refs c).length<=5000) (λ_ tk L=>L=[]/\refs (tk 0)=refs c):=by
 intro A s R X hA hdep hst hpre hnod hX hXn hap hnd hR
 have ho:s.heap.get? (Af cd 1)=some (Ac (refs c) n):=(hpre _ (.head _)).1
 have h5:(refs c).length<=5000:=hnd
 have hsz:(refs c).length<=sizeLine:=by rw [sizeLine_eq];omega
 refine codeAny_call_builtin F.plain_tuple_new F.entry_tuple_new (wpAny_of_eq (F.newCall_tuple_1 _) ?_)
 obtain ⟨hp,g,d,tk,os⟩:=s
 have hsub:=sub_tuple_self
 have hinit:=init_tuple_lookup
 have hmh:=madeHere_tuple
 have hT:Shared.TypeIs ⟨hp,g,d,tk,os⟩ (.ref (Af cd 1)) "list":=⟨_,ho,rfl⟩
 wp_walk using wpAny_loadPart' ho,wpAny_typeOf hT,wpAny_collect_seq (hsz:=by simpa using hsz) (Af cd 1) (.inl rfl) ho rfl rfl
 intro h' hk2
 show wpAny _ _ (Builtin.Tuple.tupleExact (refs c).toArray >>= λv=>ret v) _ _ _
 unfold Builtin.Tuple.tupleExact
 refine wpAny_bind (wpAny_newObj_type ?_ (by show (refs c).toArray.size<=sizeLine;simpa using hsz))
 refine wpAny_pure ?_
 refine hR (λ_=>h'.objs.size) (λ_=>c) _ tk [] (.of_kept λb o e=>Heap.get?_push_of_some _ (hk2 b o e)) (λb o e _=>Heap.get?_push_of_some _ (hk2 b o e)) (λ_ hp=>(nomatch hp)) (λp hp=>?_) (by simp [Hr]) ⟨rfl,rfl⟩
 rw [List.append_nil] at hp
 rcases mcm hp with rfl|hp
 ·exact ⟨Heap.get?_push_size _ rfl,(Be.of_kept hk2).none (get?_size h')⟩
 ·cases hp
theorem Vq{P:Params}{k:Tk}{all mid mid2:List Tk}{row:PyD}{rows rows2:List PyD}{i2 i3 i4 i6 m1:Nat}{al:Nat->Addr}{tk:Nat->Tok}{tk':Nat->Tok}(hs:∃ a,all=a++mid)(hs2:∃ a,mid=a++mid2)(h1:tk' 1=tk i6)
  {X N:List AO}(hX:ledK P (k::all) X)(hn:(row::(rows++rows2)).length<=5000):Ch (λL=>Ab L (refs (tk' 1)) (row::(rows++rows2)))
  [(ledK P all,λL=>DatV L (.ref (al m1)) row),(λ_=>True,λL=>L=[]/\refs (tk i2)=[Value.ref (al m1)]),(Ai P mid (tk i2) rows.length,Ag (tk i2) rows al (λj=>tk (i3+j))),(Ai P mid2 (tk (i3+1)) rows2.length,Ag (tk (i3+1)) rows2 al (λj=>tk (i4+j))),
   (λ_=>refs (tk (i4+1))≠[],λL=>L=[]),(λ_=>(refs (tk (i4+1))).length<=5000,λL=>L=[]/\refs (tk i6)=refs (tk (i4+1)))] X N:=by
 have hXa:ledK P all X:=hX.sub Bd
 have hn:(rows++rows2).length+1<=5000:=hn
 rw [List.length_append] at hn
 refine cS hXa λL2 hd=>cS trivial λL3 h3=>?_
 have e3:(refs (tk i2)).length=1:=by rw [h3.2];rfl
 refine cS ⟨(Jb hs hXa).more.more,by omega⟩ λL4 h4=>?_
 obtain ⟨vs,h5,h6⟩:=h4
 have h5:refs (tk (i3+1))=refs (tk i2)++vs:=h5
 have e4:(refs (tk (i3+1))).length=1+rows.length:=by rw [h5,List.length_append,e3,h6.get.1]
 refine cS ⟨(Jb hs2 (Jb hs hXa)).more.more.more,by omega⟩ λL5 h7=>?_
 obtain ⟨us,h8,h9⟩:=h7
 have h8:refs (tk (i4+1))=refs (tk (i3+1))++us:=h8
 have e5:refs (tk (i4+1))=.ref (al m1)::(vs++us):=by rw [h8,h5,h3.2];simp
 have e6:(refs (tk (i4+1))).length<=5000:=by rw [h8,List.length_append,e4,h9.get.1];omega
 refine cS (by rw [e5];exact λz=>nomatch z) λL6 e7=>cS e6 λL7 h10=>cZ ?_
 rw [h1,h10.2,e5]
 exact .cons (DatV.left (DatV.left (DatV.left (DatV.left (DatV.left (DatV.right hd)))))) ((Ab.app (Ab.left h6.right) h9.right).left.left)
noncomputable def coRR(r:Rdr):Code:=.call (.ref 314) ⟨[.ref r.rd],[]⟩
noncomputable def Bw(st:SP)(P:Params)(lo:Addr):Code:=.func (Ae (st P 314)) (envF (st P) 314 lo)
noncomputable def frR0(P:Params)(a1:Tok)(rd:Addr):Obj:=Ek [ent P "reader" a1 (.ref rd)] 1
noncomputable def cRRb(st:SP)(P:Params)(r:Rdr)(p p':Int)(t:Tok)(lo:Addr)(a1:Tok):Con:=
 ⟨Bw st P lo,Au (r.K P p t true)++[(lo,frR0 P a1 r.rd)],[(r.d,λtk=>r.dict P p' (tk 0)),(lo,λtk=>frRR P a1 (tk 2) (tk 3) (tk 4) r.rd (tk 5) "" (tk 6) (tk 7))],1,λnw tk=>[(nw 0,tupO (refs (tk 1)))],8,λnw _=>.ok (.ret (.ref (nw 0))),105⟩
noncomputable def cRR(P:Params)(r:Rdr)(p p':Int)(t:Tok):Con:=
 ⟨coRR r,Au (r.K P p t true),[(r.d,λtk=>r.dict P p' (tk 0))],1,λnw tk=>[(nw 0,tupO (refs (tk 1)))],2,λnw _=>.ok (.ret (.ref (nw 0))),110⟩

theorem Qi{r:Rdr}{p:Int}{t:Tok}{lo:Addr}{a1:Tok}{k:Tk}{all mid mid2 ls:List Tk}{row:PyD}{rows rows2:List PyD}(h:RdP r p (k::all))(hw:wdB (some k) "CHARACTERS"=true)(he:ExTk "CHARACTERS" all mid row)(hs2:∃ a,mid=a++mid2)(hi:∀ x kt wt t c n,OkF w b (cLp Aa w.params r (far (p+1) all mid) (far (p+1) all mid2) t x "CHARACTERS" kt wt c n) (Ai w.params mid c rows.length) (Ag c rows))(ho:∀ x kind kt wt t c n,OkF w b (cOut Aa w.params r (far (p+1) all mid2) (far (p+1) all ls) t x kind kt wt c n) (Ai w.params mid2 c rows2.length) (Ag c rows2))(hlen:(row::(rows++rows2)).length<=5000):OkT w b (cRRb Aa w.params r p (far (p+1) all ls) t lo a1) (Cq (Ae (Aa w.params 314)) (envF (Aa w.params) 314 lo)) (ledK w.params (k::all)) (λnw tk L=>Ab L (refs (tk 1)) (row::(rows++rows2))):=by
 let lZ:List (Fm w b):=[fl (By w.params r p t "CHARACTERS") (ledK w.params (k::all)) nL (Cf Ao h hw),⟨λA T c=>.full (cRF (coEx r "CHARACTERS" (Aj c 1)) 90 w.params r (p+1) (far (p+1) all mid) (T 9)) (ledK w.params all) (λnw _ L=>DatV L (.ref (nw 0)) row),λ_ _ _=>ex_F h.tail he⟩,xP0,⟨λA T c=>.full (cLp Aa w.params r (far (p+1) all mid) (far (p+1) all mid2) (T 18) ⟨loOf c,A 0,a1,T 0,T 2,T 7⟩ "CHARACTERS" (T 3) (T 6) (T 19) (T 20)) (Ai w.params mid (T 19) rows.length) (Ag (T 19) rows),λ_ _ _=>hi _ _ _ _ _ _⟩,⟨λA T c=>.full (cOut Aa w.params r (far (p+1) all mid2) (far (p+1) all ls) (T 21) ⟨loOf c,A 0,a1,T 0,T 2,T 7⟩ "CHARACTERS" (T 3) (T 6) (T 22) (T 23)) (Ai w.params mid2 (T 22) rows2.length) (Ag (T 22) rows2),λ_ _ _=>ho _ _ _ _ _ _ _⟩,⟨λA T cd=>.full (Ti (T 25) (T 26) cd) (λ_=>refs (T 25)≠[]) nL,λ_ _ cd=>Mh _ _ cd⟩,⟨λA T cd=>.full (Hr (T 25) (T 26) cd) (λ_=>(refs (T 25)).length<=5000) (λ_ tk L=>L=[]/\refs (tk 0)=refs (T 25)),λ_ _ cd=>Ft _ _ cd⟩]
 refine oTX lZ (r.K w.params p t true++[⟨lo,frR0 w.params a1 r.rd,true,false⟩]) 281 0x2880400400411480002800001471811892041842071851841842071851441041871850c02490051451490002400400420410010010000071870010810400400400001c61c00420410010010000071870010810400400401871c41440c20071440000001000001000001070001c61c0042041001001001001001044140105 [7] [24,29,0,2,7,512,27,28] (λal tk=>[eN (ledK w.params (k::all)),(ledK w.params all,λL=>DatV L (.ref (al 5)) row),(λ_=>True,λL=>L=[]/\refs (tk 19)=[Value.ref (al 5)]),(Ai w.params mid (tk 19) rows.length,Ag (tk 19) rows al (λj=>tk (21+j))),(Ai w.params mid2 (tk (21+1)) rows2.length,Ag (tk (21+1)) rows2 al (λj=>tk (24+j))),(λ_=>refs (tk (24+1))≠[],λL=>L=[]),(λ_=>(refs (tk (24+1))).length<=5000,λL=>L=[]/\refs (tk 29)=refs (tk (24+1)))]) ?_ ?_ (λal tk X hX=>cS hX λL0 _=>(by refine Vq (tk:=tk) (al:=al) he.suf hs2 ?_ hX.more hlen;rfl))<;>intros<;>kernel_rfl
theorem rr_ALL{r:Rdr}{p:Int}{t:Tok}{lo:Addr}{a1:Tok}{k:Tk}{all mid mid2 ls:List Tk}{row:PyD}{rows rows2:List PyD}(h:RdP r p (k::all))(hw:wdB (some k) "ALL"=true)(he:ExTk "ALL" all mid row)(hs2:∃ a,mid=a++mid2)(hi:∀ x kt wt t c n,OkF w b (cLp Aa w.params r (far (p+1) all mid) (far (p+1) all mid2) t x "ALL" kt wt c n) (Ai w.params mid c rows.length) (Ag c rows))(ho:∀ x kind kt wt t c n,OkF w b (cOut Aa w.params r (far (p+1) all mid2) (far (p+1) all ls) t x kind kt wt c n) (Ai w.params mid2 c rows2.length) (Ag c rows2))(hlen:(row::(rows++rows2)).length<=5000):OkT w b (cRRb Aa w.params r p (far (p+1) all ls) t lo a1) (Cq (Ae (Aa w.params 314)) (envF (Aa w.params) 314 lo)) (ledK w.params (k::all)) (λnw tk L=>Ab L (refs (tk 1)) (row::(rows++rows2))):=by
 let lZ:List (Fm w b):=[fl (Ax w.params r p t "CHARACTERS") (ledK w.params (k::all)) nL (Ba Ao h (Dr hw (by decide))),fl (By w.params r p t "ALL") (ledK w.params (k::all)) nL (Cf Bf h hw),⟨λA T c=>.full (cRF (coEx r "ALL" (Aj c 1)) 90 w.params r (p+1) (far (p+1) all mid) (T 11)) (ledK w.params all) (λnw _ L=>DatV L (.ref (nw 0)) row),λ_ _ _=>ex_F h.tail he⟩,xP0,⟨λA T c=>.full (cLp Aa w.params r (far (p+1) all mid) (far (p+1) all mid2) (T 18) ⟨loOf c,A 0,a1,T 0,T 2,T 7⟩ "ALL" (T 4) (T 6) (T 19) (T 20)) (Ai w.params mid (T 19) rows.length) (Ag (T 19) rows),λ_ _ _=>hi _ _ _ _ _ _⟩,⟨λA T c=>.full (cOut Aa w.params r (far (p+1) all mid2) (far (p+1) all ls) (T 21) ⟨loOf c,A 0,a1,T 0,T 2,T 7⟩ "ALL" (T 4) (T 6) (T 22) (T 23)) (Ai w.params mid2 (T 22) rows2.length) (Ag (T 22) rows2),λ_ _ _=>ho _ _ _ _ _ _ _⟩,⟨λA T cd=>.full (Ti (T 25) (T 26) cd) (λ_=>refs (T 25)≠[]) nL,λ_ _ cd=>Mh _ _ cd⟩,⟨λA T cd=>.full (Hr (T 25) (T 26) cd) (λ_=>(refs (T 25)).length<=5000) (λ_ tk L=>L=[]/\refs (tk 0)=refs (T 25)),λ_ _ cd=>Ft _ _ cd⟩]
 refine oTX lZ (r.K w.params p t true++[⟨lo,frR0 w.params a1 r.rd,true,false⟩]) 307 0x2880400400411490002800001481811892041842071851c41842071851841051871851002490051451490002400400420410010010000071870010810400400400001c61c00420410010010061c71051030c01c51000000040000040000041c00071870010810400400401440c20071440000001000001000001070001c61c0042041001001001001001044140105 [7] [24,29,0,2,7,512,27,28] (λal tk=>[eN (ledK w.params (k::all)),eN (ledK w.params (k::all)),(ledK w.params all,λL=>DatV L (.ref (al 5)) row),(λ_=>True,λL=>L=[]/\refs (tk 19)=[Value.ref (al 5)]),(Ai w.params mid (tk 19) rows.length,Ag (tk 19) rows al (λj=>tk (21+j))),(Ai w.params mid2 (tk (21+1)) rows2.length,Ag (tk (21+1)) rows2 al (λj=>tk (24+j))),(λ_=>refs (tk (24+1))≠[],λL=>L=[]),(λ_=>(refs (tk (24+1))).length<=5000,λL=>L=[]/\refs (tk 29)=refs (tk (24+1)))]) ?_ ?_ (λal tk X hX=>cS hX λL0 _=>cS hX.more λL1 _=>(by refine Vq (tk:=tk) (al:=al) he.suf hs2 ?_ hX.more.more hlen;rfl))<;>intros<;>kernel_rfl
theorem Xo{r:Rdr}{p:Int}{t:Tok}{lo:Addr}{a1:Tok}{k:Tk}{all mid mid2 ls:List Tk}{row:PyD}{rows rows2:List PyD}(h:RdP r p (k::all))(hw:wdB (some k) "LEADING"=true)(he:ExTk "LEADING" all mid row)(hs2:∃ a,mid=a++mid2)(hi:∀ x kt wt t c n,OkF w b (cLp Aa w.params r (far (p+1) all mid) (far (p+1) all mid2) t x "LEADING" kt wt c n) (Ai w.params mid c rows.length) (Ag c rows))(ho:∀ x kind kt wt t c n,OkF w b (cOut Aa w.params r (far (p+1) all mid2) (far (p+1) all ls) t x kind kt wt c n) (Ai w.params mid2 c rows2.length) (Ag c rows2))(hlen:(row::(rows++rows2)).length<=5000):OkT w b (cRRb Aa w.params r p (far (p+1) all ls) t lo a1) (Cq (Ae (Aa w.params 314)) (envF (Aa w.params) 314 lo)) (ledK w.params (k::all)) (λnw tk L=>Ab L (refs (tk 1)) (row::(rows++rows2))):=by
 let lZ:List (Fm w b):=[fl (Ax w.params r p t "CHARACTERS") (ledK w.params (k::all)) nL (Ba Ao h (Dr hw (by decide))),fl (Ax w.params r p t "ALL") (ledK w.params (k::all)) nL (Ba Bf h (Dr hw (by decide))),fl (By w.params r p t "LEADING") (ledK w.params (k::all)) nL (Cf Bn h hw),⟨λA T c=>.full (cRF (coEx r "LEADING" (Aj c 1)) 90 w.params r (p+1) (far (p+1) all mid) (T 13)) (ledK w.params all) (λnw _ L=>DatV L (.ref (nw 0)) row),λ_ _ _=>ex_F h.tail he⟩,xP0,⟨λA T c=>.full (cLp Aa w.params r (far (p+1) all mid) (far (p+1) all mid2) (T 18) ⟨loOf c,A 0,a1,T 0,T 2,T 7⟩ "LEADING" (T 5) (T 6) (T 19) (T 20)) (Ai w.params mid (T 19) rows.length) (Ag (T 19) rows),λ_ _ _=>hi _ _ _ _ _ _⟩,⟨λA T c=>.full (cOut Aa w.params r (far (p+1) all mid2) (far (p+1) all ls) (T 21) ⟨loOf c,A 0,a1,T 0,T 2,T 7⟩ "LEADING" (T 5) (T 6) (T 22) (T 23)) (Ai w.params mid2 (T 22) rows2.length) (Ag (T 22) rows2),λ_ _ _=>ho _ _ _ _ _ _ _⟩,⟨λA T cd=>.full (Ti (T 25) (T 26) cd) (λ_=>refs (T 25)≠[]) nL,λ_ _ cd=>Mh _ _ cd⟩,⟨λA T cd=>.full (Hr (T 25) (T 26) cd) (λ_=>(refs (T 25)).length<=5000) (λ_ tk L=>L=[]/\refs (tk 0)=refs (T 25)),λ_ _ cd=>Ft _ _ cd⟩]
 refine oTX lZ (r.K w.params p t true++[⟨lo,frR0 w.params a1 r.rd,true,false⟩]) 333 0x28804004004114a0002800001491811892041842071852041842071851c41061871851402490051451490002400400420410010010000071870010810400400401871c41440c40071440000001000001000001070001c61c00420410010010051030c01c51000000040000040000041c00071870010810400400401440c20071440000001000001000001070001c61c0042041001001001001001044140105 [7] [24,29,0,2,7,512,27,28] (λal tk=>[eN (ledK w.params (k::all)),eN (ledK w.params (k::all)),eN (ledK w.params (k::all)),(ledK w.params all,λL=>DatV L (.ref (al 5)) row),(λ_=>True,λL=>L=[]/\refs (tk 19)=[Value.ref (al 5)]),(Ai w.params mid (tk 19) rows.length,Ag (tk 19) rows al (λj=>tk (21+j))),(Ai w.params mid2 (tk (21+1)) rows2.length,Ag (tk (21+1)) rows2 al (λj=>tk (24+j))),(λ_=>refs (tk (24+1))≠[],λL=>L=[]),(λ_=>(refs (tk (24+1))).length<=5000,λL=>L=[]/\refs (tk 29)=refs (tk (24+1)))]) ?_ ?_ (λal tk X hX=>cS hX λL0 _=>cS hX.more λL1 _=>cS hX.more.more λL2 _=>(by refine Vq (tk:=tk) (al:=al) he.suf hs2 ?_ hX.more.more.more hlen;rfl))<;>intros<;>kernel_rfl
theorem Ad4{r:Rdr}{p:Int}{t:Tok}{lo:Addr}{a1:Tok}{k:Tk}{all mid mid2 ls:List Tk}{row:PyD}{rows rows2:List PyD}(h:RdP r p (k::all))(hw:wdB (some k) "FIRST"=true)(he:ExTk "FIRST" all mid row)(hs2:∃ a,mid=a++mid2)(hi:∀ x kt wt t c n,OkF w b (cLp Aa w.params r (far (p+1) all mid) (far (p+1) all mid2) t x "FIRST" kt wt c n) (Ai w.params mid c rows.length) (Ag c rows))(ho:∀ x kind kt wt t c n,OkF w b (cOut Aa w.params r (far (p+1) all mid2) (far (p+1) all ls) t x kind kt wt c n) (Ai w.params mid2 c rows2.length) (Ag c rows2))(hlen:(row::(rows++rows2)).length<=5000):OkT w b (cRRb Aa w.params r p (far (p+1) all ls) t lo a1) (Cq (Ae (Aa w.params 314)) (envF (Aa w.params) 314 lo)) (ledK w.params (k::all)) (λnw tk L=>Ab L (refs (tk 1)) (row::(rows++rows2))):=by
 let lZ:List (Fm w b):=[fl (Ax w.params r p t "CHARACTERS") (ledK w.params (k::all)) nL (Ba Ao h (Dr hw (by decide))),fl (Ax w.params r p t "ALL") (ledK w.params (k::all)) nL (Ba Bf h (Dr hw (by decide))),fl (Ax w.params r p t "LEADING") (ledK w.params (k::all)) nL (Ba Bn h (Dr hw (by decide))),fl (By w.params r p t "FIRST") (ledK w.params (k::all)) nL (Cf Dw h hw),⟨λA T c=>.full (cRF (coEx r "FIRST" (Aj c 1)) 90 w.params r (p+1) (far (p+1) all mid) (T 15)) (ledK w.params all) (λnw _ L=>DatV L (.ref (nw 0)) row),λ_ _ _=>ex_F h.tail he⟩,xP0,⟨λA T c=>.full (cLp Aa w.params r (far (p+1) all mid) (far (p+1) all mid2) (T 18) ⟨loOf c,A 0,a1,T 0,T 2,T 7⟩ "FIRST" (T 6) (T 6) (T 19) (T 20)) (Ai w.params mid (T 19) rows.length) (Ag (T 19) rows),λ_ _ _=>hi _ _ _ _ _ _⟩,⟨λA T c=>.full (cOut Aa w.params r (far (p+1) all mid2) (far (p+1) all ls) (T 21) ⟨loOf c,A 0,a1,T 0,T 2,T 7⟩ "FIRST" (T 6) (T 6) (T 22) (T 23)) (Ai w.params mid2 (T 22) rows2.length) (Ag (T 22) rows2),λ_ _ _=>ho _ _ _ _ _ _ _⟩,⟨λA T cd=>.full (Ti (T 25) (T 26) cd) (λ_=>refs (T 25)≠[]) nL,λ_ _ cd=>Mh _ _ cd⟩,⟨λA T cd=>.full (Hr (T 25) (T 26) cd) (λ_=>(refs (T 25)).length<=5000) (λ_ tk L=>L=[]/\refs (tk 0)=refs (T 25)),λ_ _ cd=>Ft _ _ cd⟩]
 refine oTX lZ (r.K w.params p t true++[⟨lo,frR0 w.params a1 r.rd,true,false⟩]) 359 0x28804004004114b00028000014a1811892041842071852441842071852041071871851802490051451490002400400420410010010061c71051031401c51000000040000040000041c00071870010810400400401440c40071440000001000001000001070001c61c00420410010010051030c01c51000000040000040000041c00071870010810400400401440c20071440000001000001000001070001c61c0042041001001001001001044140105 [7] [24,29,0,2,7,512,27,28] (λal tk=>[eN (ledK w.params (k::all)),eN (ledK w.params (k::all)),eN (ledK w.params (k::all)),eN (ledK w.params (k::all)),(ledK w.params all,λL=>DatV L (.ref (al 5)) row),(λ_=>True,λL=>L=[]/\refs (tk 19)=[Value.ref (al 5)]),(Ai w.params mid (tk 19) rows.length,Ag (tk 19) rows al (λj=>tk (21+j))),(Ai w.params mid2 (tk (21+1)) rows2.length,Ag (tk (21+1)) rows2 al (λj=>tk (24+j))),(λ_=>refs (tk (24+1))≠[],λL=>L=[]),(λ_=>(refs (tk (24+1))).length<=5000,λL=>L=[]/\refs (tk 29)=refs (tk (24+1)))]) ?_ ?_ (λal tk X hX=>cS hX λL0 _=>cS hX.more λL1 _=>cS hX.more.more λL2 _=>cS hX.more.more.more λL3 _=>(by refine Vq (tk:=tk) (al:=al) he.suf hs2 ?_ hX.more.more.more.more hlen;rfl))<;>intros<;>kernel_rfl
noncomputable def loF:Code->Addr
 | .func _ e=>e.locals
 | _=>0
theorem Adx{p:Int}{k:Tk}{all ls:List Tk}:Mine.far p (k::all) ls=Mine.far (p+1) all ls:=by unfold Mine.far;simp only [List.length_cons];omega
theorem rrb_ok{r:Rdr}{p:Int}{all ls:List Tk}{rows:List PyD}(h:RdP r p all)(ho:Fo all ls rows)(hne:rows≠[])(hlen:rows.length<=5000)(t:Tok)(lo:Addr)(a1:Tok) :
  OkF w b (cRRb Aa w.params r p (Mine.far p all ls) t lo a1) (ledK w.params all) (λnw tk L=>Ab L (refs (tk 1)) rows):=by
 cases ho with
 | stop=>exact absurd rfl hne
 | @sort k all mid mid2 ls kind0 row rows rows2 hk hw he hi ho=>
  have e2:Mine.far (Mine.far (p+1) all mid) mid mid2=Mine.far (p+1) all mid2:=Nd
  have e3:Mine.far (Mine.far (p+1) all mid2) mid2 ls=Mine.far (p+1) all ls:=Nd
  have hmid:=h.tail.far he.suf
  have hi':∀ x kt wt t c n,OkF w b (cLp Aa w.params r (Mine.far (p+1) all mid) (Mine.far (p+1) all mid2) t x kind0 kt wt c n) (Ai w.params mid c rows.length) (Ag c rows):=λx kt wt t c n=>by
   have z:=lp_ok (b:=b) (w:=w) (x:=x) (kt:=kt) (wt:=wt) hi hmid t c n
   rwa [e2] at z
  have hs2:∃ a,all=a++mid2:=by
   obtain ⟨a,ha⟩:=he.suf
   obtain ⟨b,hb⟩:=hi.suf
   exact ⟨a++b,by rw [ha,hb,List.append_assoc]⟩
  have ho':∀ x kind kt wt t c n,OkF w b (cOut Aa w.params r (Mine.far (p+1) all mid2) (Mine.far (p+1) all ls) t x kind kt wt c n) (Ai w.params mid2 c rows2.length) (Ag c rows2):=λx kind kt wt t c n=>by
   have z:=out_ok (b:=b) (w:=w) ho (h.tail.far hs2) x kind kt wt t c n
   rwa [e3] at z
  rw [Adx]
  refine Ah1 (λnw _=>.ref (nw 0)) rfl (by show 1<=105;decide) (λ_ _=>rfl) ?_
  rcases hk with rfl|rfl|rfl|rfl
  ·exact Qi h hw he hi.suf hi' ho' hlen
  ·exact rr_ALL h hw he hi.suf hi' ho' hlen
  ·exact Xo h hw he hi.suf hi' ho' hlen
  ·exact Ad4 h hw he hi.suf hi' ho' hlen

theorem res_R(c:Code):Ok w b (cRes "R" false c):=by
 let lZ:List (Fm w b):=[pl (cIn (resS w.params) " R " false) (Dj (by kernel_rfl))]
 refine oP lZ ([]) 40 g4N [] [] ?_<;>intros<;>kernel_rfl
theorem Afx{r:Rdr}{p:Int}{t:Tok}{all ls:List Tk}{rows:List PyD}(h:RdP r p all)(ho:Fo all ls rows)(hne:rows≠[])(hlen:rows.length<=5000):OkF w b (cRR w.params r p (far p all ls) t) (ledK w.params all) (λnw tk L=>Ab L (refs (tk 1)) rows):=by
 let lZ:List (Fm w b):=[⟨λA T c=>.full (cRRb Aa w.params r p (far p all ls) t (loF c) (T 0)) (ledK w.params all) (λnw tk L=>Ab L (refs (tk 1)) rows),λ_ _ _=>rrb_ok h ho hne hlen _ _ _⟩]
 refine oF lZ (r.K w.params p t true) 17 0xc00800c2042001001 [1] [1,2] (λal tk=>[(ledK w.params all,λL=>Ab L (refs (tk (1+1))) rows)]) ?_ (λal tk X hX=>cS hX λL hL=>cZ hL)<;>intros<;>kernel_rfl
noncomputable abbrev T2:=Str × Str
noncomputable abbrev w2(b:Str):T2:=("word",b)
noncomputable abbrev l2(b:Str):T2:=("literal",b)
noncomputable def Tk.pw(k:Tk):T2:=(k.kd,k.wo)
theorem Tk.eq_as{k:Tk}{a b:Str}(h:k.pw=(a,b)):k=k.as a b:=by
 obtain ⟨h1,h2⟩:=Prod.mk.inj h
 obtain ⟨⟩:=k
 subst h1 h2
 rfl
theorem Dg{k:Tk}{a b:Str}(h:k.pw=(a,b))(ww:Str):wdB (some k) ww=(sEqB a "word" && sEqB b ww):=by rw [Tk.eq_as h];rfl
theorem Gt{k:Tk}{a b:Str}(h:k.pw=(a,b))(ww:Str):sgB (some k) ww=(sEqB a "sign" && sEqB b ww):=by rw [Tk.eq_as h];rfl
theorem Gu{k:Tk}{a b:Str}(h:k.pw=(a,b))(ww:Str):kdB (some k) ww=sEqB a ww:=by rw [Tk.eq_as h];rfl
noncomputable def Soft(ls:List Tk):Prop:=wdB ls.head? "OF"=false/\wdB ls.head? "IN"=false/\sgB ls.head? "("=false
noncomputable def Hard(ls:List Tk):Prop:=Soft ls/\wdB ls.head? "BEFORE"=false/\wdB ls.head? "AFTER"=false
structure OpOk (toks:List T2)(o:Op):Prop where
 op:∀ (ks ls:List Tk),ks.map Tk.pw=toks->Soft ls->OpTk ks ls o
 hard:∀ (ks ls:List Tk),ks.map Tk.pw=toks->Hard (ks++ls)
 ini:∀ (ks ls:List Tk),ks.map Tk.pw=toks->wdB (ks++ls).head? "INITIAL"=false
 bt:∀ (ks ls:List Tk),ks.map Tk.pw=toks->BtB (ks++ls).head? true
theorem Ja{k:T2}{ks:List Tk}(h:ks.map Tk.pw=[k]):∃ x,ks=[x]/\x.pw=k:=by
 cases ks with
 | nil=>cases h
 | cons x r=>
  cases r with
  | nil=>exact ⟨x,rfl,(List.cons.inj h).1⟩
  | cons y r=>cases (List.cons.inj h).2
theorem Bt{k:Tk}{ls:List Tk}{a b:Str}(h:k.pw=(a,b))(h1:(sEqB a "word" && sEqB b "OF")=false)(h2:(sEqB a "word" && sEqB b "IN")=false)(h3:(sEqB a "sign" && sEqB b "(")=false)
  (h4:(sEqB a "word" && sEqB b "BEFORE")=false)(h5:(sEqB a "word" && sEqB b "AFTER")=false):Hard (k::ls):=
 ⟨⟨(Dg h _).trans h1,(Dg h _).trans h2,(Gt h _).trans h3⟩,(Dg h _).trans h4,(Dg h _).trans h5⟩
theorem Br{x:Str}{bs:Array UInt8}(ho:∀ {w:World}{b:B3} c,Ok w b (cOct x bs c)):OpOk [l2 x] (.lit bs):=by
 refine ⟨λks ls h _=>?_,λks ls h=>?_,λks ls h=>?_,λks ls h=>?_⟩
 all_goals obtain ⟨k,rfl,e⟩:=Ja h
 ·refine .lit ((Gt e _).trans rfl) ((Gt e _).trans rfl) ((Gu e _).trans (by decide)) ((Gu e _).trans (by decide)) ?_
  have:k.wo=x:=(Prod.mk.inj e).2
  rw [this]
  exact @ho
 ·exact Bt e rfl rfl rfl rfl rfl
 ·exact (Dg e _).trans rfl
 ·intro w b r p t hat c
  exact Ii hat (λc=>Pp hat ((Gt e _).trans rfl) ((Gt e _).trans rfl) ((Gu e _).trans (by decide)) ((Gu e _).trans (by decide)) c) ((Dg e _).trans rfl) c
theorem Sk:OpOk [w2 "SPACES"] (.fig "SPACE"):=by
 refine ⟨λks ls h _=>?_,λks ls h=>?_,λks ls h=>?_,λks ls h=>?_⟩
 all_goals obtain ⟨k,rfl,e⟩:=Ja h
 ·rw [Tk.eq_as e];exact .spaces
 ·exact Bt e (by decide) (by decide) (by decide) (by decide) (by decide)
 ·exact (Dg e _).trans (by decide)
 ·intro w b r p t hat c
  have hat:At r p (some k):=hat
  show Ok w b (Fj w.params r p t (some k) true c)
  rw [Tk.eq_as e] at hat ⊢
  exact Ii hat (λc=>Kc hat c) (by show (sEqB "word" "word" && sEqB "SPACES" "ALL")=false;decide) c
theorem Adf:OpOk [w2 "ZEROS"] (.fig "ZERO"):=by
 refine ⟨λks ls h _=>?_,λks ls h=>?_,λks ls h=>?_,λks ls h=>?_⟩
 all_goals obtain ⟨k,rfl,e⟩:=Ja h
 ·rw [Tk.eq_as e];exact .zeros
 ·exact Bt e (by decide) (by decide) (by decide) (by decide) (by decide)
 ·exact (Dg e _).trans (by decide)
 ·intro w b r p t hat c
  have hat:At r p (some k):=hat
  show Ok w b (Fj w.params r p t (some k) true c)
  rw [Tk.eq_as e] at hat ⊢
  exact Ii hat (λc=>Lj hat c) (by show (sEqB "word" "word" && sEqB "ZEROS" "ALL")=false;decide) c
theorem bt_K{k:Tk}{ls:List Tk}(e:k.pw=w2 "K"):BtB (k::ls).head? true:=by
 intro w b r p t hat c
 have hat:At r p (some k):=hat
 show Ok w b (Fj w.params r p t (some k) true c)
 rw [Tk.eq_as e] at hat ⊢
 exact Ii hat (λc=>Fd hat rfl rfl (show sEqB "word" "number"=false by decide) (show sEqB "word" "literal"=false by decide) (show sEqB "word" "word"=true by decide) Qj c) (by show (sEqB "word" "word" && sEqB "K" "ALL")=false;decide) c
theorem op_K:OpOk [w2 "K"] (.ref "K"):=by
 refine ⟨λks ls h hs=>?_,λks ls h=>?_,λks ls h=>?_,λks ls h=>?_⟩
 all_goals obtain ⟨k,rfl,e⟩:=Ja h
 ·rw [Tk.eq_as e];exact .ref hs.1 hs.2.1 hs.2.2
 ·exact Bt e (by decide) (by decide) (by decide) (by decide) (by decide)
 ·exact (Dg e _).trans (by decide)
 ·exact bt_K e
theorem Oh:OpOk [w2 "K",w2 "OF",w2 "R"] (.refOf "K" "R"):=by
 have key:∀ ks:List Tk,ks.map Tk.pw=[w2 "K",w2 "OF",w2 "R"]->∃ k o z:Tk,ks=[k,o,z]/\k.pw=w2 "K"/\o.pw=w2 "OF"/\z.pw=w2 "R":=by
  intro ks h
  match ks,h with
  | [k,o,z],h=>simp only [List.map_cons,List.map_nil,List.cons.injEq,and_true] at h;exact ⟨k,o,z,rfl,h⟩
  | [],h=>cases h
  | [_],h=>cases (List.cons.inj h).2
  | [_,_],h=>cases (List.cons.inj (List.cons.inj h).2).2
  | _::_::_::_::_,h=>cases (List.cons.inj (List.cons.inj (List.cons.inj h).2).2).2
 refine ⟨λks ls h hs=>?_,λks ls h=>?_,λks ls h=>?_,λks ls h=>?_⟩
 all_goals obtain ⟨k,o,z,rfl,e,e2,e3⟩:=key ks h
 ·have hz:z.wo="R":=(Prod.mk.inj e3).2
  have z1:OpTk [k.as "word" "K",o,z] ls (.refOf "K" z.wo):=.refOf ((Dg e2 _).trans (by decide)) ((Gu e3 _).trans (by decide)) (λ{w b} c=>by rw [hz];exact res_R c) hs.1 hs.2.1 hs.2.2
  rw [←Tk.eq_as e,hz] at z1
  exact z1
 ·exact Bt e (by decide) (by decide) (by decide) (by decide) (by decide)
 ·exact (Dg e _).trans (by decide)
 ·exact bt_K e
structure BdOk (toks:List T2)(o1 o2:Option Op):Prop where
 bd:∀ (ks ls:List Tk),ks.map Tk.pw=toks->Hard ls->BdTk (ks++ls) ls o1 o2
 soft:∀ (ks ls:List Tk),ks.map Tk.pw=toks->Hard ls->Soft (ks++ls)
theorem Iv{k:Tk}{ls:List Tk}{b:Str}(h:k.pw=w2 b)(h1:sEqB b "OF"=false)(h2:sEqB b "IN"=false):Soft (k::ls):=
 ⟨(Dg h _).trans (by rw [h1,Bool.and_false]),(Dg h _).trans (by rw [h2,Bool.and_false]),(Gt h _).trans rfl⟩
theorem Yv:BdOk [] none none:=by
 refine ⟨λks ls h hl=>?_,λks ls h hl=>?_⟩
 all_goals obtain rfl:=List.map_eq_nil_iff.mp h
 ·exact .no hl.2.1 hl.2.2
 ·exact hl.1
theorem Um{toks:List T2}{a b:T2}{ks:List Tk}(h:ks.map Tk.pw=a::b::toks):∃ x y r,ks=x::y::r/\x.pw=a/\y.pw=b/\r.map Tk.pw=toks:=by
 match ks,h with
 | [],h=>cases h
 | [_],h=>cases (List.cons.inj h).2
 | x::y::r,h=>exact ⟨x,y,r,rfl,(List.cons.inj h).1,(List.cons.inj (List.cons.inj h).2).1,(List.cons.inj (List.cons.inj h).2).2⟩
theorem Cv{toks:List T2}{a:T2}{ks:List Tk}(h:ks.map Tk.pw=a::toks):∃ x r,ks=x::r/\x.pw=a/\r.map Tk.pw=toks:=by
 match ks,h with
 | [],h=>cases h
 | x::r,h=>exact ⟨x,r,rfl,(List.cons.inj h).1,(List.cons.inj h).2⟩
theorem Ey{k:Tk}{b:Str}(h:k.pw=w2 b)(h1:sEqB b b=true):wdB (some k) b=true:=(Dg h _).trans (by rw [h1,Bool.and_true];decide)
theorem bd_B{toks:List T2}{o:Op}(h:OpOk toks o):BdOk (w2 "BEFORE"::w2 "INITIAL"::toks) (some o) none:=by
 refine ⟨λks ls e hl=>?_,λks ls e hl=>?_⟩
 all_goals obtain ⟨k,i,ks,rfl,e1,e2,e3⟩:=Um e
 ·exact .b (Ey e1 (by decide)) (Ey e2 (by decide)) (h.op ks ls e3 hl.1) hl.2.2
 ·exact Iv e1 (by decide) (by decide)
theorem bd_A{toks:List T2}{o:Op}(h:OpOk toks o):BdOk (w2 "AFTER"::toks) none (some o):=by
 refine ⟨λks ls e hl=>?_,λks ls e hl=>?_⟩
 all_goals obtain ⟨k,ks,rfl,e1,e3⟩:=Cv e
 ·exact .a (Ey e1 (by decide)) (h.ini ks ls e3) (h.op ks ls e3 hl.1) hl.2.1
 ·exact Iv e1 (by decide) (by decide)
theorem Aeg{toks toks':List T2}{o o':Op}(h:OpOk toks o)(h':OpOk toks' o'):BdOk (w2 "BEFORE"::w2 "INITIAL"::(toks++w2 "AFTER"::toks')) (some o) (some o'):=by
 refine ⟨λks ls e hl=>?_,λks ls e hl=>?_⟩
 all_goals obtain ⟨k,i,ks,rfl,e1,e2,e3⟩:=Um e
 ·obtain ⟨k1,k2,rfl,e4,e5⟩:=List.map_eq_append_iff.mp e3
  obtain ⟨k',k3,rfl,e6,e7⟩:=Cv e5
  have z:BdTk (k::i::(k1++(k'::(k3++ls)))) ls (some o) (some o'):=.ba (Ey e1 (by decide)) (Ey e2 (by decide)) (h.op _ _ e4 (Iv e6 (by decide) (by decide))) (Ey e6 (by decide)) (h'.ini _ _ e7) (h'.op _ _ e7 hl.1)
  simpa using z
 ·exact Iv e1 (by decide) (by decide)
theorem Aeh{toks toks':List T2}{o o':Op}(h:OpOk toks o)(h':OpOk toks' o'):BdOk (w2 "AFTER"::(toks++w2 "BEFORE"::w2 "INITIAL"::toks')) (some o') (some o):=by
 refine ⟨λks ls e hl=>?_,λks ls e hl=>?_⟩
 all_goals obtain ⟨k,ks,rfl,e1,e3⟩:=Cv e
 ·obtain ⟨k1,k2,rfl,e4,e5⟩:=List.map_eq_append_iff.mp e3
  obtain ⟨k',i',k3,rfl,e6,e8,e7⟩:=Um e5
  have z:BdTk (k::(k1++(k'::i'::(k3++ls)))) ls (some o') (some o):=.ab (Ey e1 (by decide)) (h.ini _ _ e4) (h.op _ _ e4 (Iv e6 (by decide) (by decide))) (Ey e6 (by decide)) (Ey e8 (by decide)) (h'.op _ _ e7 hl.1)
  simpa using z
 ·exact Iv e1 (by decide) (by decide)
structure Ff (kind:Str)(toks:List T2)(row:PyD):Prop where
 ex:∀ (ks ls:List Tk),ks.map Tk.pw=toks->Hard ls->ExTk kind (ks++ls) ls row
 hard:∀ (ks ls:List Tk),ks.map Tk.pw=toks->Hard (ks++ls)
 bt:sEqB kind "CHARACTERS"=false->∀ (ks ls:List Tk),ks.map Tk.pw=toks->BtB (ks++ls).head? true
theorem Aa9{kind:Str}{tb bd:List T2}{ob:Op}{o1 o2:Option Op}(hk:sEqB kind "CHARACTERS"=true)(hb:OpOk tb ob)(hw:WOk none ob)(hd:BdOk bd o1 o2):Ff kind (w2 "BY"::(tb++bd)) (rowD kind none ob o1 o2):=by
 refine ⟨λks ls e hl=>?_,λks ls e=>?_,λz=>?_⟩
 ·obtain ⟨k,ks,rfl,e1,e2⟩:=Cv e
  obtain ⟨k1,k2,rfl,e4,e5⟩:=List.map_eq_append_iff.mp e2
  have z:ExTk kind (k::(k1++(k2++ls))) ls _:=.ch hk (Ey e1 (by decide)) (hb.op _ _ e4 (hd.soft _ _ e5 hl)) hw (hd.bd _ _ e5 hl)
  simpa using z
 ·obtain ⟨k,ks,rfl,e1,e2⟩:=Cv e
  exact Bt e1 (by decide) (by decide) (by decide) (by decide) (by decide)
 ·rw [hk] at z;cases z
theorem Qm{kind:Str}{t1 tb bd:List T2}{o ob:Op}{o1 o2:Option Op}(hk:sEqB kind "CHARACTERS"=false)(h1:OpOk t1 o)(hb:OpOk tb ob)(hw:WOk (some o) ob)(hd:BdOk bd o1 o2):Ff kind (t1++(w2 "BY"::(tb++bd))) (rowD kind (some o) ob o1 o2):=by
 refine ⟨λks ls e hl=>?_,λks ls e=>?_,λ_ ks ls e=>?_⟩
 all_goals
  obtain ⟨k1,k2,rfl,e1,e2⟩:=List.map_eq_append_iff.mp e
 ·obtain ⟨k,ks,rfl,e3,e4⟩:=Cv e2
  obtain ⟨k3,k4,rfl,e5,e6⟩:=List.map_eq_append_iff.mp e4
  have z:ExTk kind (k1++(k::(k3++(k4++ls)))) ls _:=.op hk (h1.op _ _ e1 (Iv e3 (by decide) (by decide))) (Ey e3 (by decide)) (hb.op _ _ e5 (hd.soft _ _ e6 hl)) hw (hd.bd _ _ e6 hl)
  simpa using z
 ·rw [List.append_assoc];exact h1.hard _ _ e1
 ·rw [List.append_assoc];exact h1.bt _ _ e1
noncomputable abbrev Part:=List T2 × PyD
structure Ps (kind:Str)(parts:List Part):Prop where
 k:kind="CHARACTERS"\/kind="ALL"\/kind="LEADING"\/kind="FIRST"
 ne:parts≠[]
 one:sEqB kind "CHARACTERS"=true->∃ p,parts=[p]
 ok:∀ p∈parts,Ff kind p.1 p.2
noncomputable abbrev Cl:=Str × List Part
noncomputable def Lp(ps:List Part):List T2:=(ps.map (·.1)).flatten
noncomputable def Qp:List Cl->List T2
 | []=>[]
 | s::r=>w2 s.1::(Lp s.2++Qp r)
noncomputable def Ir(kind:Str):List Part->List T2
 | []=>[]
 | p::r=>w2 kind::(p.1++Ir kind r)
noncomputable def Iq:List Cl->List T2
 | []=>[]
 | s::r=>Ir s.1 s.2++Iq r
noncomputable def Ei:List Cl->List PyD
 | []=>[]
 | s::r=>s.2.map (·.2)++Ei r
structure Nv (ch:Bool)(ls:List Tk):Prop where
 hard:Hard ls
 no:Pg ls.head?
 bt:ch=false->BtB ls.head? false
noncomputable def Pi(kind:Str):Prop:=kind="CHARACTERS"\/kind="ALL"\/kind="LEADING"\/kind="FIRST"
theorem Su{k:Tk}{ls:List Tk}{kind:Str}(hk:Pi kind)(e:k.pw=w2 kind):Hard (k::ls):=by
 rcases hk with rfl|rfl|rfl|rfl<;>exact Bt e (by decide) (by decide) (by decide) (by decide) (by decide)
theorem Aaz{k:Tk}{ls:List Tk}{kind:Str}(hk:Pi kind)(e:k.pw=w2 kind):BtB (k::ls).head? false:=by
 intro w b r p t hat c
 have hat:At r p (some k):=hat
 show Ok w b (Fj w.params r p t (some k) false c)
 rw [Tk.eq_as e] at hat ⊢
 rcases hk with rfl|rfl|rfl|rfl
 ·exact Bz hat (λc=>La hat c) c
 ·exact Vb hat (λc=>Yu hat c) (show (sEqB "word" "word" && sEqB "ALL" "ALL")=true by decide) c
 ·exact Bz hat (λc=>Os hat c) c
 ·exact Bz hat (λc=>Tj hat c) c
theorem Wi{kind:Str}(hc:sEqB kind "CHARACTERS"=false):∀ (ps:List Part)(ks ls:List Tk),(∀ p∈ps,Ff kind p.1 p.2)->ks.map Tk.pw=Lp ps->Hard ls->BtB ls.head? false->
  InTk kind (ks++ls) ls (ps.map (·.2))/\Hard (ks++ls)
 | [],ks,ls,_,e,hl,hb=>by
  obtain rfl:=List.map_eq_nil_iff.mp (e.trans rfl)
  exact ⟨.stop hc hb,hl⟩
 | p::ps,ks,ls,h,e,hl,hb=>by
  have e:ks.map Tk.pw=p.1++Lp ps:=e
  obtain ⟨k1,k2,rfl,e1,e2⟩:=List.map_eq_append_iff.mp e
  have hp:=h p (.head _)
  obtain ⟨i1,i2⟩:=Wi hc ps k2 ls (λq hq=>h q (.tail _ hq)) e2 hl hb
  rw [List.append_assoc]
  exact ⟨.more hc (hp.bt hc _ _ e1) (hp.ex _ _ e1 i2) i1,hp.hard _ _ e1⟩
theorem Ade(hch:Bool):∀ (ss:List Cl)(ks ls:List Tk),(∀ s∈ss,Ps s.1 s.2)->(hch=true->∀ s∈ss,sEqB s.1 "CHARACTERS"=true)->ks.map Tk.pw=Qp ss->Nv hch ls->
  Fo (ks++ls) ls (Ei ss)/\Hard (ks++ls)/\(hch=false->BtB (ks++ls).head? false):=by
 intro ss
 induction ss with
 | nil=>
  intro ks ls _ _ e hl
  obtain rfl:=List.map_eq_nil_iff.mp (e.trans rfl)
  exact ⟨.stop hl.no,hl.hard,hl.bt⟩
 | cons s ss ih=>
  obtain ⟨kind,ps⟩:=s
  intro ks ls h hc e hl
  obtain ⟨k,ks,rfl,e1,e2⟩:=Cv e
  obtain ⟨k1,k2,rfl,e3,e4⟩:=List.map_eq_append_iff.mp e2
  have hs:=h _ (.head _)
  obtain ⟨o1,o2,o3⟩:=ih k2 ls (λq hq=>h q (.tail _ hq)) (λz q hq=>hc z q (.tail _ hq)) e4 hl
  have e0:k::(k1++k2)++ls=k::(k1++(k2++ls)):=by simp
  rw [e0]
  refine ⟨?_,Su hs.k e1,λ_=>Aaz hs.k e1⟩
  cases hps:ps with
  | nil=>exact absurd hps hs.ne
  | cons p ps'=>
   rw [hps] at e3
   have hok:=hs.ok
   have e3:k1.map Tk.pw=p.1++Lp ps':=e3
   obtain ⟨a1,a2,rfl,e5,e6⟩:=List.map_eq_append_iff.mp e3
   have hp:=hok p (by rw [show ((kind,ps):Cl).2=ps from rfl,hps];exact .head _)
   have hw:wdB (some k) kind=true:=by
    rcases hs.k with z|z|z|z<;>(have z:kind=_:=z;subst z;exact Ey e1 (by decide))
   rw [List.append_assoc]
   show Fo (k::(a1++(a2++(k2++ls)))) ls (p.2::ps'.map (·.2)++Ei ss)
   cases hcc:sEqB kind "CHARACTERS" with
   | true=>
    obtain ⟨q,hq⟩:=hs.one hcc
    have hq:ps=[q]:=hq
    rw [hps] at hq
    obtain ⟨rfl,rfl⟩:=List.cons.inj hq
    obtain rfl:=List.map_eq_nil_iff.mp (e6.trans rfl)
    exact .sort (rows:=[]) hs.k hw (hp.ex _ _ e5 o2) (.ch hcc) o1
   | false=>
    have hf:hch=false:=by
     cases hch with
     | false=>rfl
     | true=>have:=hc rfl _ (.head _);rw [hcc] at this;cases this
    obtain ⟨i1,i2⟩:=Wi hcc ps' a2 (k2++ls) (λq hq=>hok q (by rw [show ((kind,ps):Cl).2=ps from rfl,hps];exact .tail _ hq)) e6 o2 (o3 hf)
    exact .sort hs.k hw (hp.ex _ _ e5 i2) i1 o1
theorem Aaf{kind:Str}(hk:Pi kind):∀ (ps:List Part)(ks ls mid:List Tk)(rows:List PyD),(∀ p∈ps,Ff kind p.1 p.2)->ks.map Tk.pw=Ir kind ps->Fo mid ls rows->Hard mid->(sEqB kind "CHARACTERS"=false->BtB mid.head? false)->
  Fo (ks++mid) ls (ps.map (·.2)++rows)/\Hard (ks++mid)/\(ps≠[]->BtB (ks++mid).head? false):=by
 intro ps
 induction ps with
 | nil=>
  intro ks ls mid rows _ e ho hm hb
  obtain rfl:=List.map_eq_nil_iff.mp (e.trans rfl)
  exact ⟨ho,hm,λz=>absurd rfl z⟩
 | cons p ps ih=>
  intro ks ls mid rows h e ho hm hb
  obtain ⟨k,ks,rfl,e1,e2⟩:=Cv e
  obtain ⟨k1,k2,rfl,e3,e4⟩:=List.map_eq_append_iff.mp e2
  have hp:=h p (.head _)
  obtain ⟨i1,i2,i3⟩:=ih k2 ls mid rows (λq hq=>h q (.tail _ hq)) e4 ho hm hb
  have e0:k::(k1++k2)++mid=k::(k1++(k2++mid)):=by simp
  rw [e0]
  have hw:wdB (some k) kind=true:=by
   rcases hk with rfl|rfl|rfl|rfl<;>exact Ey e1 (by decide)
  refine ⟨?_,Su hk e1,λ_=>Aaz hk e1⟩
  refine .sort (rows:=[]) hk hw (hp.ex _ _ e3 i2) ?_ i1
  cases hcc:sEqB kind "CHARACTERS" with
  | true=>exact .ch hcc
  | false=>
   refine .stop hcc ?_
   cases ps with
   | nil=>
    obtain rfl:=List.map_eq_nil_iff.mp (e4.trans rfl)
    exact hb hcc
   | cons=>exact i3 (λz=>nomatch z)
theorem Aag(hch:Bool):∀ (ss:List Cl)(ks ls:List Tk),(∀ s∈ss,Ps s.1 s.2)->(hch=true->∀ s∈ss,sEqB s.1 "CHARACTERS"=true)->ks.map Tk.pw=Iq ss->Nv hch ls->
  Fo (ks++ls) ls (Ei ss)/\Hard (ks++ls)/\(hch=false->BtB (ks++ls).head? false):=by
 intro ss
 induction ss with
 | nil=>
  intro ks ls _ _ e hl
  obtain rfl:=List.map_eq_nil_iff.mp (e.trans rfl)
  exact ⟨.stop hl.no,hl.hard,hl.bt⟩
 | cons s ss ih=>
  obtain ⟨kind,ps⟩:=s
  intro ks ls h hc e hl
  obtain ⟨k1,k2,rfl,e3,e4⟩:=List.map_eq_append_iff.mp e
  have hs:=h _ (.head _)
  obtain ⟨o1,o2,o3⟩:=ih k2 ls (λq hq=>h q (.tail _ hq)) (λz q hq=>hc z q (.tail _ hq)) e4 hl
  have hb:sEqB kind "CHARACTERS"=false->BtB (k2++ls).head? false:=λhcc=>o3 (by
   cases hch with
   | false=>rfl
   | true=>have:=hc rfl _ (.head _);rw [hcc] at this;cases this)
  obtain ⟨q1,q2,q3⟩:=Aaf hs.k ps k1 ls (k2++ls) (Ei ss) hs.ok e3 o1 o2 hb
  rw [List.append_assoc]
  exact ⟨q1,q2,λ_=>q3 hs.ne⟩
noncomputable def As(c:Code)(j:Nat):Int:=match nth (Xa c) j with
 | some v=>match v with
  | .int k _=>k
  | _=>0
 | none=>0
noncomputable def cIOp(id:String)(f:Int->Int->Int)(c:Code):Con:=
 ⟨.call (.builtin id) ⟨[.int (As c 0) (Aj c 0),.int (As c 1) (Aj c 1)],[]⟩,[],[],0,λ_ _=>[],1,λ_ tk=>.ok (.ret (.int (f (As c 0) (As c 1)) (tk 0))),0⟩
noncomputable def Go(id:String)(a b:Int)(r:Bool)(c:Code):Con:=
 ⟨.call (.builtin id) ⟨[.int a (Aj c 0),.int b (Aj c 1)],[]⟩,[],[],0,λ_ _=>[],0,λ_ _=>.ok (.ret (.bool r)),0⟩
section
variable {w:World}{st:Nat->Option Obj}
theorem Kw{A:Around}{R:Result->Shared->Prop}{s:Shared}{T:String}{name:Str}{id:String}{b:Builtin}{self:Value}{rest:List Value}{r:Made}(h:Slot T name id)(hT:s.TypeIs self T)(hb:entryFor table id=some b)(ha:argsOk id ⟨self::rest,[]⟩)
  (g:Gives (b ⟨self::rest,[]⟩) r)(hs:r.post (λv s=>R (.ok (.ret v)) s) s):codeAny (model prog w) A (.call (.builtin id) ⟨self::rest,[]⟩) R s:=
 codeAny_call_builtin h.plain hb (h.check _ _ _ _ _ _ _ _ hT ha (g prog w A _ s hs))
theorem Sw{id:String}{f:Int->Int->Int}{name:Str}{b:Builtin}{c:Code}(h:Slot "int" name id)(hb:entryFor table id=some b)(ha:∀ x y:Value,argsOk id ⟨[x,y],[]⟩)
  (need:List AO->Prop)(g:∀ X,need X->Gives (b ⟨[.int (As c 0) (Aj c 0),.int (As c 1) (Aj c 1)],[]⟩) (.int (f (As c 0) (As c 1)))):Ad w st (cIOp id f c) need nL:=by
 intro A s R X hA hdep hst hpre hnod hX hXn hap hnd hR
 refine Kw h (typeIs_int _ _ _) hb (ha _ _) (g X hnd) ?_
 exact hR (λ_=>0) (λ_=>s.toks) s.heap (s.toks+1) [] (Be.refl _) (λ_ _ e _=>e) (λ_ hp=>(nomatch hp)) (λ_ hp=>(nomatch hp)) List.nodup_nil rfl
theorem Qz{id:String}{name:Str}{b:Builtin}{c:Code}{x y:Int}{r:Bool}(h:Slot "int" name id)(hb:entryFor table id=some b)(ha:∀ x y:Value,argsOk id ⟨[x,y],[]⟩)
  (g:Gives (b ⟨[.int x (Aj c 0),.int y (Aj c 1)],[]⟩) (.val (.bool r))):(Go id x y r c).Valid w st:=by
 intro A s R hA hdep hst hpre hnod hR
 refine Kw h (typeIs_int _ _ _) hb (ha _ _) g ?_
 exact hR (λ_=>0) (λ_=>0) s.heap s.toks (Be.refl _) (λ_ _ e _=>e) (λ_ hp=>(nomatch hp)) (λ_ hp=>(nomatch hp)) List.nodup_nil
theorem Kf(c:Code):Ad w st (cIOp "int.__add__" (·+·) c) tT nL:=
 Sw F.slot_int_add F.entry_int_add F.args_int_add_2 _ λ_ _=>gives_int_add _ _ _ _
theorem Aey(c:Code):Ad w st (cIOp "int.__mul__" (· * ·) c) (λ_=>IntMulOk (As c 0) (As c 1)) nL:=
 Sw F.slot_int_mul F.entry_int_mul F.args_int_mul_2 _ λ_ h=>gives_int_mul _ _ _ _ h
theorem Wh(c:Code):Ad w st (cIOp "int.__mod__" Int.fmod c) (λ_=>As c 1≠0) nL:=
 Sw F.slot_int_mod F.entry_int_mod F.args_int_mod_2 _ λ_ h=>AutoIntG6.int___mod___int_int_1 _ _ _ _ (by simpa using h)
theorem Wn(c:Code):Ad w st (cIOp "int.__floordiv__" Int.fdiv c) (λ_=>As c 1≠0/\Builtin.divisionGoesByPylong (As c 0) (As c 1)=false) nL:=
 Sw F.slot_int_floordiv F.entry_int_floordiv F.args_int_floordiv_2 _ λ_ h=>AutoIntG4.int___floordiv___int_int_1 _ _ _ _ (by simpa using h.1) (by rw [h.2];exact Bool.false_ne_true)
noncomputable def powF(a b:Int):Int:=a ^ b.toNat
theorem Aet(c:Code):Ad w st (cIOp "int.__pow__" powF c) (λ_=>As c 1 > 0/\As c 0 > 1/\Builtin.Int.intTooBig (((Builtin.Int.intBits (As c 0):Nat):Int) * As c 1)=false) nL:=
 Sw F.slot_int_pow F.entry_int_pow F.args_int_pow_2 _ λ_ h=>AutoIntG2.int___pow___int_int_4 _ _ _ _ (by omega) (by simp;omega) (by simp;omega) (by simp;omega) (by rw [h.2.2];exact Bool.false_ne_true)
theorem Ae2{x y:Int}{r:Bool}(h:(x == y)=r)(c:Code):(Go "int.__eq__" x y r c).Valid w st:=Qz F.slot_int_eq F.entry_int_eq F.args_int_eq_2 (by rw [←h];exact gives_int_eq _ _ _ _)
theorem ne_ok{x y:Int}{r:Bool}(h:(x != y)=r)(c:Code):(Go "int.__ne__" x y r c).Valid w st:=Qz F.slot_int_ne F.entry_int_ne F.args_int_ne_2 (by rw [←h];exact gives_int_ne _ _ _ _)
theorem Ah0{x y:Int}{r:Bool}(h:decide (x > y)=r)(c:Code):(Go "int.__gt__" x y r c).Valid w st:=Qz F.slot_int_gt F.entry_int_gt F.args_int_gt_2 (by rw [←h];exact gives_int_gt _ _ _ _)
theorem Un{x y:Int}{r:Bool}(h:decide (x < y)=r)(c:Code):(Go "int.__lt__" x y r c).Valid w st:=Qz F.slot_int_lt F.entry_int_lt F.args_int_lt_2 (by rw [←h];exact gives_int_lt _ _ _ _)
theorem Abq{A:Around}{R:Result->Shared->Prop}{s:Shared}{id:String}{b:Builtin}{args:List Value}(hk:builtinKind id=none)(hp:plainId id=true)(hb:entryFor table id=some b)(ha:argsOk id ⟨args,[]⟩)
  (hc:wpAny (model prog w) A.in1 (b ⟨args,[]⟩) (λfin s'=>match fin with
   | .done f=>R (.ok f) s'
   | .again c'=>c'.quiet=true/\codeAny (model prog w) A c' R s') (λe s'=>R (.error e) s') s) :
  codeAny (model prog w) A (.call (.builtin id) ⟨args,[]⟩) R s:=by
 refine codeAny_call_builtin hp hb ?_
 simp only [checkBuiltinCall,hk]
 cases hsig:Manifest.signature? id with
 | none=>exact wpAny_pure hc
 | some sig=>
  simp only [argsOk,hsig] at ha
  have h2:Bind.checkArgs id sig ⟨args,[]⟩=pure ():=ha
  show wpAny _ A.in1 (Bind.checkArgs id sig ⟨args,[]⟩) _ _ s
  rw [h2];exact wpAny_pure hc
noncomputable def cSum(l:Addr)(xs:Array (Int × Tok))(n:Nat)(_:Code):Con:=
 ⟨.call (.builtin "sum") ⟨[.ref l],[]⟩,[(l,Ac (intItems xs).toList n)],[],0,λ_ _=>[],1,λ_ tk=>.ok (.ret (.int (preSum (numAt xs) xs.size) (tk 0))),3⟩
theorem Aep{l:Addr}{xs:Array (Int × Tok)}{n:Nat}(c:Code):Ad w st (cSum l xs n c) tT nL:=by
 intro A s R X hA hdep hst hpre hnod hX hXn hap hnd hR
 have ho:s.heap.get? l=some (Ac (intItems xs).toList n):=(hpre _ (.head _)).1
 have hl:s.heap.IsList l (intItems xs):=⟨_,ho,rfl,n,by simp [Ac]⟩
 have fin':∀ (h':Heap)(tk t':Nat),(∀ b o,s.heap.get? b=some o->h'.get? b=some o)->R (.ok (.ret (.int (preSum (numAt xs) xs.size) t'))) { s with heap:=h',toks:=tk }:=λh' tk t' hk=>
  hR (λ_=>0) (λ_=>t') h' tk [] (.of_kept hk) (λb o e _=>hk b o e) (λ_ hp=>(nomatch hp)) (λ_ hp=>(nomatch hp)) List.nodup_nil rfl
 refine Abq F.kind_sum F.plain_sum F.entry_sum (F.args_sum1 _) ?_
 unfold Builtin.«sum»
 simp only [List.length_cons,List.length_nil]
 rw [if_neg (by decide)]
 refine wpAny_bind (wpAny_of_eq (show Builtin.Builtins.bindParams "sum" ["start"] 0 { }=pure [none] from rfl) ?_)
 refine wpAny_bind (iter_intList hl λs₂ e st hfp hlI=>?_)
 subst e
 refine wpAny_bind (wpAny_mkInt ?_)
 refine wpAny_bind (wpAny_pure ?_)
 simp only [List.forIn_cons,List.forIn_nil]
 refine wpAny_bind (wpAny_bind (wpAny_bind (wpAny_isInstance (T:="int") (b:=false) (typeIs_int _ _ _) PySem.sub_int_str ?_)))
 simp only [Bool.false_eq_true,if_false]
 refine wpAny_pure (wpAny_bind (wpAny_bind (wpAny_isInstance (T:="int") (b:=false) (typeIs_int _ _ _) PySem.sub_int_bytes ?_)))
 simp only [Bool.false_eq_true,if_false]
 refine wpAny_pure (wpAny_bind (wpAny_bind (wpAny_isInstance (T:="int") (b:=false) (typeIs_int _ _ _) PySem.sub_int_bytearray ?_)))
 simp only [Bool.false_eq_true,if_false]
 refine wpAny_pure (wpAny_pure ?_)
 refine wpAny_bind (wpAny_newObj_type ?_)
 refine wpAny_pure ⟨plainId_quiet F.plain_sum_loop _,?_⟩
 have W:=Walks.list (prog:=prog) (w:=w) (A:=A.in1) hA s.heap.objs.size l hlI (intItems xs)
 have k0:∀ b o,s.heap.get? b=some o->((s.heap.push { cls:=.type "list_iterator",data:=.fields #[.ref l,.int 0 0] }).push { cls:=.type "list",data:=.seq #[.int 0 s.toks] }).get? b=some o:=λb o e=>Heap.get?_push_of_some _ (Heap.get?_push_of_some _ e)
 have hS:=Heap.get?_push_size (h:=s.heap.push { cls:=.type "list_iterator",data:=.fields #[.ref l,.int 0 0] }) (o:={ cls:=.type "list",data:=.seq #[.int 0 s.toks] }) rfl
 refine codeAny_sum_loopG W (numAt xs) (λ_ _=>intItems_at) _ (λhm=>Nat.lt_irrefl _ (hfp _ hm)) (intItems xs).size 0 _ s.toks 0 0 (Or.inl rfl) rfl (Nat.zero_le _) ?_ hS λh' tk t' hk=>?_
 ·exact W.frame _ _ _ st λb _ o e=>Heap.get?_push_of_some _ e
 ·have z:=fin' h' tk t' λb o e=>hk b o (λhm=>?_) (λz=>?_) (k0 b o e)
  ·simpa [intItems] using z
  ·rcases mcm hm with rfl|hm
   ·exact Nat.lt_irrefl _ (Heap.lt_size e)
   ·cases hm
  ·subst z
   exact absurd (Heap.lt_size e) (Nat.not_lt.mpr (Nat.le_of_lt (by
    show s.heap.objs.size < (s.heap.push _).objs.size
    rw [Heap.size_push];exact Nat.lt_succ_self _)))
end
structure Pen where
 pl:Addr
 cl:Addr
 n:Nat
 k:Nat
 xs:Array (Int × Tok)
structure St where
 turn:Int
 v:Int
noncomputable def Pen.o(x:Pen)(s:St)(t u:Tok):Obj:=Ac [.ref x.cl,.int s.turn t,.int s.v u] x.n
noncomputable def Pen.vs(x:Pen):List Value:=(intItems x.xs).toList
noncomputable def Pen.c(x:Pen):Obj:=Ac x.vs x.k
noncomputable def coDrw(x:Pen)(many:Int)(c:Code):Code:=.call (.ref 541) ⟨[.ref x.pl,.int many (Aj c 1)],[]⟩
noncomputable def Pen.pre(x:Pen)(s:St)(t u:Tok):List AO:=[(x.pl,x.o s t u),(x.cl,x.c)]
noncomputable def Pen.K(x:Pen)(s:St)(t u:Tok):List Ent:=[⟨x.pl,x.o s t u,true,false⟩,⟨x.cl,x.c,false,false⟩]
noncomputable def cDrwA(x:Pen)(s s':St)(many d:Int)(t u:Tok)(c:Code):Con:=
 ⟨coDrw x many c,x.pre s t u,[(x.pl,λtk=>x.o s' t (tk 0))],0,λ_ _=>[],2,λ_ tk=>.ok (.ret (.int d (tk 1))),25⟩
noncomputable def cDrw(x:Pen)(s s':St)(many d:Int)(t u:Tok)(c:Code):Con:=
 ⟨coDrw x many c,x.pre s t u,[(x.pl,λtk=>x.o s' (tk 0) (tk 1))],0,λ_ _=>[],3,λ_ tk=>.ok (.ret (.int d (tk 2))),25⟩
noncomputable def Pen.sum(x:Pen):Int:=preSum (numAt x.xs) x.xs.size
noncomputable def Pen.big(x:Pen)(s:St)(fresh:Int):Int:=powF (fresh+2 * s.turn+5) 7+Int.fmod x.sum 1000003
noncomputable abbrev Rn(a b:Int):Prop:=b≠0/\Builtin.divisionGoesByPylong a b=false
noncomputable abbrev Acg(a b:Int):Prop:=b > 0/\a > 1/\Builtin.Int.intTooBig (((Builtin.Int.intBits a:Nat):Int) * b)=false

theorem drw_A{x:Pen}{s:St}{many:Int}{t u:Tok}(hv:(s.v == 0)=false)(hm:many≠0)(hd:Rn s.v many)(c:Code):OkF w b (cDrwA x s ⟨s.turn,Int.fdiv s.v many⟩ many (Int.fmod s.v many) t u c) tT nL:=by
 let lZ:List (Fm w b):=[pl (Go "int.__eq__" s.v 0 false) (Ae2 hv),⟨λ_ _ c=>.full (cIOp "int.__mod__" Int.fmod c) (λ_=>As c 1≠0) nL,λ_ _ c=>Wh c⟩,⟨λ_ _ c=>.full (cIOp "int.__floordiv__" Int.fdiv c) (λ_=>As c 1≠0/\Builtin.divisionGoesByPylong (As c 0) (As c 1)=false) nL,λ_ _ c=>Wn c⟩]
 refine oFX lZ (x.K s t u) 97 0x10410820020020811010800800820810010c1080080082081082002002082040001001001 [] [8,5] (λal tk=>[(λ_=>many≠0,λL=>L=[]),(λ_=>Rn s.v many,λL=>L=[])]) ?_ ?_ (λal tk X hX=>by refine cS (by first|exact trivial|assumption) λL0 h0=>?_;refine cS (by first|exact trivial|assumption) λL1 h1=>?_;exact cZ (by subst h0;subst h1;rfl))<;>intros<;>kernel_rfl
theorem Ahe{x:Pen}{s:St}{many:Int}{t u:Tok}(hv:(s.v == 0)=true)(hm:many≠0)(h1:(1000003:Int)≠0)(hfit:(x.vs.length:Int) < 2 ^ 63)(hlt:decide (s.turn < (x.vs.length:Int))=true){fr:Int}{ft:Tok}(hfr:x.vs[s.turn.toNat]?=some (.int fr ft))(h0:0<=s.turn)(h63:s.turn < 2 ^ 63)(hgt:decide (fr > many)=true)(hd:Rn fr many)(c:Code):OkF w b (cDrw x s ⟨s.turn+1,Int.fdiv fr many⟩ many (Int.fmod fr many) t u c) tT nL:=by
 let lZ:List (Fm w b):=[pl (Go "int.__eq__" s.v 0 true) (Ae2 hv),pl (λ_=>cLen x.cl x.vs x.k) λ_=>Ht hfit,pl (Go "int.__lt__" s.turn x.vs.length true) (Un hlt),⟨λ_ _ c=>.plain (Abz x.cl x.vs x.k s.turn (Aj c 1) (.int fr ft)),λ_ _ _=>Mk h0 h63 hfr⟩,pl (Go "int.__gt__" fr many true) (Ah0 hgt),fl (cIOp "int.__add__" (·+·)) tT nL Kf,⟨λ_ _ c=>.full (cIOp "int.__mod__" Int.fmod c) (λ_=>As c 1≠0) nL,λ_ _ c=>Wh c⟩,⟨λ_ _ c=>.full (cIOp "int.__floordiv__" Int.fdiv c) (λ_=>As c 1≠0/\Builtin.divisionGoesByPylong (As c 0) (As c 1)=false) nL,λ_ _ c=>Wn c⟩]
 refine oFX lZ (x.K s t u) 211 0x410420800800820490420020020820400480420020020820410820020020810460410010021430c30420020020820440830800800820810000410820020020811c1001080080082081082002002082040001001001 [] [7,18,15] (λal tk=>[(λ_=>True,λL=>L=[]),(λ_=>many≠0,λL=>L=[]),(λ_=>Rn fr many,λL=>L=[])]) ?_ ?_ (λal tk X hX=>by refine cS (by first|exact trivial|assumption) λL0 h0=>?_;refine cS (by first|exact trivial|assumption) λL1 h1=>?_;refine cS (by first|exact trivial|assumption) λL2 h2=>?_;exact cZ (by subst h0;subst h1;subst h2;rfl))<;>intros<;>kernel_rfl
theorem Ahd{x:Pen}{s:St}{many:Int}{t u:Tok}(hv:(s.v == 0)=true)(hm:many≠0)(h1:(1000003:Int)≠0)(hfit:(x.vs.length:Int) < 2 ^ 63)(hlt:decide (s.turn < (x.vs.length:Int))=true){fr:Int}{ft:Tok}(hfr:x.vs[s.turn.toNat]?=some (.int fr ft))(h0:0<=s.turn)(h63:s.turn < 2 ^ 63)(hgt:decide (fr > many)=false)(hM:IntMulOk 2 s.turn)(hP:Acg (fr+2 * s.turn+5) 7)(hd:Rn (x.big s fr) many)(c:Code):OkF w b (cDrw x s ⟨s.turn+1,Int.fdiv (x.big s fr) many⟩ many (Int.fmod (x.big s fr) many) t u c) tT nL:=by
 let lZ:List (Fm w b):=[pl (Go "int.__eq__" s.v 0 true) (Ae2 hv),pl (λ_=>cLen x.cl x.vs x.k) λ_=>Ht hfit,pl (Go "int.__lt__" s.turn x.vs.length true) (Un hlt),⟨λ_ _ c=>.plain (Abz x.cl x.vs x.k s.turn (Aj c 1) (.int fr ft)),λ_ _ _=>Mk h0 h63 hfr⟩,pl (Go "int.__gt__" fr many false) (Ah0 hgt),fl (cIOp "int.__add__" (·+·)) tT nL Kf,⟨λ_ _ c=>.full (cIOp "int.__mul__" (· * ·) c) (λ_=>IntMulOk (As c 0) (As c 1)) nL,λ_ _ c=>Aey c⟩,⟨λ_ _ c=>.full (cIOp "int.__mod__" Int.fmod c) (λ_=>As c 1≠0) nL,λ_ _ c=>Wh c⟩,⟨λ_ _ c=>.full (cIOp "int.__floordiv__" Int.fdiv c) (λ_=>As c 1≠0/\Builtin.divisionGoesByPylong (As c 0) (As c 1)=false) nL,λ_ _ c=>Wn c⟩,⟨λ_ _ c=>.full (cIOp "int.__pow__" powF c) (λ_=>As c 1 > 0/\As c 0 > 1/\Builtin.Int.intTooBig (((Builtin.Int.intBits (As c 0):Nat):Int) * As c 1)=false) nL,λ_ _ c=>Aet c⟩,fl (cSum x.cl x.xs x.k) tT nL Aep]
 refine oFX lZ (x.K s t u) 247 0x104108200200208128108008008208100124108008008208104208008008204724230200200208204000b1c72010460410010021430c30420020020820440830800800820810000410820020020811c1001080080082081082002002082040001001001 [] [7,30,27] (λal tk=>[(λ_=>True,λL=>L=[]),(λ_=>IntMulOk 2 s.turn,λL=>L=[]),(λ_=>True,λL=>L=[]),(λ_=>True,λL=>L=[]),(λ_=>Acg (fr+2 * s.turn+5) 7,λL=>L=[]),(λ_=>True,λL=>L=[]),(λ_=>(1000003:Int)≠0,λL=>L=[]),(λ_=>True,λL=>L=[]),(λ_=>many≠0,λL=>L=[]),(λ_=>Rn (x.big s fr) many,λL=>L=[])]) ?_ ?_ (λal tk X hX=>by refine cS (by first|exact trivial|assumption) λL0 h0=>?_;refine cS (by first|exact trivial|assumption) λL1 h1=>?_;refine cS (by first|exact trivial|assumption) λL2 h2=>?_;refine cS (by first|exact trivial|assumption) λL3 h3=>?_;refine cS (by first|exact trivial|assumption) λL4 h4=>?_;refine cS (by first|exact trivial|assumption) λL5 h5=>?_;refine cS (by first|exact trivial|assumption) λL6 h6=>?_;refine cS (by first|exact trivial|assumption) λL7 h7=>?_;refine cS (by first|exact trivial|assumption) λL8 h8=>?_;refine cS (by first|exact trivial|assumption) λL9 h9=>?_;exact cZ (by subst h0;subst h1;subst h2;subst h3;subst h4;subst h5;subst h6;subst h7;subst h8;subst h9;rfl))<;>intros<;>kernel_rfl
theorem drw_B2{x:Pen}{s:St}{many:Int}{t u:Tok}(hv:(s.v == 0)=true)(hm:many≠0)(h1:(1000003:Int)≠0)(hfit:(x.vs.length:Int) < 2 ^ 63)(hlt:decide (s.turn < (x.vs.length:Int))=false)(hgt:decide ((0:Int) > many)=false)(hM:IntMulOk 2 s.turn)(hP:Acg (0+2 * s.turn+5) 7)(hd:Rn (x.big s 0) many)(c:Code):OkF w b (cDrw x s ⟨s.turn+1,Int.fdiv (x.big s 0) many⟩ many (Int.fmod (x.big s 0) many) t u c) tT nL:=by
 let lZ:List (Fm w b):=[pl (Go "int.__eq__" s.v 0 true) (Ae2 hv),pl (λ_=>cLen x.cl x.vs x.k) λ_=>Ht hfit,pl (Go "int.__lt__" s.turn x.vs.length false) (Un hlt),pl (Go "int.__gt__" 0 many false) (Ah0 hgt),fl (cIOp "int.__add__" (·+·)) tT nL Kf,⟨λ_ _ c=>.full (cIOp "int.__mul__" (· * ·) c) (λ_=>IntMulOk (As c 0) (As c 1)) nL,λ_ _ c=>Aey c⟩,⟨λ_ _ c=>.full (cIOp "int.__mod__" Int.fmod c) (λ_=>As c 1≠0) nL,λ_ _ c=>Wh c⟩,⟨λ_ _ c=>.full (cIOp "int.__floordiv__" Int.fdiv c) (λ_=>As c 1≠0/\Builtin.divisionGoesByPylong (As c 0) (As c 1)=false) nL,λ_ _ c=>Wn c⟩,⟨λ_ _ c=>.full (cIOp "int.__pow__" powF c) (λ_=>As c 1 > 0/\As c 0 > 1/\Builtin.Int.intTooBig (((Builtin.Int.intBits (As c 0):Nat):Int) * As c 1)=false) nL,λ_ _ c=>Aet c⟩,fl (cSum x.cl x.xs x.k) tT nL Aep]
 refine oFX lZ (x.K s t u) 227 0x4104208008008204904200200208204004804200200208204108200200208118808b080080082081000286187041141040044083080080082081000041082002002081181001080080082081082002002082040001001001 [] [7,30,27] (λal tk=>[(λ_=>True,λL=>L=[]),(λ_=>IntMulOk 2 s.turn,λL=>L=[]),(λ_=>True,λL=>L=[]),(λ_=>True,λL=>L=[]),(λ_=>Acg (0+2 * s.turn+5) 7,λL=>L=[]),(λ_=>True,λL=>L=[]),(λ_=>(1000003:Int)≠0,λL=>L=[]),(λ_=>True,λL=>L=[]),(λ_=>many≠0,λL=>L=[]),(λ_=>Rn (x.big s 0) many,λL=>L=[])]) ?_ ?_ (λal tk X hX=>by refine cS (by first|exact trivial|assumption) λL0 h0=>?_;refine cS (by first|exact trivial|assumption) λL1 h1=>?_;refine cS (by first|exact trivial|assumption) λL2 h2=>?_;refine cS (by first|exact trivial|assumption) λL3 h3=>?_;refine cS (by first|exact trivial|assumption) λL4 h4=>?_;refine cS (by first|exact trivial|assumption) λL5 h5=>?_;refine cS (by first|exact trivial|assumption) λL6 h6=>?_;refine cS (by first|exact trivial|assumption) λL7 h7=>?_;refine cS (by first|exact trivial|assumption) λL8 h8=>?_;refine cS (by first|exact trivial|assumption) λL9 h9=>?_;exact cZ (by subst h0;subst h1;subst h2;subst h3;subst h4;subst h5;subst h6;subst h7;subst h8;subst h9;rfl))<;>intros<;>kernel_rfl
noncomputable def wTup(w:Str)(t u:Tok):Obj:=tupO [.str "word" t,.str w u]
noncomputable def Uv(text:Str)(c:Code):Code:=.call (.ref 553) ⟨[.str text (Aj c 0)],[]⟩
noncomputable def Acs(nw:Nat->Addr)(tk:Nat->Tok):Nat->List Str->List AO
 | _,[]=>[]
 | j,w::r=>(nw (j+1),wTup w (tk (2 * j)) (tk (2 * j+1)))::Acs nw tk (j+1) r
noncomputable def wRefs(nw:Nat->Addr):Nat->List Str->List Value
 | _,[]=>[]
 | j,_::r=>.ref (nw (j+1))::wRefs nw (j+1) r
noncomputable def Nl(text:Str)(ws:List Str)(c:Code):Con:=
 ⟨Uv text c,[],[],1+ws.length,λnw tk=>(nw 0,Ac (wRefs nw 0 ws) ws.length)::Acs nw tk 0 ws,2 * ws.length,λnw _=>.ok (.ret (.ref (nw 0))),20⟩
noncomputable def Gw(text:Str)(c:Code):Con:=
 ⟨Uv text c,[],[],2,λnw tk=>[(nw 0,Ac [.ref (nw 1)] 1),(nw 1,wTup text (tk 0) (Aj c 0))],1,λnw _=>.ok (.ret (.ref (nw 0))),20⟩
noncomputable def coLit(text:Str)(c:Code):Code:=.call (.ref 563) ⟨[.str text (Aj c 0)],[]⟩
noncomputable def Om(text:Str)(bs:Array UInt8)(c:Code):Con:=
 ⟨coLit text c,[],[],4,λnw tk=>[(nw 0,tupO [.ref (nw 1),.ref (nw 2)]),(nw 1,Ac [.ref (nw 3)] 0),(nw 2,tupO [.str "text" (tk 0),.bytes bs (tk 1)]),(nw 3,tupO [.str "literal" (tk 2),.str text (Aj c 0)])],3,λnw _=>.ok (.ret (.ref (nw 0))),20⟩

theorem Afg(c:Code):Ok w b (Gw "K" c):=by
 let lZ:List (Fm w b):=[]
 refine oPY lZ ([]) 118 108 g21N g22N [3,5] [4] ?_ ?_ ?_ ?_<;>intros<;>kernel_rfl
theorem Rp(c:Code):Ok w b (Gw "SPACES" c):=by
 let lZ:List (Fm w b):=[]
 refine oPY lZ ([]) 118 108 g21N g22N [3,5] [4] ?_ ?_ ?_ ?_<;>intros<;>kernel_rfl
theorem Rq(c:Code):Ok w b (Nl "K OF R" ["K","OF","R"] c):=by
 let lZ:List (Fm w b):=[]
 refine oPY lZ ([]) 182 172 0x20c41851860451871860060060051050050030831051851401401401031001000810831051040040040030830030010010831030c00c00c00c00c00c3001001001040001000040001001 0x20c41851860451871860060060051050050030831051851401401401031001000810831051040040040030830030010010831030c00c00c0001001001040001000040001001 [3,5,6,7] [7,3,9,4,11,5] ?_ ?_ ?_ ?_<;>intros<;>kernel_rfl
theorem Acn(c:Code):Ok w b (Gw "BY" c):=by
 let lZ:List (Fm w b):=[]
 refine oPY lZ ([]) 118 108 g21N g22N [3,5] [4] ?_ ?_ ?_ ?_<;>intros<;>kernel_rfl
theorem Ij(c:Code):Ok w b (Nl "BEFORE INITIAL" ["BEFORE","INITIAL"] c):=by
 let lZ:List (Fm w b):=[]
 refine oPY lZ ([]) 150 140 g23N g24N [3,5,6] [6,3,8,4] ?_ ?_ ?_ ?_<;>intros<;>kernel_rfl
theorem Tt(c:Code):Ok w b (Gw "AFTER" c):=by
 let lZ:List (Fm w b):=[]
 refine oPY lZ ([]) 118 108 g21N g22N [3,5] [4] ?_ ?_ ?_ ?_<;>intros<;>kernel_rfl
theorem Ln(c:Code):Ok w b (Gw "CHARACTERS" c):=by
 let lZ:List (Fm w b):=[]
 refine oPY lZ ([]) 118 108 g21N g22N [3,5] [4] ?_ ?_ ?_ ?_<;>intros<;>kernel_rfl
theorem Rs(c:Code):Ok w b (Gw "ALL" c):=by
 let lZ:List (Fm w b):=[]
 refine oPY lZ ([]) 118 108 g21N g22N [3,5] [4] ?_ ?_ ?_ ?_<;>intros<;>kernel_rfl
theorem Py(c:Code):Ok w b (Gw "LEADING" c):=by
 let lZ:List (Fm w b):=[]
 refine oPY lZ ([]) 118 108 g21N g22N [3,5] [4] ?_ ?_ ?_ ?_<;>intros<;>kernel_rfl
theorem Mp(c:Code):Ok w b (Gw "FIRST" c):=by
 let lZ:List (Fm w b):=[]
 refine oPY lZ ([]) 118 108 g21N g22N [3,5] [4] ?_ ?_ ?_ ?_<;>intros<;>kernel_rfl
theorem Ts(c:Code):Ok w b (Gw "ZEROS" c):=by
 let lZ:List (Fm w b):=[]
 refine oPY lZ ([]) 118 108 g21N g22N [3,5] [4] ?_ ?_ ?_ ?_<;>intros<;>kernel_rfl
theorem Rr(c:Code):Ok w b (Gw "END-IF" c):=by
 let lZ:List (Fm w b):=[]
 refine oPY lZ ([]) 118 108 g21N g22N [3,5] [4] ?_ ?_ ?_ ?_<;>intros<;>kernel_rfl
theorem Mo(c:Code):Ok w b (Nl "INSPECT K" ["INSPECT","K"] c):=by
 let lZ:List (Fm w b):=[]
 refine oPY lZ ([]) 150 140 g23N g24N [3,5,6] [6,3,8,4] ?_ ?_ ?_ ?_<;>intros<;>kernel_rfl
theorem Lm(c:Code):Ok w b (Gw "CONVERTING" c):=by
 let lZ:List (Fm w b):=[]
 refine oPY lZ ([]) 118 108 g21N g22N [3,5] [4] ?_ ?_ ?_ ?_<;>intros<;>kernel_rfl
theorem lit_a(c:Code):Ok w b (Om "a" #[97] c):=by
 let lZ:List (Fm w b):=[]
 refine oPY lZ ([]) 179 169 g25N g26N [13,2,12,1] [2,6,1] ?_ ?_ ?_ ?_<;>intros<;>kernel_rfl
theorem lit_b(c:Code):Ok w b (Om "b" #[98] c):=by
 let lZ:List (Fm w b):=[]
 refine oPY lZ ([]) 179 169 g25N g26N [13,2,12,1] [2,6,1] ?_ ?_ ?_ ?_<;>intros<;>kernel_rfl
theorem lit_ab(c:Code):Ok w b (Om "ab" #[97,98] c):=by
 let lZ:List (Fm w b):=[]
 refine oPY lZ ([]) 231 221 g27N g28N [13,2,12,1] [2,9,1] ?_ ?_ ?_ ?_<;>intros<;>kernel_rfl
theorem lit_BY(c:Code):Ok w b (Om "BY" #[66,89] c):=by
 let lZ:List (Fm w b):=[]
 refine oPY lZ ([]) 231 221 g27N g28N [13,2,12,1] [2,9,1] ?_ ?_ ?_ ?_<;>intros<;>kernel_rfl
theorem Agq(c:Code):Ok w b (Om "xyz" #[120,121,122] c):=by
 let lZ:List (Fm w b):=[]
 refine oPY lZ ([]) 283 273 0x3012c00000c10421820800800800400410860820020020010010421820800800800400410860820020020051410040041041041040000000830c10830c30030030020420020000010000010830c30030030020420020000010000010830c30030030020420020000010000010830c30030030030030030c0040003000040001001 0x3012c00000c10421820800800800400410860820020020010010421820800800800400410860820020020051410040041041041040000000830c10830c30030030020420020000010000010830c30030030020420020000010000010830c30030030020420020000010000010830c3003003000040003000040001001 [13,2,12,1] [2,12,1] ?_ ?_ ?_ ?_<;>intros<;>kernel_rfl
theorem Adl(c:Code):Ok w b (Om "0" #[48] c):=by
 let lZ:List (Fm w b):=[]
 refine oPY lZ ([]) 179 169 g25N g26N [13,2,12,1] [2,6,1] ?_ ?_ ?_ ?_<;>intros<;>kernel_rfl
theorem lit_q(c:Code):Ok w b (Om "q" #[113] c):=by
 let lZ:List (Fm w b):=[]
 refine oPY lZ ([]) 179 169 g25N g26N [13,2,12,1] [2,6,1] ?_ ?_ ?_ ?_<;>intros<;>kernel_rfl
theorem Adm(c:Code):Ok w b (Om "*" #[42] c):=by
 let lZ:List (Fm w b):=[]
 refine oPY lZ ([]) 179 169 g25N g26N [13,2,12,1] [2,6,1] ?_ ?_ ?_ ?_<;>intros<;>kernel_rfl
theorem Agr(c:Code):Ok w b (Om "." #[46] c):=by
 let lZ:List (Fm w b):=[]
 refine oPY lZ ([]) 179 169 g25N g26N [13,2,12,1] [2,6,1] ?_ ?_ ?_ ?_<;>intros<;>kernel_rfl
structure Pen.Good (x:Pen):Prop where
 size:x.xs.size<=100
 pos:∀ i,0<=numAt x.xs i
 big:∀ i,numAt x.xs i < 2 ^ 140
structure St.Inv (s:St)(n:Nat):Prop where
 t0:0<=s.turn
 t1:s.turn<=n
 v0:0<=s.v
structure MOk (many:Int):Prop where
 pos:0 < many
 div:∀ a,Rn a many
theorem Ck:MOk 2:=⟨by decide,λa=>⟨by decide,rfl⟩⟩
theorem Ik:MOk 3:=⟨by decide,λa=>⟨by decide,rfl⟩⟩
theorem Dp:MOk 4:=⟨by decide,λa=>⟨by decide,rfl⟩⟩
theorem Cj:MOk 6:=⟨by decide,λa=>⟨by decide,rfl⟩⟩
theorem Qt:MOk 7:=⟨by decide,λa=>⟨by decide,rfl⟩⟩
noncomputable def Pen.fresh(x:Pen)(s:St):Int:=if s.turn < (x.vs.length:Int) then numAt x.xs s.turn.toNat else 0
noncomputable def Pen.v0(x:Pen)(s:St)(many:Int):Int:=if s.v=0 then (if x.fresh s > many then x.fresh s else x.big s (x.fresh s)) else s.v
noncomputable def Pen.dig(x:Pen)(s:St)(many:Int):Int:=Int.fmod (x.v0 s many) many
noncomputable def Pen.nxt(x:Pen)(s:St)(many:Int):St:=⟨if s.v=0 then s.turn+1 else s.turn,Int.fdiv (x.v0 s many) many⟩
section
variable {x:Pen}{s:St}{n:Nat}{many:Int}
theorem Aen:x.vs.length=x.xs.size:=by simp [Pen.vs,intItems]
theorem Nb(hx:x.Good):0<=x.fresh s:=by
 unfold Pen.fresh
 split
 ·exact hx.pos _
 ·omega
theorem Ab7(hx:x.Good):x.fresh s < 2 ^ 140:=by
 unfold Pen.fresh
 split
 ·exact hx.big _
 ·decide
theorem Vv{f:Int}(hs:s.Inv n)(hn:n<=2 ^ 60)(h0:0<=f)(h1:f < 2 ^ 140):Acg (f+2 * s.turn+5) 7:=by
 have a0:=hs.t0
 have a1:=hs.t1
 refine ⟨by decide,by omega,?_⟩
 have hb:(Builtin.Int.intBits (f+2 * s.turn+5):Int)<=1000:=by
  have hlt:(f+2 * s.turn+5).natAbs < 2 ^ 141:=by
   have:f+2 * s.turn+5 < 2 ^ 141:=by
    have h2:(2:Int) ^ 141=2 ^ 140+2 ^ 140:=by decide
    have h3:(2:Int) ^ 140 > 2 ^ 62:=by decide
    have h4:(n:Int)<=2 ^ 60:=by exact_mod_cast hn
    have h5:(2:Int) ^ 62=4 * 2 ^ 60:=by decide
    have h6:(2:Int) ^ 60 > 5:=by decide
    generalize (2:Int) ^ 60=p at *
    generalize (2:Int) ^ 62=q at *
    generalize (2:Int) ^ 140=r at *
    omega
   have h3:((f+2 * s.turn+5).natAbs:Int) < ((2 ^ 141:Nat):Int):=by
    rw [Int.natAbs_of_nonneg (by omega)]
    exact_mod_cast this
   exact_mod_cast h3
  unfold Builtin.Int.intBits
  split
  ·decide
  ·have:=Nat.log2_lt (by omega:(f+2 * s.turn+5).natAbs≠0) |>.mpr hlt
   omega
 unfold Builtin.Int.intTooBig
 have hl:(bitsLine:Int)=134217728:=by decide
 simp only [decide_eq_false_iff_not]
 omega
theorem Ahw(hs:s.Inv n){f:Int}(h0:0<=f):0<=x.big s f:=by
 have a0:=hs.t0
 unfold Pen.big powF
 have h1:0<=(f+2 * s.turn+5) ^ (7:Int).toNat:=Int.pow_nonneg (by omega)
 have h2:0<=Int.fmod x.sum 1000003:=Int.fmod_nonneg_of_pos _ (by decide)
 omega
theorem v0_pos(hx:x.Good)(hs:s.Inv n):0<=x.v0 s many:=by
 unfold Pen.v0
 split
 ·split
  ·exact Nb hx
  ·exact Ahw hs (Nb hx)
 ·exact hs.v0
theorem Ct(hm:MOk many):0<=x.dig s many/\x.dig s many < many:=⟨Int.fmod_nonneg_of_pos _ hm.pos,Int.fmod_lt_of_pos _ hm.pos⟩
theorem Am(hx:x.Good)(hs:s.Inv n)(hm:MOk many):(x.nxt s many).Inv (n+1):=by
 have a0:=hs.t0
 have a1:=hs.t1
 have hp:=hm.pos
 refine ⟨?_,?_,Int.fdiv_nonneg (v0_pos hx hs) (by omega)⟩
 ·show 0<=(if s.v=0 then s.turn+1 else s.turn)
  split<;>omega
 ·show (if s.v=0 then s.turn+1 else s.turn)<=((n+1:Nat):Int)
  split<;>omega
variable {w:World}{b:B3}{t u:Tok}
theorem Ef{y:Con}(h:OkF w b y tT nL):Ok w b y:=Vw h
theorem Ah(hx:x.Good)(hs:s.Inv n)(hn:n<=2 ^ 60)(hm:MOk many)(c:Code):Ok w b (cDrw x s (x.nxt s many) many (x.dig s many) t u c):=by
 have a0:=hs.t0
 have a1:=hs.t1
 have hp:=hm.pos
 have hm0:many≠0:=by omega
 have hsz:=hx.size
 have hfit:(x.vs.length:Int) < 2 ^ 63:=by rw [Aen];omega
 have hM:IntMulOk 2 s.turn:=IntMulOk.of_left (by decide)
 have h4:(n:Int)<=2 ^ 60:=by exact_mod_cast hn
 have h63:s.turn < 2 ^ 63:=by omega
 by_cases hv:s.v=0
 ·have e0:x.nxt s many=⟨s.turn+1,Int.fdiv (x.v0 s many) many⟩:=by unfold Pen.nxt;rw [if_pos hv]
  rw [e0]
  unfold Pen.dig
  have hv':(s.v == 0)=true:=by simp [hv]
  have e1:x.v0 s many=if x.fresh s > many then x.fresh s else x.big s (x.fresh s):=by unfold Pen.v0;rw [if_pos hv]
  by_cases hlt:s.turn < (x.vs.length:Int)
  ·have hi:s.turn.toNat < x.xs.size:=by rw [Aen] at hlt;omega
   have e2:x.fresh s=numAt x.xs s.turn.toNat:=by unfold Pen.fresh;rw [if_pos hlt]
   have hfr:x.vs[s.turn.toNat]?=some (.int (x.fresh s) (x.xs[s.turn.toNat]).2):=by
    rw [e2]
    unfold Pen.vs intItems numAt
    simp [hi]
   by_cases hg:x.fresh s > many
   ·rw [e1,if_pos hg]
    exact Ef (Ahe hv' hm0 (by decide) hfit (decide_eq_true hlt) hfr a0 h63 (decide_eq_true hg) (hm.div _) c)
   ·rw [e1,if_neg hg]
    exact Ef (Ahd hv' hm0 (by decide) hfit (decide_eq_true hlt) hfr a0 h63 (decide_eq_false hg) hM (Vv hs hn (Nb hx) (Ab7 hx)) (hm.div _) c)
  ·have e2:x.fresh s=0:=by unfold Pen.fresh;rw [if_neg hlt]
   rw [e2] at e1
   rw [e1,if_neg (by omega)]
   exact Ef (drw_B2 hv' hm0 (by decide) hfit (decide_eq_false hlt) (decide_eq_false (by omega)) hM (Vv hs hn (by decide) (by decide)) (hm.div _) c)
 ·have e0:x.nxt s many=⟨s.turn,Int.fdiv s.v many⟩:=by unfold Pen.nxt Pen.v0;rw [if_neg hv,if_neg hv]
  have e1:x.dig s many=Int.fmod s.v many:=by unfold Pen.dig Pen.v0;rw [if_neg hv]
  rw [e0,e1]
  refine Ef (Ap (drw_A (by simp [hv]) hm0 (hm.div _) c) _ _ _ (λnw _=>nw) (λ_ tk=>Uf t (tk 0) (tk 1)) (λ_ _=>[]) rfl rfl (Nat.le_refl _) (λ_ _=>rfl) (λp hp=>by rcases mcm hp with rfl|hp<;>first|exact .head _|cases hp) (λnw tk q hq=>.inl (by rcases mcm hq with rfl|hq<;>first|exact .head _|cases hq)) (λ_ _=>rfl) (λ_ h=>h) λnw tk L hL=>hL)
end
noncomputable def tokD(t:T2):PyD:=.tup [.str t.1,.str t.2]
noncomputable def cR(l:List Addr):Nat:=Classical.choose (Dm l)
theorem Hs(l:List Addr):refs (cR l)=Fw l:=Classical.choose_spec (Dm l)
noncomputable def cWL(text:Str)(c:Code):Con:=
 ⟨Uv text c,[],[],1,λnw tk=>[(nw 0,Ac (refs (tk 0)) (tk 1))],2,λnw _=>.ok (.ret (.ref (nw 0))),20⟩
noncomputable def cLL(text:Str)(c:Code):Con:=
 ⟨coLit text c,[],[],3,λnw tk=>[(nw 0,tupO [.ref (nw 1),.ref (nw 2)]),(nw 1,Ac (refs (tk 0)) (tk 1))],2,λnw _=>.ok (.ret (.ref (nw 0))),20⟩
noncomputable abbrev Cu(ws:List T2):AL:=λ_ tk L=>Ab L (refs (tk 0)) (ws.map tokD)
noncomputable abbrev Ou(text:Str)(bs:Array UInt8):AL:=λnw tk L=>Ab L (refs (tk 0)) [tokD (l2 text)]/\DatV L (.ref (nw 2)) (Op.lit bs).dat
section
variable {w:World}{b:B3}
theorem Fq{text:Str}(h:∀ c,Ok w b (Gw text c))(c:Code):OkF w b (cWL text c) tT (Cu [w2 text]):=by
 refine Ap (Er (h c)) _ _ _ (λnw _=>nw) (λnw _=>two (cR [nw 1]) 1) (λnw tk=>[(nw 1,wTup text (tk 0) (Aj c 0))]) rfl rfl (Nat.le_refl _) (λnw tk=>?_) (λ_ hp=>(nomatch hp)) (λ_ _ _ hp=>(nomatch hp)) (λ_ _=>rfl) (λ_ h=>h) λnw tk L hL=>?_
 ·show [(nw 0,Ac (refs (cR [nw 1])) 1)]++_=_
  rw [Hs];rfl
 ·subst hL
  show Ab _ (refs (cR [nw 1])) _
  rw [Hs]
  exact .cons (.tup (.head _) (.cons .str (.cons .str .nil))) .nil
theorem Vg{text a1 a2:Str}(h:∀ c,Ok w b (Nl text [a1,a2] c))(c:Code):OkF w b (cWL text c) tT (Cu [w2 a1,w2 a2]):=by
 refine Ap (Er (h c)) _ _ _ (λnw _=>nw) (λnw _=>two (cR [nw 1,nw 2]) 2) (λnw tk=>Acs nw tk 0 [a1,a2]) rfl rfl (Nat.le_refl _) (λnw tk=>?_) (λ_ hp=>(nomatch hp)) (λ_ _ _ hp=>(nomatch hp)) (λ_ _=>rfl) (λ_ h=>h) λnw tk L hL=>?_
 ·show [(nw 0,Ac (refs (cR [nw 1,nw 2])) 2)]++_=_
  rw [Hs];rfl
 ·subst hL
  show Ab _ (refs (cR [nw 1,nw 2])) _
  rw [Hs]
  exact .cons (.tup (.head _) (.cons .str (.cons .str .nil))) (.cons (.tup (.tail _ (.head _)) (.cons .str (.cons .str .nil))) .nil)
theorem Aco{text a1 a2 a3:Str}(h:∀ c,Ok w b (Nl text [a1,a2,a3] c))(c:Code):OkF w b (cWL text c) tT (Cu [w2 a1,w2 a2,w2 a3]):=by
 refine Ap (Er (h c)) _ _ _ (λnw _=>nw) (λnw _=>two (cR [nw 1,nw 2,nw 3]) 3) (λnw tk=>Acs nw tk 0 [a1,a2,a3]) rfl rfl (Nat.le_refl _) (λnw tk=>?_) (λ_ hp=>(nomatch hp)) (λ_ _ _ hp=>(nomatch hp)) (λ_ _=>rfl) (λ_ h=>h) λnw tk L hL=>?_
 ·show [(nw 0,Ac (refs (cR [nw 1,nw 2,nw 3])) 3)]++_=_
  rw [Hs];rfl
 ·subst hL
  show Ab _ (refs (cR [nw 1,nw 2,nw 3])) _
  rw [Hs]
  exact .cons (.tup (.head _) (.cons .str (.cons .str .nil))) (.cons (.tup (.tail _ (.head _)) (.cons .str (.cons .str .nil))) (.cons (.tup (.tail _ (.tail _ (.head _))) (.cons .str (.cons .str .nil))) .nil))
theorem Qw{text:Str}{bs:Array UInt8}(h:∀ c,Ok w b (Om text bs c))(c:Code):OkF w b (cLL text c) tT (Ou text bs):=by
 refine Ap (Er (h c)) _ _ _ (λnw _=>nw) (λnw _=>two (cR [nw 3]) 0) (λnw tk=>[(nw 2,tupO [.str "text" (tk 0),.bytes bs (tk 1)]),(nw 3,tupO [.str "literal" (tk 2),.str text (Aj c 0)])]) rfl rfl (Nat.le_refl _) (λnw tk=>?_) (λ_ hp=>(nomatch hp)) (λ_ _ _ hp=>(nomatch hp)) (λ_ _=>rfl) (λ_ h=>h) λnw tk L hL=>?_
 ·show [(nw 0,_),(nw 1,Ac (refs (cR [nw 3])) 0)]++_=_
  rw [Hs];rfl
 ·subst hL
  show Ab _ (refs (cR [nw 3])) _/\_
  rw [Hs]
  exact ⟨.cons (.tup (.tail _ (.head _)) (.cons .str (.cons .str .nil))) .nil,.tup (.head _) (.cons .str (.cons .bytes .nil))⟩
end
noncomputable def Zc:Fm w b:=⟨λ_ _ c=>.full (cLL "*" c) tT (Ou "*" #[42]),λ_ _ c=>Qw Adm c⟩
noncomputable def Gr:Fm w b:=⟨λ_ _ c=>.full (cLL "." c) tT (Ou "." #[46]),λ_ _ c=>Qw Agr c⟩
noncomputable def xL_0:Fm w b:=⟨λ_ _ c=>.full (cLL "0" c) tT (Ou "0" #[48]),λ_ _ c=>Qw Adl c⟩
noncomputable def Tq:Fm w b:=⟨λ_ _ c=>.full (cLL "BY" c) tT (Ou "BY" #[66,89]),λ_ _ c=>Qw lit_BY c⟩
noncomputable def xL_a:Fm w b:=⟨λ_ _ c=>.full (cLL "a" c) tT (Ou "a" #[97]),λ_ _ c=>Qw lit_a c⟩
noncomputable def Tp:Fm w b:=⟨λ_ _ c=>.full (cLL "ab" c) tT (Ou "ab" #[97,98]),λ_ _ c=>Qw lit_ab c⟩
noncomputable def xL_b:Fm w b:=⟨λ_ _ c=>.full (cLL "b" c) tT (Ou "b" #[98]),λ_ _ c=>Qw lit_b c⟩
noncomputable def xL_q:Fm w b:=⟨λ_ _ c=>.full (cLL "q" c) tT (Ou "q" #[113]),λ_ _ c=>Qw lit_q c⟩
noncomputable def Mn:Fm w b:=⟨λ_ _ c=>.full (cLL "xyz" c) tT (Ou "xyz" #[120,121,122]),λ_ _ c=>Qw Agq c⟩
noncomputable def Da:Fm w b:=⟨λ_ _ c=>.full (cWL "AFTER" c) tT (Cu [w2 "AFTER"]),λ_ _ c=>Fq Tt c⟩
noncomputable def xW_ALL:Fm w b:=⟨λ_ _ c=>.full (cWL "ALL" c) tT (Cu [w2 "ALL"]),λ_ _ c=>Fq Rs c⟩
noncomputable def An:Fm w b:=⟨λ_ _ c=>.full (cWL "BEFORE INITIAL" c) tT (Cu [w2 "BEFORE",w2 "INITIAL"]),λ_ _ c=>Vg Ij c⟩
noncomputable def Nw:Fm w b:=⟨λ_ _ c=>.full (cWL "BY" c) tT (Cu [w2 "BY"]),λ_ _ c=>Fq Acn c⟩
noncomputable def Pw:Fm w b:=⟨λ_ _ c=>.full (cWL "CONVERTING" c) tT (Cu [w2 "CONVERTING"]),λ_ _ c=>Fq Lm c⟩
noncomputable def Jk:Fm w b:=⟨λ_ _ c=>.full (cWL "END-IF" c) tT (Cu [w2 "END-IF"]),λ_ _ c=>Fq Rr c⟩
noncomputable def Acm:Fm w b:=⟨λ_ _ c=>.full (cWL "FIRST" c) tT (Cu [w2 "FIRST"]),λ_ _ c=>Fq Mp c⟩
noncomputable def Fg:Fm w b:=⟨λ_ _ c=>.full (cWL "INSPECT K" c) tT (Cu [w2 "INSPECT",w2 "K"]),λ_ _ c=>Vg Mo c⟩
noncomputable def xW_K:Fm w b:=⟨λ_ _ c=>.full (cWL "K" c) tT (Cu [w2 "K"]),λ_ _ c=>Fq Afg c⟩
noncomputable def Ca:Fm w b:=⟨λ_ _ c=>.full (cWL "K OF R" c) tT (Cu [w2 "K",w2 "OF",w2 "R"]),λ_ _ c=>Aco Rq c⟩
noncomputable def Ex:Fm w b:=⟨λ_ _ c=>.full (cWL "SPACES" c) tT (Cu [w2 "SPACES"]),λ_ _ c=>Fq Rp c⟩
noncomputable def Vf:Fm w b:=⟨λ_ _ c=>.full (cWL "ZEROS" c) tT (Cu [w2 "ZEROS"]),λ_ _ c=>Fq Ts c⟩
noncomputable def cAdd(c1 n1 c2 n2:Nat)(cd:Code):Con:=
 ⟨.call (.builtin "list.__add__") ⟨[.ref (Af cd 0),.ref (Af cd 1)],[]⟩,[(Af cd 0,Ac (refs c1) n1),(Af cd 1,Ac (refs c2) n2)],[],1,λnw tk=>[(nw 0,Ac (refs (tk 0)) (tk 1))],2,λnw _=>.ok (.ret (.ref (nw 0))),1⟩
noncomputable def Ahr(c2 n2:Nat)(cd:Code):Con:=
 ⟨.call (.builtin "list.__add__") ⟨[.ref (Af cd 0),.ref (Af cd 1)],[]⟩,[(Af cd 0,Ac [] 0),(Af cd 1,Ac (refs c2) n2)],[],1,λnw tk=>[(nw 0,Ac (refs (tk 0)) (tk 1))],2,λnw _=>.ok (.ret (.ref (nw 0))),1⟩
noncomputable abbrev Bm(c1 c2:Nat):Prop:=(refs c1).length+(refs c2).length<=5000
section
variable {w:World}{st:Nat->Option Obj}
theorem Acb{A:Around}{s:Shared}{R:Result->Shared->Prop}{a b:Addr}{xs ys:List Value}{n1 n2:Nat}(h1:s.heap.get? a=some (Ac xs n1))(h2:s.heap.get? b=some (Ac ys n2))(hsz:xs.length+ys.length<=5000)
  (h:R (.ok (.ret (.ref s.heap.objs.size))) { s with heap:=s.heap.push (Ac (xs++ys) 0) }):codeAny (model prog w) A (.call (.builtin "list.__add__") ⟨[.ref a,.ref b],[]⟩) R s:=by
 refine Kv F.slot_list_add (self:=.ref _) (rest:=[.ref _]) ⟨_,h1,rfl⟩ F.entry_list_add (F.args_list_add_2 _ _) (AutoSeq1.list___add___list_list_0 _ xs.toArray n1 _ ys.toArray n2 (by simp only [List.size_toArray];rw [sizeLine_eq];omega)) ?_
 refine ⟨h1,h2,?_⟩
 have e:xs.toArray++ys.toArray=(xs++ys).toArray:=by simp
 rw [e]
 exact h
theorem Ay(c1 n1 c2 n2:Nat)(cd:Code):Ad w st (cAdd c1 n1 c2 n2 cd) (λ_=>Bm c1 c2) (λ_ tk L=>L=[]/\refs (tk 0)=refs c1++refs c2):=by
 intro A s R X hA hdep hst hpre hnod hX hXn hap hnd hR
 have h1:s.heap.get? (Af cd 0)=some (Ac (refs c1) n1):=(hpre _ (.head _)).1
 have h2:s.heap.get? (Af cd 1)=some (Ac (refs c2) n2):=(hpre _ (.tail _ (.head _))).1
 obtain ⟨c',hc⟩:=Aa3 c1 c2
 refine Acb h1 h2 hnd ?_
 refine hR (λ_=>s.heap.objs.size) (two c' 0) _ s.toks [] (.of_kept λb o e=>Heap.get?_push_of_some _ e) (λb o e _=>Heap.get?_push_of_some _ e) (λ_ hp=>(nomatch hp)) (λp hp=>?_) (by simp [cAdd]) ⟨rfl,hc⟩
 rw [List.append_nil] at hp
 rcases mcm hp with rfl|hp
 ·refine ⟨?_,get?_size _⟩
  show _=some (Ac (refs c') 0)
  rw [hc]
  exact Heap.get?_push_size _ rfl
 ·cases hp
theorem Ai7(c2 n2:Nat)(cd:Code):Ad w st (Ahr c2 n2 cd) (λ_=>(refs c2).length<=5000) (λ_ tk L=>L=[]/\refs (tk 0)=refs c2):=by
 intro A s R X hA hdep hst hpre hnod hX hXn hap hnd hR
 have h1:s.heap.get? (Af cd 0)=some (Ac [] 0):=(hpre _ (.head _)).1
 have h2:s.heap.get? (Af cd 1)=some (Ac (refs c2) n2):=(hpre _ (.tail _ (.head _))).1
 refine Acb h1 h2 (by simpa using hnd) ?_
 refine hR (λ_=>s.heap.objs.size) (two c2 0) _ s.toks [] (.of_kept λb o e=>Heap.get?_push_of_some _ e) (λb o e _=>Heap.get?_push_of_some _ e) (λ_ hp=>(nomatch hp)) (λp hp=>?_) (by simp [Ahr]) ⟨rfl,rfl⟩
 rw [List.append_nil] at hp
 rcases mcm hp with rfl|hp
 ·exact ⟨Heap.get?_push_size _ rfl,get?_size _⟩
 ·cases hp
end
noncomputable abbrev eA(r x y:Nat):Ev:=(λ_=>Bm x y,λL=>L=[]/\refs r=refs x++refs y)
noncomputable def xA(a n d k:Nat):Fm w b:=⟨λ_ T c=>.full (cAdd (T a) (T n) (T d) (T k) c) (λ_=>Bm (T a) (T d)) (λ_ tk L=>L=[]/\refs (tk 0)=refs (T a)++refs (T d)),λ_ _ c=>Ay _ _ _ _ c⟩
noncomputable def xE(a n:Nat):Fm w b:=⟨λ_ T c=>.full (Ahr (T a) (T n) c) (λ_=>(refs (T a)).length<=5000) (λ_ tk L=>L=[]/\refs (tk 0)=refs (T a)),λ_ _ c=>Ai7 _ _ c⟩
noncomputable def Pv:Expr->Env->Value->Sem Unit:=ZFast.zw17772580674575903948
noncomputable def zLet:Expr->Value->Value->Sem Unit:=ZFast.zw1578499551869305889
theorem Hx:Pv=assign:=by unfold Pv;rw [←ZFast.ze17772580674575903948]
theorem Za:zLet=letOwnedTupleGo:=by unfold zLet;rw [←ZFast.ze1578499551869305889]
noncomputable def forB(target:Expr)(it v:Value)(body orelse:List Stmt)(env:Env):Sem Fin:=
 R.bindR (zLet target it v) λ_=>R.bindR (Pv target env v) λ_=>R.bindR (Jx body env) λf=>match f with
  | .next=>.pure (.again (.forLoop target it body orelse env))
  | .cont=>.pure (.again (.forLoop target it body orelse env))
  | .brk=>.pure (.done .next)
  | .ret v=>.pure (.done (.ret v))
noncomputable def Jf(env:Env)(it:Value):Option Stmt->Code
 | some (.For t _ b o _)=>.forLoop t it b o env
 | _=>.block [] env
noncomputable def Je(env:Env)(it v:Value):Option Stmt->Sem Fin
 | some (.For t _ b o _)=>forB t it v b o env
 | _=>.pure (.done .next)
noncomputable def Gx(R:Result->Shared->Prop)(r:Result)(s:Shared):Prop:=match r with
 | .ok f=>R (.ok f) s
 | .error _=>False
section
variable {w:World}{A:Around}{R₁:Result->Shared->Prop}{s:Shared}{target:Expr}{it:Value}{body orelse:List Stmt}{env:Env}
theorem Mq{c:Code}{Γ:PySem.Ctx}{p:Pos}(hc:Γ.code=c)(hΓ:Γ.Below A)(hu:Room A 1):Γ.units < cLine:=by
 have h1:=(hc▸hΓ.in:Γ.In (A.under c)).2.2.2.2
 have h2:(A.under c).units<=A.units+10:=Nat.add_le_add_left (Nat.le_trans (Hq _) (by cases c<;>simp [uB])) _
 have h3:=hu.2
 omega
theorem Adu{ι:Type}{v:ι->Value}(hu:Room A 1)
  (hnext:wpAny (model prog w) (A.under (.forLoop target it body orelse env)) (pyNext it) (λo s'=>∃ i,o=some (v i)/\wpOwn (model prog w) A (.forLoop target it body orelse env) (forB target it (v i) body orelse env) (plus (postC prog w A (Gx R₁))) (postE (Gx R₁)) s') (λ_ _=>False) s) :
  codeAny (model prog w) A (.forLoop target it body orelse env) R₁ s:=by
 refine codeAny_of_own ?_
 intro Γ p hc hΓ
 have hun:Γ.units < cLine:=Mq (p:=p) hc hΓ hu
 have z:=hnext Γ target.pos (hc▸hΓ.in)
 show Sem.wp (model prog w) Γ ((forTurn target it body orelse env).onRaise _) _ _ p s
 rw [Sem.wp_onRaise]
 show Sem.wp (model prog w) Γ ((pyNext it).onRaise _ >>= _) _ _ target.pos s
 rw [Sem.wp_bind',Sem.wp_onRaise]
 refine Sem.wp_mono (model prog w) Γ _ (λo p s h=>?_) (λe p s h=>absurd h (by exact λz=>z)) _ _ z
 obtain ⟨i,rfl,h⟩:=h
 have h:=h Γ p hc hΓ
 unfold forB at h
 rw [Za,Hx] at h
 rw [←R.bindR_eq] at h
 have h:Sem.wp (model prog w) Γ (letOwnedTupleGo target it (v i) >>= _) _ _ p s:=h
 show Sem.wp (model prog w) Γ (letOwnedTupleGo target it (v i) >>= _) _ _ p s
 rw [Sem.wp_bind'] at h ⊢
 refine Sem.wp_mono (model prog w) Γ _ (λ_ p s h=>?_) (λe p s h=>absurd h (by exact λz=>z)) _ _ h
 have h:Sem.wp (model prog w) Γ (assign target env (v i) >>= _) _ _ p s:=h
 show Sem.wp (model prog w) Γ (assign target env (v i) >>= _) _ _ p s
 rw [Sem.wp_bind'] at h ⊢
 refine Sem.wp_mono (model prog w) Γ _ (λ_ p s h=>?_) (λe p s h=>absurd h (by exact λz=>z)) _ _ h
 have h:Sem.wp (model prog w) Γ (Jx body env >>= _) _ _ p s:=h
 show Sem.wp (model prog w) Γ (execs body env >>= _) _ _ p s
 rw [Sem.wp_bind'] at h ⊢
 have h:=Fz hun body env _ _ _ _ h
 refine Sem.wp_mono (model prog w) Γ _ (λf p s h=>?_) (λe p s h=>absurd h (by exact λz=>z)) _ _ h
 have key:∀ c',c'.quiet=true->codeAny (model prog w) A c' (Gx R₁) s->codeAny (model prog w) A c' R₁ s:=λc' _ h=>codeAny_mono h λr s h=>by
  cases r with
  | ok f=>exact h
  | error e=>exact absurd h (by exact λz=>z)
 cases f with
 | next=>exact ⟨h.2.1,key _ h.2.1 h.2.2⟩
 | cont=>exact ⟨h.2.1,key _ h.2.1 h.2.2⟩
 | brk=>exact h.2
 | ret v=>exact h.2
end
noncomputable def Ai8(w:World)(c:Code)(it:Addr) {ι:Type}(v:ι->Value)(t:ι->Sem Fin):Prop:=
 ∀ (A:Around)(s:Shared)(R₁:Result->Shared->Prop),Room A 1->
  wpAny (model prog w) (A.under c) (pyNext (.ref it)) (λo s'=>∃ i,o=some (v i)/\wpOwn (model prog w) A c (t i) (plus (postC prog w A (Gx R₁))) (postE (Gx R₁)) s') (λ_ _=>False) s->codeAny (model prog w) A c R₁ s
theorem Zh{w:World} {ι:Type}{target:Expr}{it:Addr}{v:ι->Value}{body orelse:List Stmt}{env:Env}:Ai8 w (.forLoop target (.ref it) body orelse env) it v (λi=>forB target (.ref it) (v i) body orelse env):=
 λ_ _ _ hu h=>Adu hu h
noncomputable def Nexts(w:World)(it:Addr)(o0:Obj)(P:List AO)(need:List AO->Prop) {ι:Type}(v:ι->Value)(o1:ι->Obj)(ex:ι->List AO):Prop:=
 ∀ (A:Around)(s:Shared)(Q:Option Value->Shared->Prop)(X:List AO),s.heap.get? it=some o0->(∀ p∈P,s.heap.get? p.1=some p.2)->(∀ p∈P,it≠p.1)->(∀ p∈X,s.heap.get? p.1=some p.2)->(∀ p∈X,it≠p.1)->need X->
  (∀ (i:ι)(h':Heap)(t':Nat),h'.get? it=some (o1 i)->(∀ p∈ex i,s.heap.get? p.1=none/\h'.get? p.1=some p.2)->((ex i).map (·.1)).Nodup->(∀ b o,s.heap.get? b=some o->b≠it->h'.get? b=some o)->Q (some (v i)) { s with heap:=h',toks:=t' })->
  wpAny (model prog w) A (pyNext (.ref it)) Q (λ_ _=>False) s
theorem Af6{w:World}{st:Nat->Option Obj} {ι:Type}{it:Addr}{o0:Obj}{P:List AO}{need:List AO->Prop}{also:AL}{v:ι->Value}{o1:ι->Obj}{ex:ι->List AO}{t:ι->Sem Fin}{c:Code}{x:ι->Con}(y:Con)
  (hN:Nexts w it o0 P need v o1 ex)(hT:Ai8 w c it v t)(hc:y.code=c)(hcx:∀ i,(x i).code=c)(hp:y.pre=(it,o0)::P)(hpx:∀ i,(x i).pre=(it,o1 i)::(ex i++P))(hu:∀ i,(x i).upd=y.upd)(hit:it∈y.upd.map (·.1))
  (hd:1<=y.deep)(hdx:∀ i,(x i).deep<=y.deep)(hn:∀ i,(x i).n=y.n)(hnt:∀ i,(x i).nt=y.nt)(hpost:∀ i,(x i).post=y.post)(hres:∀ i,(x i).res=y.res)(f:(Nat->Addr)->(Nat->Tok)->Flow)(hf:∀ nw tk,y.res nw tk=.ok (f nw tk))
  (hx:∀ i,Cm w st (x i) (t i) need also):Ad w st y need also:=by
 intro A s R X hA hdep hst hpre hnod hX hXn hap hnd hR
 rw [hc]
 rw [hp] at hpre hnod hap
 rw [List.map_cons,List.nodup_cons] at hnod
 have hitP:∀ p∈P,it≠p.1:=λp hm z=>hnod.1 (List.mem_map.mpr ⟨p,hm,z.symm⟩)
 have hitX:∀ p∈X,it≠p.1:=λp hm=>hap (it,o0) (.head _) p hm
 have h0:=(hpre (it,o0) (.head _)).1
 -- the turn,at any place
 have turn:∀ (i:ι)(h':Heap)(t':Nat),h'.get? it=some (o1 i)->(∀ p∈ex i,s.heap.get? p.1=none/\h'.get? p.1=some p.2)->((ex i).map (·.1)).Nodup->(∀ b o,s.heap.get? b=some o->b≠it->h'.get? b=some o)->
   wpOwn (model prog w) A c (t i) (plus (postC prog w A (Gx R))) (postE (Gx R)) { s with heap:=h',toks:=t' }:=by
  intro i h' t' e1 e2 e3 e4
  have hg:Be s.heap h':=λb o eb=>by
   by_cases z:b=it
   ·exact ⟨_,by rw [z];exact e1⟩
   ·exact ⟨o,e4 b o eb z⟩
  have stEx:∀ p∈ex i,st p.1=none:=λp hm=>by
   cases q:st p.1 with
   | none=>rfl
   | some o'=>have:=hst _ _ q;rw [(e2 p hm).1] at this;cases this
  have z:=hx i A { s with heap:=h',toks:=t' } (Gx R) X hA (hdep.le (hdx i)) (λb o eb=>e4 b o (hst b o eb) λz=>by
    have:=(hpre (it,o0) (.head _)).2
    rw [←z,eb] at this;cases this)
   (λp hm=>?_) ?_ (λp hm=>⟨e4 _ _ (hX p hm).1 (hitX p hm).symm,(hX p hm).2⟩) hXn (λp hm q hq=>?_) hnd λnw tks h2 t2 L a1 a2 a3 a4 a5 a6=>?_
  ·rw [hcx i] at z;exact z
  ·rw [hpx i] at hm
   rcases mcm hm with rfl|hm
   ·exact ⟨e1,(hpre (it,o0) (.head _)).2⟩
   ·rcases List.mem_append.mp hm with hm|hm
    ·exact ⟨(e2 p hm).2,stEx p hm⟩
    ·have q:=hpre p (.tail _ hm)
     exact ⟨e4 _ _ q.1 (hitP p hm).symm,q.2⟩
  ·rw [hpx i,List.map_cons,List.nodup_cons,List.map_append,List.nodup_append]
   refine ⟨λhm=>?_,e3,hnod.2,λa ha b hb z=>?_⟩
   ·rcases List.mem_append.mp hm with hm|hm
    ·obtain ⟨p,hm,z⟩:=mmp hm
     have:=(e2 p hm).1
     rw [z,h0] at this;cases this
    ·exact hnod.1 hm
   ·obtain ⟨p,hm,rfl⟩:=mmp ha
    obtain ⟨q,hq,rfl⟩:=mmp hb
    have:=(e2 p hm).1
    rw [z,(hpre q (.tail _ hq)).1] at this;cases this
  ·rw [hpx i] at hm
   rcases mcm hm with rfl|hm
   ·exact hitX q hq
   ·rcases List.mem_append.mp hm with hm|hm
    ·intro z
     have:=(e2 p hm).1
     rw [z,(hX q hq).1] at this;cases this
    ·exact hap p (.tail _ hm) q hq
  ·rw [hu i] at a2 a3
   rw [hnt i] at a3 a4 a5 a6 ⊢
   rw [hn i] at a4 a5 a6 ⊢
   rw [hpost i] at a4 a5
   rw [hres i]
   have q:=hR nw tks h2 t2 L (hg.trans a1) (λb o eb hb=>by
     by_cases z:b=it
     ·obtain ⟨p,hm,e⟩:=mmp hit
      exact absurd (e.trans z.symm) (hb p hm)
     ·exact a2 b o (e4 b o eb z) hb) a3 (λp hm=>⟨(a4 p hm).1,hg.none (a4 p hm).2⟩) a5 a6
   rw [hf] at q ⊢
   exact q
 exact hT A s R (hdep.le hd) (hN (A.under c) s _ X h0 (λp hm=>(hpre p (.tail _ hm)).1) hitP (λp hm=>(hX p hm).1) hitX hnd λi h' t' e1 e2 e3 e4=>⟨i,rfl,turn i h' t' e1 e2 e3 e4⟩)
noncomputable def Ak(x left:Int):Obj:={ cls:=.type "range_iterator",data:=.fields #[rawInt x,rawInt left,rawInt 1] }
theorem Ph{w:World}{it:Addr}{x left:Int}{P:List AO}{need:List AO->Prop}(hl:0 < left):Nexts w it (Ak x left) P need (λt:Tok=>.int x t) (λ_=>Ak (x+1) (left - 1)) (λ_=>[]):=by
 intro A s Q X h0 hP hitP hX hitX hnd hQ
 refine wpAny_pyNext_range_item h0 hl λh' e1 hs=>?_
 exact hQ s.toks h' (s.toks+1) e1 (λ_ h=>nomatch h) List.nodup_nil λb o eb hb=>(hs.2 b hb).trans eb
noncomputable def Cd(l:Addr)(i:Nat):Obj:={ cls:=.type "list_iterator",data:=.fields #[.ref l,rawInt i] }
noncomputable def Stops(w:World)(it:Addr)(o0 o1:Obj)(P:List AO):Prop:=
 ∀ (A:Around)(s:Shared)(Q:Option Value->Shared->Prop),A.handled=none->s.heap.get? it=some o0->(∀ p∈P,s.heap.get? p.1=some p.2)->
  (∀ (h':Heap)(t':Nat),h'.get? it=some o1->(∀ b o,s.heap.get? b=some o->b≠it->h'.get? b=some o)->Q none { s with heap:=h',toks:=t' })->
  wpAny (model prog w) A (pyNext (.ref it)) Q (λ_ _=>False) s
noncomputable def Jw(i:Nat):Obj:={ cls:=.type "list_iterator",data:=.fields #[.none,rawInt i] }
noncomputable def Aia(w:World)(c:Code)(it:Addr):Prop:=
 ∀ (A:Around)(s:Shared)(R₁:Result->Shared->Prop),wpAny (model prog w) (A.under c) (pyNext (.ref it)) (λo s'=>o=none/\R₁ (.ok .next) s') (λ_ _=>False) s->codeAny (model prog w) A c R₁ s
theorem Ab5{w:World}{target:Expr}{it:Addr}{body:List Stmt}{env:Env}:Aia w (.forLoop target (.ref it) body [] env) it:=by
 intro A s R₁ hnext
 refine codeAny_of_own ?_
 intro Γ p hc hΓ
 have z:=hnext Γ target.pos (hc▸hΓ.in)
 show Sem.wp (model prog w) Γ ((forTurn target (.ref it) body [] env).onRaise _) _ _ p s
 rw [Sem.wp_onRaise]
 show Sem.wp (model prog w) Γ ((pyNext (.ref it)).onRaise _ >>= _) _ _ target.pos s
 rw [Sem.wp_bind',Sem.wp_onRaise]
 refine Sem.wp_mono (model prog w) Γ _ (λo p s h=>?_) (λe p s h=>absurd h (by exact λz=>z)) _ _ z
 obtain ⟨rfl,h⟩:=h
 refine ⟨rfl,codeAny_of_tree ?_⟩
 exact wpAny_pure h
theorem Afp{w:World}{st:Nat->Option Obj}{it:Addr}{o0 o1:Obj}{P:List AO}{c:Code}(y:Con)(hS:Stops w it o0 o1 P)(hH:Aia w c it)(hc:y.code=c)(hp:y.pre=(it,o0)::P)(hu:y.upd=[(it,λ_=>o1)])(hn:∀ nw tk,y.post nw tk=[])(hr:∀ nw tk,y.res nw tk=.ok .next):Ad w st y tT nL:=by
 intro A s R X hA hdep hst hpre hnod hX hXn hap hnd hR
 rw [hc]
 rw [hp] at hpre hnod hap
 have h0:=(hpre (it,o0) (.head _)).1
 refine hH A s R (hS (A.under c) s _ (by exact hA) h0 (λp hm=>(hpre p (.tail _ hm)).1) λh' t' e1 e4=>⟨rfl,?_⟩)
 have z:=hR (λ_=>0) (λ_=>0) h' t' [] (λb o eb=>by
   by_cases z:b=it
   ·exact ⟨_,by rw [z];exact e1⟩
   ·exact ⟨o,e4 b o eb z⟩) (λb o eb hb=>e4 b o eb λz=>hb (it,λ_=>o1) (by rw [hu];exact .head _) z.symm) (λp hm=>?_) (λp hm=>?_) (by rw [hn];exact List.nodup_nil) rfl
 ·rw [hr] at z;exact z
 ·rw [hu] at hm
  rcases mcm hm with rfl|hm
  ·exact e1
  ·cases hm
 ·rw [hn] at hm;cases hm
noncomputable def Ahi(x:Pen):Code:=.call (.ref 577) ⟨[.ref x.pl],[]⟩
noncomputable def cBds(x:Pen)(s s':St)(t u:Tok)(g1 g2:Bool)(n nt:Nat)(ex:(Nat->Addr)->(Nat->Tok)->List AO):Con:=
 ⟨Ahi x,x.pre s t u,[(x.pl,λtk=>x.o s' (tk 0) (tk 1))],n,λnw tk=>[(nw 0,tupO [.ref (nw 1),.ref (nw 2)]),(nw 1,Ac (refs (tk 2)) (tk 3)),(nw 2,Ac [vB g1 (nw 3),vB g2 (nw 4)] 0)]++ex nw tk,nt,λnw _=>.ok (.ret (.ref (nw 0))),50⟩
noncomputable def Ahq(x:Pen)(s s':St)(t u:Tok):Con:=
 ⟨Ahi x,x.pre s t u,[(x.pl,λtk=>x.o s' (tk 0) (tk 1))],3,λnw tk=>[(nw 0,tupO [.ref (nw 1),.ref (nw 2)]),(nw 1,Ac [] 0),(nw 2,Ac [.none,.none] 0)],2,λnw _=>.ok (.ret (.ref (nw 0))),50⟩
noncomputable def exKR(a j i:Nat)(nw:Nat->Addr)(tk:Nat->Tok):List AO:=[(nw a,tupO [.str "ref" (tk i),.str "K" (tk (i+1)),.ref (nw j),.ref (nw (j+1)),.none]),(nw j,tupO [.str "R" (tk (i+2))]),(nw (j+1),tupO [])]
noncomputable def Ae1(_:Nat->Addr)(_:Nat->Tok):List AO:=[]

theorem bds_0{x:Pen}{s:St}{t u:Tok}{n:Nat}(hx:x.Good)(hs:s.Inv n)(hn:n<=2 ^ 59)(h0:x.dig s 6=0):OkF w b (Ahq x s (x.nxt s 6) t u) tT (λnw tk L=>L=[]):=by
 let lZ:List (Fm w b):=[pl (cDrw x s (x.nxt s 6) 6 0 t u) λc=>h0▸Ah hx hs (by omega) Cj c]
 refine oFX lZ (x.K s t u) 201 0x104404d24800400490410010010010080082020020020823d03c20020020020000400010010000400400401c0187187040042041001001001081040040040042041001001040040041040001001 [18,1,2] [13,14] (λal tk=>[]) ?_ ?_ (λal tk X hX=>cZ rfl)<;>intros<;>kernel_rfl
theorem bds_1{x:Pen}{s:St}{t u:Tok}{n:Nat}(hx:x.Good)(hs:s.Inv n)(hn:n<=2 ^ 59)(h0:x.dig s 6=1):OkF w b (Ahq x s (x.nxt s 6) t u) tT (λnw tk L=>L=[]):=by
 let lZ:List (Fm w b):=[pl (cDrw x s (x.nxt s 6) 6 1 t u) λc=>h0▸Ah hx hs (by omega) Cj c]
 refine oFX lZ (x.K s t u) 201 0x104404d24800400480410010010010070071c20020020823d03c20020020020000400010010000400400401c0187187040042041001001001081040040040042041001001040040041040001001 [18,1,2] [13,14] (λal tk=>[]) ?_ ?_ (λal tk X hX=>cZ rfl)<;>intros<;>kernel_rfl
theorem bds_20{x:Pen}{s:St}{t u:Tok}{n:Nat}(hx:x.Good)(hs:s.Inv n)(hn:n<=2 ^ 59)(h0:x.dig s 6=2)(h1:x.dig (x.nxt s 6) 2=0):OkF w b (cBds x s (x.nxt (x.nxt s 6) 2) t u true false 5 4 Ae1) tT (λnw tk L=>Ab L (refs (tk 2)) ([tokD (w2 "BEFORE"),tokD (w2 "INITIAL")]++[tokD (l2 ".")])/\DatV L (.ref (nw 3)) (Op.lit #[46]).dat):=by
 let lZ:List (Fm w b):=[pl (cDrw x s (x.nxt s 6) 6 2 t u) λc=>h0▸Ah hx hs (by omega) Cj c,⟨λA T c=>.plain (cDrw x (x.nxt s 6) (x.nxt (x.nxt s 6) 2) 2 0 (T 13) (T 14) c),λ_ _ c=>h1▸Ah hx (Am hx hs Cj) (by omega) Ck c⟩,xE 36 37,xA 38 39 18 19,Ca,An,Da,Gr]
 refine oFX lZ (x.K s t u) 425 0x200c08e288005045745101101101f80d00504e05f01c11d05d1c000100100104174071969a01a01a69c71b70100128104004004004a0410010010012810400400410090092490800800820996990c008008008000100004004000100100100600024001000f4000470410010010010060061820020020823d03c20020020020000400010010000400400401c0187187040042041001001001081040040040042041001001040040041040001001 [35,32,2,18] [30,31,40,41] (λal tk=>[eL (tk 18) [tokD (l2 ".")] (al (16+2)) #[46],eW (tk 21) [tokD (w2 "K"),tokD (w2 "OF"),tokD (w2 "R")],eW (tk 36) [tokD (w2 "BEFORE"),tokD (w2 "INITIAL")],(λ_=>(refs (tk 36)).length<=5000,λL=>L=[]/\refs (tk 38)=refs (tk 36)),eA (tk 40) (tk 38) (tk 18)]) ?_ ?_ (λal tk X hX=>by (refine cS trivial λL0 h0x=>?_;obtain ⟨h0,g0⟩:=h0x;refine cS trivial λL1 h1=>?_;refine cS trivial λL2 h2=>?_;have e0:=h0.get.1;have e1:=h1.get.1;have e2:=h2.get.1;refine cS (by simp at e2;omega) λL3 h3=>?_;obtain ⟨y3,h3⟩:=h3;subst y3;have l3:(refs (tk 38)).length<=20:=(by rw [h3];simp at e2;omega);refine cS (by simp at e0;omega) λL4 h4=>?_;obtain ⟨y4,h4⟩:=h4;subst y4;have l4:(refs (tk 40)).length<=40:=(by rw [h4,List.length_append];simp at e0 e2;omega);refine cZ ?_;(repeat' (refine And.intro ?_ ?_))<;>first|exact datA|(show Ab _ (refs (tk 40)) _;rw [h4,h3];(repeat' refine Ab.app ?_ ?_)<;>exact datA)))<;>intros<;>kernel_rfl
theorem bds_21{x:Pen}{s:St}{t u:Tok}{n:Nat}(hx:x.Good)(hs:s.Inv n)(hn:n<=2 ^ 59)(h0:x.dig s 6=2)(h1:x.dig (x.nxt s 6) 2=1):OkF w b (cBds x s (x.nxt (x.nxt s 6) 2) t u true false 7 7 (λnw tk=>exKR 3 5 4 nw tk)) tT (λnw tk L=>Ab L (refs (tk 2)) ([tokD (w2 "BEFORE"),tokD (w2 "INITIAL")]++[tokD (w2 "K"),tokD (w2 "OF"),tokD (w2 "R")])):=by
 let lZ:List (Fm w b):=[pl (cDrw x s (x.nxt s 6) 6 2 t u) λc=>h0▸Ah hx hs (by omega) Cj c,⟨λA T c=>.plain (cDrw x (x.nxt s 6) (x.nxt (x.nxt s 6) 2) 2 1 (T 13) (T 14) c),λ_ _ c=>h1▸Ah hx (Am hx hs Cj) (by omega) Ck c⟩,xE 36 37,xA 38 39 21 22,Ca,An,Da,Gr]
 refine oFX lZ (x.K s t u) 425 0x38f3600c08e288005045745101101101f80c00504d05f01c11d05d1c000100100104174071969a01a01a69c71b7010011010400400400440410010010011010400400410030030c30800800820996990c008008008000100004004000100100100600024001000f4000470410010010010060061820020020823d03c20020020020000400010010000400400401c0187187040042041001001001081040040040042041001001040040041040001001 [35,32,2,22,0,20,21] [30,31,40,41,23,24,25] (λal tk=>[eL (tk 18) [tokD (l2 ".")] (al (16+2)) #[46],eW (tk 21) [tokD (w2 "K"),tokD (w2 "OF"),tokD (w2 "R")],eW (tk 36) [tokD (w2 "BEFORE"),tokD (w2 "INITIAL")],(λ_=>(refs (tk 36)).length<=5000,λL=>L=[]/\refs (tk 38)=refs (tk 36)),eA (tk 40) (tk 38) (tk 21)]) ?_ ?_ (λal tk X hX=>by (refine cS trivial λL0 h0x=>?_;obtain ⟨h0,g0⟩:=h0x;refine cS trivial λL1 h1=>?_;refine cS trivial λL2 h2=>?_;have e0:=h0.get.1;have e1:=h1.get.1;have e2:=h2.get.1;refine cS (by simp at e2;omega) λL3 h3=>?_;obtain ⟨y3,h3⟩:=h3;subst y3;have l3:(refs (tk 38)).length<=20:=(by rw [h3];simp at e2;omega);refine cS (by simp at e1;omega) λL4 h4=>?_;obtain ⟨y4,h4⟩:=h4;subst y4;have l4:(refs (tk 40)).length<=40:=(by rw [h4,List.length_append];simp at e1 e2;omega);refine cZ ?_;(repeat' (refine And.intro ?_ ?_))<;>first|exact datA|(show Ab _ (refs (tk 40)) _;rw [h4,h3];(repeat' refine Ab.app ?_ ?_)<;>exact datA)))<;>intros<;>kernel_rfl
theorem bds_30{x:Pen}{s:St}{t u:Tok}{n:Nat}(hx:x.Good)(hs:s.Inv n)(hn:n<=2 ^ 59)(h0:x.dig s 6=3)(h1:x.dig (x.nxt s 6) 2=0):OkF w b (cBds x s (x.nxt (x.nxt s 6) 2) t u false true 5 4 Ae1) tT (λnw tk L=>Ab L (refs (tk 2)) ([tokD (w2 "AFTER")]++[tokD (l2 ".")])/\DatV L (.ref (nw 4)) (Op.lit #[46]).dat):=by
 let lZ:List (Fm w b):=[pl (cDrw x s (x.nxt s 6) 6 3 t u) λc=>h0▸Ah hx hs (by omega) Cj c,⟨λA T c=>.plain (cDrw x (x.nxt s 6) (x.nxt (x.nxt s 6) 2) 2 0 (T 13) (T 14) c),λ_ _ c=>h1▸Ah hx (Am hx hs Cj) (by omega) Ck c⟩,xE 36 37,xA 38 39 18 19,Ca,An,Da,Gr]
 refine oFX lZ (x.K s t u) 425 0x200c08e288005045645101101101f80d00504e05f01c11d05d20000100100104174071969a01a01a69c71b70100128104004004004a0410010010012810400400410090092490800800820996990c008008008000100004004000100100100600024001000f4000460410010010010050051420020020823d03c20020020020000400010010000400400401c0187187040042041001001001081040040040042041001001040040041040001001 [35,32,2,0,18] [30,31,40,41] (λal tk=>[eL (tk 18) [tokD (l2 ".")] (al (16+2)) #[46],eW (tk 21) [tokD (w2 "K"),tokD (w2 "OF"),tokD (w2 "R")],eW (tk 36) [tokD (w2 "AFTER")],(λ_=>(refs (tk 36)).length<=5000,λL=>L=[]/\refs (tk 38)=refs (tk 36)),eA (tk 40) (tk 38) (tk 18)]) ?_ ?_ (λal tk X hX=>by (refine cS trivial λL0 h0x=>?_;obtain ⟨h0,g0⟩:=h0x;refine cS trivial λL1 h1=>?_;refine cS trivial λL2 h2=>?_;have e0:=h0.get.1;have e1:=h1.get.1;have e2:=h2.get.1;refine cS (by simp at e2;omega) λL3 h3=>?_;obtain ⟨y3,h3⟩:=h3;subst y3;have l3:(refs (tk 38)).length<=20:=(by rw [h3];simp at e2;omega);refine cS (by simp at e0;omega) λL4 h4=>?_;obtain ⟨y4,h4⟩:=h4;subst y4;have l4:(refs (tk 40)).length<=40:=(by rw [h4,List.length_append];simp at e0 e2;omega);refine cZ ?_;(repeat' (refine And.intro ?_ ?_))<;>first|exact datA|(show Ab _ (refs (tk 40)) _;rw [h4,h3];(repeat' refine Ab.app ?_ ?_)<;>exact datA)))<;>intros<;>kernel_rfl
theorem bds_31{x:Pen}{s:St}{t u:Tok}{n:Nat}(hx:x.Good)(hs:s.Inv n)(hn:n<=2 ^ 59)(h0:x.dig s 6=3)(h1:x.dig (x.nxt s 6) 2=1):OkF w b (cBds x s (x.nxt (x.nxt s 6) 2) t u false true 7 7 (λnw tk=>exKR 4 5 4 nw tk)) tT (λnw tk L=>Ab L (refs (tk 2)) ([tokD (w2 "AFTER")]++[tokD (w2 "K"),tokD (w2 "OF"),tokD (w2 "R")])):=by
 let lZ:List (Fm w b):=[pl (cDrw x s (x.nxt s 6) 6 3 t u) λc=>h0▸Ah hx hs (by omega) Cj c,⟨λA T c=>.plain (cDrw x (x.nxt s 6) (x.nxt (x.nxt s 6) 2) 2 1 (T 13) (T 14) c),λ_ _ c=>h1▸Ah hx (Am hx hs Cj) (by omega) Ck c⟩,xE 36 37,xA 38 39 21 22,Ca,An,Da,Gr]
 refine oFX lZ (x.K s t u) 425 0x38f3600c08e288005045645101101101f80c00504d05f01c11d05d20000100100104174071969a01a01a69c71b7010011010400400400440410010010011010400400410030030c30800800820996990c008008008000100004004000100100100600024001000f4000460410010010010050051420020020823d03c20020020020000400010010000400400401c0187187040042041001001001081040040040042041001001040040041040001001 [35,32,2,0,22,20,21] [30,31,40,41,23,24,25] (λal tk=>[eL (tk 18) [tokD (l2 ".")] (al (16+2)) #[46],eW (tk 21) [tokD (w2 "K"),tokD (w2 "OF"),tokD (w2 "R")],eW (tk 36) [tokD (w2 "AFTER")],(λ_=>(refs (tk 36)).length<=5000,λL=>L=[]/\refs (tk 38)=refs (tk 36)),eA (tk 40) (tk 38) (tk 21)]) ?_ ?_ (λal tk X hX=>by (refine cS trivial λL0 h0x=>?_;obtain ⟨h0,g0⟩:=h0x;refine cS trivial λL1 h1=>?_;refine cS trivial λL2 h2=>?_;have e0:=h0.get.1;have e1:=h1.get.1;have e2:=h2.get.1;refine cS (by simp at e2;omega) λL3 h3=>?_;obtain ⟨y3,h3⟩:=h3;subst y3;have l3:(refs (tk 38)).length<=20:=(by rw [h3];simp at e2;omega);refine cS (by simp at e1;omega) λL4 h4=>?_;obtain ⟨y4,h4⟩:=h4;subst y4;have l4:(refs (tk 40)).length<=40:=(by rw [h4,List.length_append];simp at e1 e2;omega);refine cZ ?_;(repeat' (refine And.intro ?_ ?_))<;>first|exact datA|(show Ab _ (refs (tk 40)) _;rw [h4,h3];(repeat' refine Ab.app ?_ ?_)<;>exact datA)))<;>intros<;>kernel_rfl
theorem Ai4{x:Pen}{s:St}{t u:Tok}{n:Nat}(hx:x.Good)(hs:s.Inv n)(hn:n<=2 ^ 59)(h0:x.dig s 6=4)(h1:x.dig (x.nxt s 6) 2=0)(h2:x.dig (x.nxt (x.nxt s 6) 2) 2=0):OkF w b (cBds x s (x.nxt (x.nxt (x.nxt s 6) 2) 2) t u true true 5 4 Ae1) tT (λnw tk L=>Ab L (refs (tk 2)) ([tokD (w2 "BEFORE"),tokD (w2 "INITIAL")]++[tokD (l2 ".")]++[tokD (w2 "AFTER")]++[tokD (l2 ".")])/\DatV L (.ref (nw 3)) (Op.lit #[46]).dat/\DatV L (.ref (nw 4)) (Op.lit #[46]).dat):=by
 let lZ:List (Fm w b):=[pl (cDrw x s (x.nxt s 6) 6 4 t u) λc=>h0▸Ah hx hs (by omega) Cj c,⟨λA T c=>.plain (cDrw x (x.nxt s 6) (x.nxt (x.nxt s 6) 2) 2 0 (T 13) (T 14) c),λ_ _ c=>h1▸Ah hx (Am hx hs Cj) (by omega) Ck c⟩,xE 36 37,xA 38 39 18 19,⟨λA T c=>.plain (cDrw x (x.nxt (x.nxt s 6) 2) (x.nxt (x.nxt (x.nxt s 6) 2) 2) 2 0 (T 30) (T 31) c),λ_ _ c=>h2▸Ah hx (Am hx (Am hx hs Cj) Ck) (by omega) Ck c⟩,xA 40 41 63 64,xA 65 66 45 46,Ca,An,Da,Gr]
 refine oFX lZ (x.K s t u) 649 0x300c0cf2c8006086586102102102fc0d00804e06f00e1cf04f2c0001001001041b40b29aaa02a02aaacb2bb0100128104004004004a0410010010012810400400410090092490800800820a9aa918008008008000100004004000100100100900030002001f81045545101101101f80d00504e05f01c11d05d28000100100104174071969a01a01a69c71b70100128104004004004a0410010010012810400400410090092490800800820996990c008008008000100004004000100100100900030001000f4000450410010010010040041020020020823d03c20020020020000400010010000400400401c0187187040042041001001001081040040040042041001001040040041040001001 [52,49,2,18,35] [57,58,67,68] (λal tk=>[eL (tk 18) [tokD (l2 ".")] (al (16+2)) #[46],eW (tk 21) [tokD (w2 "K"),tokD (w2 "OF"),tokD (w2 "R")],eW (tk 36) [tokD (w2 "BEFORE"),tokD (w2 "INITIAL")],(λ_=>(refs (tk 36)).length<=5000,λL=>L=[]/\refs (tk 38)=refs (tk 36)),eA (tk 40) (tk 38) (tk 18),eL (tk 45) [tokD (l2 ".")] (al (33+2)) #[46],eW (tk 48) [tokD (w2 "K"),tokD (w2 "OF"),tokD (w2 "R")],eW (tk 63) [tokD (w2 "AFTER")],eA (tk 65) (tk 40) (tk 63),eA (tk 67) (tk 65) (tk 45)]) ?_ ?_ (λal tk X hX=>by (refine cS trivial λL0 h0x=>?_;obtain ⟨h0,g0⟩:=h0x;refine cS trivial λL1 h1=>?_;refine cS trivial λL2 h2=>?_;have e0:=h0.get.1;have e1:=h1.get.1;have e2:=h2.get.1;refine cS (by simp at e2;omega) λL3 h3=>?_;obtain ⟨y3,h3⟩:=h3;subst y3;have l3:(refs (tk 38)).length<=20:=(by rw [h3];simp at e2;omega);refine cS (by simp at e0;omega) λL4 h4=>?_;obtain ⟨y4,h4⟩:=h4;subst y4;have l4:(refs (tk 40)).length<=40:=(by rw [h4,List.length_append];simp at e0 e2;omega);refine cS trivial λL5 h5x=>?_;obtain ⟨h5,g5⟩:=h5x;refine cS trivial λL6 h6=>?_;refine cS trivial λL7 h7=>?_;have e5:=h5.get.1;have e6:=h6.get.1;have e7:=h7.get.1;refine cS (by simp at e7;omega) λL8 h8=>?_;obtain ⟨y8,h8⟩:=h8;subst y8;have l8:(refs (tk 65)).length<=60:=(by rw [h8,List.length_append];simp at e7;omega);refine cS (by simp at e5;omega) λL9 h9=>?_;obtain ⟨y9,h9⟩:=h9;subst y9;have l9:(refs (tk 67)).length<=80:=(by rw [h9,List.length_append];simp at e5 e7;omega);refine cZ ?_;(repeat' (refine And.intro ?_ ?_))<;>first|exact datA|(show Ab _ (refs (tk 67)) _;rw [h9,h8,h4,h3];(repeat' refine Ab.app ?_ ?_)<;>exact datA)))<;>intros<;>kernel_rfl
theorem Ai3{x:Pen}{s:St}{t u:Tok}{n:Nat}(hx:x.Good)(hs:s.Inv n)(hn:n<=2 ^ 59)(h0:x.dig s 6=4)(h1:x.dig (x.nxt s 6) 2=0)(h2:x.dig (x.nxt (x.nxt s 6) 2) 2=1):OkF w b (cBds x s (x.nxt (x.nxt (x.nxt s 6) 2) 2) t u true true 7 7 (λnw tk=>exKR 4 5 4 nw tk)) tT (λnw tk L=>Ab L (refs (tk 2)) ([tokD (w2 "BEFORE"),tokD (w2 "INITIAL")]++[tokD (l2 ".")]++[tokD (w2 "AFTER")]++[tokD (w2 "K"),tokD (w2 "OF"),tokD (w2 "R")])/\DatV L (.ref (nw 3)) (Op.lit #[46]).dat):=by
 let lZ:List (Fm w b):=[pl (cDrw x s (x.nxt s 6) 6 4 t u) λc=>h0▸Ah hx hs (by omega) Cj c,⟨λA T c=>.plain (cDrw x (x.nxt s 6) (x.nxt (x.nxt s 6) 2) 2 0 (T 13) (T 14) c),λ_ _ c=>h1▸Ah hx (Am hx hs Cj) (by omega) Ck c⟩,xE 36 37,xA 38 39 18 19,⟨λA T c=>.plain (cDrw x (x.nxt (x.nxt s 6) 2) (x.nxt (x.nxt (x.nxt s 6) 2) 2) 2 1 (T 30) (T 31) c),λ_ _ c=>h2▸Ah hx (Am hx (Am hx hs Cj) Ck) (by omega) Ck c⟩,xA 40 41 63 64,xA 65 66 48 49,Ca,An,Da,Gr]
 refine oFX lZ (x.K s t u) 649 0x38f3700c0cf2c8006086586102102102fc0c00804d06f00e1cf04f2c0001001001041b40b29aaa02a02aaacb2bb010011010400400400440410010010011010400400410030030c30800800820a9aa918008008008000100004004000100100100900030002001f81045545101101101f80d00504e05f01c11d05d28000100100104174071969a01a01a69c71b70100128104004004004a0410010010012810400400410090092490800800820996990c008008008000100004004000100100100900030001000f4000450410010010010040041020020020823d03c20020020020000400010010000400400401c0187187040042041001001001081040040040042041001001040040041040001001 [52,49,2,18,39,37,38] [57,58,67,68,50,51,52] (λal tk=>[eL (tk 18) [tokD (l2 ".")] (al (16+2)) #[46],eW (tk 21) [tokD (w2 "K"),tokD (w2 "OF"),tokD (w2 "R")],eW (tk 36) [tokD (w2 "BEFORE"),tokD (w2 "INITIAL")],(λ_=>(refs (tk 36)).length<=5000,λL=>L=[]/\refs (tk 38)=refs (tk 36)),eA (tk 40) (tk 38) (tk 18),eL (tk 45) [tokD (l2 ".")] (al (33+2)) #[46],eW (tk 48) [tokD (w2 "K"),tokD (w2 "OF"),tokD (w2 "R")],eW (tk 63) [tokD (w2 "AFTER")],eA (tk 65) (tk 40) (tk 63),eA (tk 67) (tk 65) (tk 48)]) ?_ ?_ (λal tk X hX=>by (refine cS trivial λL0 h0x=>?_;obtain ⟨h0,g0⟩:=h0x;refine cS trivial λL1 h1=>?_;refine cS trivial λL2 h2=>?_;have e0:=h0.get.1;have e1:=h1.get.1;have e2:=h2.get.1;refine cS (by simp at e2;omega) λL3 h3=>?_;obtain ⟨y3,h3⟩:=h3;subst y3;have l3:(refs (tk 38)).length<=20:=(by rw [h3];simp at e2;omega);refine cS (by simp at e0;omega) λL4 h4=>?_;obtain ⟨y4,h4⟩:=h4;subst y4;have l4:(refs (tk 40)).length<=40:=(by rw [h4,List.length_append];simp at e0 e2;omega);refine cS trivial λL5 h5x=>?_;obtain ⟨h5,g5⟩:=h5x;refine cS trivial λL6 h6=>?_;refine cS trivial λL7 h7=>?_;have e5:=h5.get.1;have e6:=h6.get.1;have e7:=h7.get.1;refine cS (by simp at e7;omega) λL8 h8=>?_;obtain ⟨y8,h8⟩:=h8;subst y8;have l8:(refs (tk 65)).length<=60:=(by rw [h8,List.length_append];simp at e7;omega);refine cS (by simp at e6;omega) λL9 h9=>?_;obtain ⟨y9,h9⟩:=h9;subst y9;have l9:(refs (tk 67)).length<=80:=(by rw [h9,List.length_append];simp at e6 e7;omega);refine cZ ?_;(repeat' (refine And.intro ?_ ?_))<;>first|exact datA|(show Ab _ (refs (tk 67)) _;rw [h9,h8,h4,h3];(repeat' refine Ab.app ?_ ?_)<;>exact datA)))<;>intros<;>kernel_rfl
theorem Ai2{x:Pen}{s:St}{t u:Tok}{n:Nat}(hx:x.Good)(hs:s.Inv n)(hn:n<=2 ^ 59)(h0:x.dig s 6=4)(h1:x.dig (x.nxt s 6) 2=1)(h2:x.dig (x.nxt (x.nxt s 6) 2) 2=0):OkF w b (cBds x s (x.nxt (x.nxt (x.nxt s 6) 2) 2) t u true true 7 7 (λnw tk=>exKR 3 5 4 nw tk)) tT (λnw tk L=>Ab L (refs (tk 2)) ([tokD (w2 "BEFORE"),tokD (w2 "INITIAL")]++[tokD (w2 "K"),tokD (w2 "OF"),tokD (w2 "R")]++[tokD (w2 "AFTER")]++[tokD (l2 ".")])/\DatV L (.ref (nw 4)) (Op.lit #[46]).dat):=by
 let lZ:List (Fm w b):=[pl (cDrw x s (x.nxt s 6) 6 4 t u) λc=>h0▸Ah hx hs (by omega) Cj c,⟨λA T c=>.plain (cDrw x (x.nxt s 6) (x.nxt (x.nxt s 6) 2) 2 1 (T 13) (T 14) c),λ_ _ c=>h1▸Ah hx (Am hx hs Cj) (by omega) Ck c⟩,xE 36 37,xA 38 39 21 22,⟨λA T c=>.plain (cDrw x (x.nxt (x.nxt s 6) 2) (x.nxt (x.nxt (x.nxt s 6) 2) 2) 2 0 (T 30) (T 31) c),λ_ _ c=>h2▸Ah hx (Am hx (Am hx hs Cj) Ck) (by omega) Ck c⟩,xA 40 41 63 64,xA 65 66 45 46,Ca,An,Da,Gr]
 refine oFX lZ (x.K s t u) 649 0x79f7700c0cf2c8006086586102102102fc0d00804e06f00e1cf04f2c0001001001041b40b29aaa02a02aaacb2bb0100128104004004004a0410010010012810400400410090092490800800820a9aa918008008008000100004004000100100100900030002001f81045545101101101f80c00504d05f01c11d05d28000100100104174071969a01a01a69c71b7010011010400400400440410010010011010400400410030030c30800800820996990c008008008000100004004000100100100900030001000f4000450410010010010040041020020020823d03c20020020020000400010010000400400401c0187187040042041001001001081040040040042041001001040040041040001001 [52,49,2,22,35,20,21] [57,58,67,68,23,24,25] (λal tk=>[eL (tk 18) [tokD (l2 ".")] (al (16+2)) #[46],eW (tk 21) [tokD (w2 "K"),tokD (w2 "OF"),tokD (w2 "R")],eW (tk 36) [tokD (w2 "BEFORE"),tokD (w2 "INITIAL")],(λ_=>(refs (tk 36)).length<=5000,λL=>L=[]/\refs (tk 38)=refs (tk 36)),eA (tk 40) (tk 38) (tk 21),eL (tk 45) [tokD (l2 ".")] (al (33+2)) #[46],eW (tk 48) [tokD (w2 "K"),tokD (w2 "OF"),tokD (w2 "R")],eW (tk 63) [tokD (w2 "AFTER")],eA (tk 65) (tk 40) (tk 63),eA (tk 67) (tk 65) (tk 45)]) ?_ ?_ (λal tk X hX=>by (refine cS trivial λL0 h0x=>?_;obtain ⟨h0,g0⟩:=h0x;refine cS trivial λL1 h1=>?_;refine cS trivial λL2 h2=>?_;have e0:=h0.get.1;have e1:=h1.get.1;have e2:=h2.get.1;refine cS (by simp at e2;omega) λL3 h3=>?_;obtain ⟨y3,h3⟩:=h3;subst y3;have l3:(refs (tk 38)).length<=20:=(by rw [h3];simp at e2;omega);refine cS (by simp at e1;omega) λL4 h4=>?_;obtain ⟨y4,h4⟩:=h4;subst y4;have l4:(refs (tk 40)).length<=40:=(by rw [h4,List.length_append];simp at e1 e2;omega);refine cS trivial λL5 h5x=>?_;obtain ⟨h5,g5⟩:=h5x;refine cS trivial λL6 h6=>?_;refine cS trivial λL7 h7=>?_;have e5:=h5.get.1;have e6:=h6.get.1;have e7:=h7.get.1;refine cS (by simp at e7;omega) λL8 h8=>?_;obtain ⟨y8,h8⟩:=h8;subst y8;have l8:(refs (tk 65)).length<=60:=(by rw [h8,List.length_append];simp at e7;omega);refine cS (by simp at e5;omega) λL9 h9=>?_;obtain ⟨y9,h9⟩:=h9;subst y9;have l9:(refs (tk 67)).length<=80:=(by rw [h9,List.length_append];simp at e5 e7;omega);refine cZ ?_;(repeat' (refine And.intro ?_ ?_))<;>first|exact datA|(show Ab _ (refs (tk 67)) _;rw [h9,h8,h4,h3];(repeat' refine Ab.app ?_ ?_)<;>exact datA)))<;>intros<;>kernel_rfl
theorem Ai1{x:Pen}{s:St}{t u:Tok}{n:Nat}(hx:x.Good)(hs:s.Inv n)(hn:n<=2 ^ 59)(h0:x.dig s 6=4)(h1:x.dig (x.nxt s 6) 2=1)(h2:x.dig (x.nxt (x.nxt s 6) 2) 2=1):OkF w b (cBds x s (x.nxt (x.nxt (x.nxt s 6) 2) 2) t u true true 9 10 (λnw tk=>exKR 3 5 4 nw tk++exKR 4 7 7 nw tk)) tT (λnw tk L=>Ab L (refs (tk 2)) ([tokD (w2 "BEFORE"),tokD (w2 "INITIAL")]++[tokD (w2 "K"),tokD (w2 "OF"),tokD (w2 "R")]++[tokD (w2 "AFTER")]++[tokD (w2 "K"),tokD (w2 "OF"),tokD (w2 "R")])):=by
 let lZ:List (Fm w b):=[pl (cDrw x s (x.nxt s 6) 6 4 t u) λc=>h0▸Ah hx hs (by omega) Cj c,⟨λA T c=>.plain (cDrw x (x.nxt s 6) (x.nxt (x.nxt s 6) 2) 2 1 (T 13) (T 14) c),λ_ _ c=>h1▸Ah hx (Am hx hs Cj) (by omega) Ck c⟩,xE 36 37,xA 38 39 21 22,⟨λA T c=>.plain (cDrw x (x.nxt (x.nxt s 6) 2) (x.nxt (x.nxt (x.nxt s 6) 2) 2) 2 1 (T 30) (T 31) c),λ_ _ c=>h2▸Ah hx (Am hx (Am hx hs Cj) Ck) (by omega) Ck c⟩,xA 40 41 63 64,xA 65 66 48 49,Ca,An,Da,Gr]
 refine oFX lZ (x.K s t u) 649 0xe3cd79f7700c0cf2c8006086586102102102fc0c00804d06f00e1cf04f2c0001001001041b40b29aaa02a02aaacb2bb010011010400400400440410010010011010400400410030030c30800800820a9aa918008008008000100004004000100100100900030002001f81045545101101101f80c00504d05f01c11d05d28000100100104174071969a01a01a69c71b7010011010400400400440410010010011010400400410030030c30800800820996990c008008008000100004004000100100100900030001000f4000450410010010010040041020020020823d03c20020020020000400010010000400400401c0187187040042041001001001081040040040042041001001040040041040001001 [52,49,2,22,39,20,21,37,38] [57,58,67,68,23,24,25,50,51,52] (λal tk=>[eL (tk 18) [tokD (l2 ".")] (al (16+2)) #[46],eW (tk 21) [tokD (w2 "K"),tokD (w2 "OF"),tokD (w2 "R")],eW (tk 36) [tokD (w2 "BEFORE"),tokD (w2 "INITIAL")],(λ_=>(refs (tk 36)).length<=5000,λL=>L=[]/\refs (tk 38)=refs (tk 36)),eA (tk 40) (tk 38) (tk 21),eL (tk 45) [tokD (l2 ".")] (al (33+2)) #[46],eW (tk 48) [tokD (w2 "K"),tokD (w2 "OF"),tokD (w2 "R")],eW (tk 63) [tokD (w2 "AFTER")],eA (tk 65) (tk 40) (tk 63),eA (tk 67) (tk 65) (tk 48)]) ?_ ?_ (λal tk X hX=>by (refine cS trivial λL0 h0x=>?_;obtain ⟨h0,g0⟩:=h0x;refine cS trivial λL1 h1=>?_;refine cS trivial λL2 h2=>?_;have e0:=h0.get.1;have e1:=h1.get.1;have e2:=h2.get.1;refine cS (by simp at e2;omega) λL3 h3=>?_;obtain ⟨y3,h3⟩:=h3;subst y3;have l3:(refs (tk 38)).length<=20:=(by rw [h3];simp at e2;omega);refine cS (by simp at e1;omega) λL4 h4=>?_;obtain ⟨y4,h4⟩:=h4;subst y4;have l4:(refs (tk 40)).length<=40:=(by rw [h4,List.length_append];simp at e1 e2;omega);refine cS trivial λL5 h5x=>?_;obtain ⟨h5,g5⟩:=h5x;refine cS trivial λL6 h6=>?_;refine cS trivial λL7 h7=>?_;have e5:=h5.get.1;have e6:=h6.get.1;have e7:=h7.get.1;refine cS (by simp at e7;omega) λL8 h8=>?_;obtain ⟨y8,h8⟩:=h8;subst y8;have l8:(refs (tk 65)).length<=60:=(by rw [h8,List.length_append];simp at e7;omega);refine cS (by simp at e6;omega) λL9 h9=>?_;obtain ⟨y9,h9⟩:=h9;subst y9;have l9:(refs (tk 67)).length<=80:=(by rw [h9,List.length_append];simp at e6 e7;omega);refine cZ ?_;(repeat' (refine And.intro ?_ ?_))<;>first|exact datA|(show Ab _ (refs (tk 67)) _;rw [h9,h8,h4,h3];(repeat' refine Ab.app ?_ ?_)<;>exact datA)))<;>intros<;>kernel_rfl
theorem Ai0{x:Pen}{s:St}{t u:Tok}{n:Nat}(hx:x.Good)(hs:s.Inv n)(hn:n<=2 ^ 59)(h0:x.dig s 6=5)(h1:x.dig (x.nxt s 6) 2=0)(h2:x.dig (x.nxt (x.nxt s 6) 2) 2=0):OkF w b (cBds x s (x.nxt (x.nxt (x.nxt s 6) 2) 2) t u true true 5 4 Ae1) tT (λnw tk L=>Ab L (refs (tk 2)) ([tokD (w2 "AFTER")]++[tokD (l2 ".")]++[tokD (w2 "BEFORE"),tokD (w2 "INITIAL")]++[tokD (l2 ".")])/\DatV L (.ref (nw 3)) (Op.lit #[46]).dat/\DatV L (.ref (nw 4)) (Op.lit #[46]).dat):=by
 let lZ:List (Fm w b):=[pl (cDrw x s (x.nxt s 6) 6 5 t u) λc=>h0▸Ah hx hs (by omega) Cj c,⟨λA T c=>.plain (cDrw x (x.nxt s 6) (x.nxt (x.nxt s 6) 2) 2 0 (T 13) (T 14) c),λ_ _ c=>h1▸Ah hx (Am hx hs Cj) (by omega) Ck c⟩,xE 36 37,xA 38 39 18 19,⟨λA T c=>.plain (cDrw x (x.nxt (x.nxt s 6) 2) (x.nxt (x.nxt (x.nxt s 6) 2) 2) 2 0 (T 30) (T 31) c),λ_ _ c=>h2▸Ah hx (Am hx (Am hx hs Cj) Ck) (by omega) Ck c⟩,xA 40 41 63 64,xA 65 66 45 46,Ca,An,Da,Gr]
 refine oFX lZ (x.K s t u) 649 0x300c0cf2c8006086486102102102fc0d00804e06f00e1cf04f280001001001041b40b29aaa02a02aaacb2bb0100128104004004004a0410010010012810400400410090092490800800820a9aa918008008008000100004004000100100100900030002001f81045445101101101f80d00504e05f01c11d05d2c000100100104174071969a01a01a69c71b70100128104004004004a0410010010012810400400410090092490800800820996990c008008008000100004004000100100100900030001000f4000440410010010010030030c20020020823d03c20020020020000400010010000400400401c0187187040042041001001001081040040040042041001001040040041040001001 [52,49,2,35,18] [57,58,67,68] (λal tk=>[eL (tk 18) [tokD (l2 ".")] (al (16+2)) #[46],eW (tk 21) [tokD (w2 "K"),tokD (w2 "OF"),tokD (w2 "R")],eW (tk 36) [tokD (w2 "AFTER")],(λ_=>(refs (tk 36)).length<=5000,λL=>L=[]/\refs (tk 38)=refs (tk 36)),eA (tk 40) (tk 38) (tk 18),eL (tk 45) [tokD (l2 ".")] (al (33+2)) #[46],eW (tk 48) [tokD (w2 "K"),tokD (w2 "OF"),tokD (w2 "R")],eW (tk 63) [tokD (w2 "BEFORE"),tokD (w2 "INITIAL")],eA (tk 65) (tk 40) (tk 63),eA (tk 67) (tk 65) (tk 45)]) ?_ ?_ (λal tk X hX=>by (refine cS trivial λL0 h0x=>?_;obtain ⟨h0,g0⟩:=h0x;refine cS trivial λL1 h1=>?_;refine cS trivial λL2 h2=>?_;have e0:=h0.get.1;have e1:=h1.get.1;have e2:=h2.get.1;refine cS (by simp at e2;omega) λL3 h3=>?_;obtain ⟨y3,h3⟩:=h3;subst y3;have l3:(refs (tk 38)).length<=20:=(by rw [h3];simp at e2;omega);refine cS (by simp at e0;omega) λL4 h4=>?_;obtain ⟨y4,h4⟩:=h4;subst y4;have l4:(refs (tk 40)).length<=40:=(by rw [h4,List.length_append];simp at e0 e2;omega);refine cS trivial λL5 h5x=>?_;obtain ⟨h5,g5⟩:=h5x;refine cS trivial λL6 h6=>?_;refine cS trivial λL7 h7=>?_;have e5:=h5.get.1;have e6:=h6.get.1;have e7:=h7.get.1;refine cS (by simp at e7;omega) λL8 h8=>?_;obtain ⟨y8,h8⟩:=h8;subst y8;have l8:(refs (tk 65)).length<=60:=(by rw [h8,List.length_append];simp at e7;omega);refine cS (by simp at e5;omega) λL9 h9=>?_;obtain ⟨y9,h9⟩:=h9;subst y9;have l9:(refs (tk 67)).length<=80:=(by rw [h9,List.length_append];simp at e5 e7;omega);refine cZ ?_;(repeat' (refine And.intro ?_ ?_))<;>first|exact datA|(show Ab _ (refs (tk 67)) _;rw [h9,h8,h4,h3];(repeat' refine Ab.app ?_ ?_)<;>exact datA)))<;>intros<;>kernel_rfl
theorem Ahz{x:Pen}{s:St}{t u:Tok}{n:Nat}(hx:x.Good)(hs:s.Inv n)(hn:n<=2 ^ 59)(h0:x.dig s 6=5)(h1:x.dig (x.nxt s 6) 2=0)(h2:x.dig (x.nxt (x.nxt s 6) 2) 2=1):OkF w b (cBds x s (x.nxt (x.nxt (x.nxt s 6) 2) 2) t u true true 7 7 (λnw tk=>exKR 3 5 4 nw tk)) tT (λnw tk L=>Ab L (refs (tk 2)) ([tokD (w2 "AFTER")]++[tokD (l2 ".")]++[tokD (w2 "BEFORE"),tokD (w2 "INITIAL")]++[tokD (w2 "K"),tokD (w2 "OF"),tokD (w2 "R")])/\DatV L (.ref (nw 4)) (Op.lit #[46]).dat):=by
 let lZ:List (Fm w b):=[pl (cDrw x s (x.nxt s 6) 6 5 t u) λc=>h0▸Ah hx hs (by omega) Cj c,⟨λA T c=>.plain (cDrw x (x.nxt s 6) (x.nxt (x.nxt s 6) 2) 2 0 (T 13) (T 14) c),λ_ _ c=>h1▸Ah hx (Am hx hs Cj) (by omega) Ck c⟩,xE 36 37,xA 38 39 18 19,⟨λA T c=>.plain (cDrw x (x.nxt (x.nxt s 6) 2) (x.nxt (x.nxt (x.nxt s 6) 2) 2) 2 1 (T 30) (T 31) c),λ_ _ c=>h2▸Ah hx (Am hx (Am hx hs Cj) Ck) (by omega) Ck c⟩,xA 40 41 63 64,xA 65 66 48 49,Ca,An,Da,Gr]
 refine oFX lZ (x.K s t u) 649 0x38f3700c0cf2c8006086486102102102fc0c00804d06f00e1cf04f280001001001041b40b29aaa02a02aaacb2bb010011010400400400440410010010011010400400410030030c30800800820a9aa918008008008000100004004000100100100900030002001f81045445101101101f80d00504e05f01c11d05d2c000100100104174071969a01a01a69c71b70100128104004004004a0410010010012810400400410090092490800800820996990c008008008000100004004000100100100900030001000f4000440410010010010030030c20020020823d03c20020020020000400010010000400400401c0187187040042041001001001081040040040042041001001040040041040001001 [52,49,2,39,18,37,38] [57,58,67,68,50,51,52] (λal tk=>[eL (tk 18) [tokD (l2 ".")] (al (16+2)) #[46],eW (tk 21) [tokD (w2 "K"),tokD (w2 "OF"),tokD (w2 "R")],eW (tk 36) [tokD (w2 "AFTER")],(λ_=>(refs (tk 36)).length<=5000,λL=>L=[]/\refs (tk 38)=refs (tk 36)),eA (tk 40) (tk 38) (tk 18),eL (tk 45) [tokD (l2 ".")] (al (33+2)) #[46],eW (tk 48) [tokD (w2 "K"),tokD (w2 "OF"),tokD (w2 "R")],eW (tk 63) [tokD (w2 "BEFORE"),tokD (w2 "INITIAL")],eA (tk 65) (tk 40) (tk 63),eA (tk 67) (tk 65) (tk 48)]) ?_ ?_ (λal tk X hX=>by (refine cS trivial λL0 h0x=>?_;obtain ⟨h0,g0⟩:=h0x;refine cS trivial λL1 h1=>?_;refine cS trivial λL2 h2=>?_;have e0:=h0.get.1;have e1:=h1.get.1;have e2:=h2.get.1;refine cS (by simp at e2;omega) λL3 h3=>?_;obtain ⟨y3,h3⟩:=h3;subst y3;have l3:(refs (tk 38)).length<=20:=(by rw [h3];simp at e2;omega);refine cS (by simp at e0;omega) λL4 h4=>?_;obtain ⟨y4,h4⟩:=h4;subst y4;have l4:(refs (tk 40)).length<=40:=(by rw [h4,List.length_append];simp at e0 e2;omega);refine cS trivial λL5 h5x=>?_;obtain ⟨h5,g5⟩:=h5x;refine cS trivial λL6 h6=>?_;refine cS trivial λL7 h7=>?_;have e5:=h5.get.1;have e6:=h6.get.1;have e7:=h7.get.1;refine cS (by simp at e7;omega) λL8 h8=>?_;obtain ⟨y8,h8⟩:=h8;subst y8;have l8:(refs (tk 65)).length<=60:=(by rw [h8,List.length_append];simp at e7;omega);refine cS (by simp at e6;omega) λL9 h9=>?_;obtain ⟨y9,h9⟩:=h9;subst y9;have l9:(refs (tk 67)).length<=80:=(by rw [h9,List.length_append];simp at e6 e7;omega);refine cZ ?_;(repeat' (refine And.intro ?_ ?_))<;>first|exact datA|(show Ab _ (refs (tk 67)) _;rw [h9,h8,h4,h3];(repeat' refine Ab.app ?_ ?_)<;>exact datA)))<;>intros<;>kernel_rfl
theorem Ahy{x:Pen}{s:St}{t u:Tok}{n:Nat}(hx:x.Good)(hs:s.Inv n)(hn:n<=2 ^ 59)(h0:x.dig s 6=5)(h1:x.dig (x.nxt s 6) 2=1)(h2:x.dig (x.nxt (x.nxt s 6) 2) 2=0):OkF w b (cBds x s (x.nxt (x.nxt (x.nxt s 6) 2) 2) t u true true 7 7 (λnw tk=>exKR 4 5 4 nw tk)) tT (λnw tk L=>Ab L (refs (tk 2)) ([tokD (w2 "AFTER")]++[tokD (w2 "K"),tokD (w2 "OF"),tokD (w2 "R")]++[tokD (w2 "BEFORE"),tokD (w2 "INITIAL")]++[tokD (l2 ".")])/\DatV L (.ref (nw 3)) (Op.lit #[46]).dat):=by
 let lZ:List (Fm w b):=[pl (cDrw x s (x.nxt s 6) 6 5 t u) λc=>h0▸Ah hx hs (by omega) Cj c,⟨λA T c=>.plain (cDrw x (x.nxt s 6) (x.nxt (x.nxt s 6) 2) 2 1 (T 13) (T 14) c),λ_ _ c=>h1▸Ah hx (Am hx hs Cj) (by omega) Ck c⟩,xE 36 37,xA 38 39 21 22,⟨λA T c=>.plain (cDrw x (x.nxt (x.nxt s 6) 2) (x.nxt (x.nxt (x.nxt s 6) 2) 2) 2 0 (T 30) (T 31) c),λ_ _ c=>h2▸Ah hx (Am hx (Am hx hs Cj) Ck) (by omega) Ck c⟩,xA 40 41 63 64,xA 65 66 45 46,Ca,An,Da,Gr]
 refine oFX lZ (x.K s t u) 649 0x79f7700c0cf2c8006086486102102102fc0d00804e06f00e1cf04f280001001001041b40b29aaa02a02aaacb2bb0100128104004004004a0410010010012810400400410090092490800800820a9aa918008008008000100004004000100100100900030002001f81045445101101101f80c00504d05f01c11d05d2c000100100104174071969a01a01a69c71b7010011010400400400440410010010011010400400410030030c30800800820996990c008008008000100004004000100100100900030001000f4000440410010010010030030c20020020823d03c20020020020000400010010000400400401c0187187040042041001001001081040040040042041001001040040041040001001 [52,49,2,35,22,20,21] [57,58,67,68,23,24,25] (λal tk=>[eL (tk 18) [tokD (l2 ".")] (al (16+2)) #[46],eW (tk 21) [tokD (w2 "K"),tokD (w2 "OF"),tokD (w2 "R")],eW (tk 36) [tokD (w2 "AFTER")],(λ_=>(refs (tk 36)).length<=5000,λL=>L=[]/\refs (tk 38)=refs (tk 36)),eA (tk 40) (tk 38) (tk 21),eL (tk 45) [tokD (l2 ".")] (al (33+2)) #[46],eW (tk 48) [tokD (w2 "K"),tokD (w2 "OF"),tokD (w2 "R")],eW (tk 63) [tokD (w2 "BEFORE"),tokD (w2 "INITIAL")],eA (tk 65) (tk 40) (tk 63),eA (tk 67) (tk 65) (tk 45)]) ?_ ?_ (λal tk X hX=>by (refine cS trivial λL0 h0x=>?_;obtain ⟨h0,g0⟩:=h0x;refine cS trivial λL1 h1=>?_;refine cS trivial λL2 h2=>?_;have e0:=h0.get.1;have e1:=h1.get.1;have e2:=h2.get.1;refine cS (by simp at e2;omega) λL3 h3=>?_;obtain ⟨y3,h3⟩:=h3;subst y3;have l3:(refs (tk 38)).length<=20:=(by rw [h3];simp at e2;omega);refine cS (by simp at e1;omega) λL4 h4=>?_;obtain ⟨y4,h4⟩:=h4;subst y4;have l4:(refs (tk 40)).length<=40:=(by rw [h4,List.length_append];simp at e1 e2;omega);refine cS trivial λL5 h5x=>?_;obtain ⟨h5,g5⟩:=h5x;refine cS trivial λL6 h6=>?_;refine cS trivial λL7 h7=>?_;have e5:=h5.get.1;have e6:=h6.get.1;have e7:=h7.get.1;refine cS (by simp at e7;omega) λL8 h8=>?_;obtain ⟨y8,h8⟩:=h8;subst y8;have l8:(refs (tk 65)).length<=60:=(by rw [h8,List.length_append];simp at e7;omega);refine cS (by simp at e5;omega) λL9 h9=>?_;obtain ⟨y9,h9⟩:=h9;subst y9;have l9:(refs (tk 67)).length<=80:=(by rw [h9,List.length_append];simp at e5 e7;omega);refine cZ ?_;(repeat' (refine And.intro ?_ ?_))<;>first|exact datA|(show Ab _ (refs (tk 67)) _;rw [h9,h8,h4,h3];(repeat' refine Ab.app ?_ ?_)<;>exact datA)))<;>intros<;>kernel_rfl
theorem Ahx{x:Pen}{s:St}{t u:Tok}{n:Nat}(hx:x.Good)(hs:s.Inv n)(hn:n<=2 ^ 59)(h0:x.dig s 6=5)(h1:x.dig (x.nxt s 6) 2=1)(h2:x.dig (x.nxt (x.nxt s 6) 2) 2=1):OkF w b (cBds x s (x.nxt (x.nxt (x.nxt s 6) 2) 2) t u true true 9 10 (λnw tk=>exKR 3 5 4 nw tk++exKR 4 7 7 nw tk)) tT (λnw tk L=>Ab L (refs (tk 2)) ([tokD (w2 "AFTER")]++[tokD (w2 "K"),tokD (w2 "OF"),tokD (w2 "R")]++[tokD (w2 "BEFORE"),tokD (w2 "INITIAL")]++[tokD (w2 "K"),tokD (w2 "OF"),tokD (w2 "R")])):=by
 let lZ:List (Fm w b):=[pl (cDrw x s (x.nxt s 6) 6 5 t u) λc=>h0▸Ah hx hs (by omega) Cj c,⟨λA T c=>.plain (cDrw x (x.nxt s 6) (x.nxt (x.nxt s 6) 2) 2 1 (T 13) (T 14) c),λ_ _ c=>h1▸Ah hx (Am hx hs Cj) (by omega) Ck c⟩,xE 36 37,xA 38 39 21 22,⟨λA T c=>.plain (cDrw x (x.nxt (x.nxt s 6) 2) (x.nxt (x.nxt (x.nxt s 6) 2) 2) 2 1 (T 30) (T 31) c),λ_ _ c=>h2▸Ah hx (Am hx (Am hx hs Cj) Ck) (by omega) Ck c⟩,xA 40 41 63 64,xA 65 66 48 49,Ca,An,Da,Gr]
 refine oFX lZ (x.K s t u) 649 0x1e7dd38f3700c0cf2c8006086486102102102fc0c00804d06f00e1cf04f280001001001041b40b29aaa02a02aaacb2bb010011010400400400440410010010011010400400410030030c30800800820a9aa918008008008000100004004000100100100900030002001f81045445101101101f80c00504d05f01c11d05d2c000100100104174071969a01a01a69c71b7010011010400400400440410010010011010400400410030030c30800800820996990c008008008000100004004000100100100900030001000f4000440410010010010030030c20020020823d03c20020020020000400010010000400400401c0187187040042041001001001081040040040042041001001040040041040001001 [52,49,2,39,22,37,38,20,21] [57,58,67,68,50,51,52,23,24,25] (λal tk=>[eL (tk 18) [tokD (l2 ".")] (al (16+2)) #[46],eW (tk 21) [tokD (w2 "K"),tokD (w2 "OF"),tokD (w2 "R")],eW (tk 36) [tokD (w2 "AFTER")],(λ_=>(refs (tk 36)).length<=5000,λL=>L=[]/\refs (tk 38)=refs (tk 36)),eA (tk 40) (tk 38) (tk 21),eL (tk 45) [tokD (l2 ".")] (al (33+2)) #[46],eW (tk 48) [tokD (w2 "K"),tokD (w2 "OF"),tokD (w2 "R")],eW (tk 63) [tokD (w2 "BEFORE"),tokD (w2 "INITIAL")],eA (tk 65) (tk 40) (tk 63),eA (tk 67) (tk 65) (tk 48)]) ?_ ?_ (λal tk X hX=>by (refine cS trivial λL0 h0x=>?_;obtain ⟨h0,g0⟩:=h0x;refine cS trivial λL1 h1=>?_;refine cS trivial λL2 h2=>?_;have e0:=h0.get.1;have e1:=h1.get.1;have e2:=h2.get.1;refine cS (by simp at e2;omega) λL3 h3=>?_;obtain ⟨y3,h3⟩:=h3;subst y3;have l3:(refs (tk 38)).length<=20:=(by rw [h3];simp at e2;omega);refine cS (by simp at e1;omega) λL4 h4=>?_;obtain ⟨y4,h4⟩:=h4;subst y4;have l4:(refs (tk 40)).length<=40:=(by rw [h4,List.length_append];simp at e1 e2;omega);refine cS trivial λL5 h5x=>?_;obtain ⟨h5,g5⟩:=h5x;refine cS trivial λL6 h6=>?_;refine cS trivial λL7 h7=>?_;have e5:=h5.get.1;have e6:=h6.get.1;have e7:=h7.get.1;refine cS (by simp at e7;omega) λL8 h8=>?_;obtain ⟨y8,h8⟩:=h8;subst y8;have l8:(refs (tk 65)).length<=60:=(by rw [h8,List.length_append];simp at e7;omega);refine cS (by simp at e6;omega) λL9 h9=>?_;obtain ⟨y9,h9⟩:=h9;subst y9;have l9:(refs (tk 67)).length<=80:=(by rw [h9,List.length_append];simp at e6 e7;omega);refine cZ ?_;(repeat' (refine And.intro ?_ ?_))<;>first|exact datA|(show Ab _ (refs (tk 67)) _;rw [h9,h8,h4,h3];(repeat' refine Ab.app ?_ ?_)<;>exact datA)))<;>intros<;>kernel_rfl
noncomputable def coExg(x:Pen):Code:=.call (.ref 570) ⟨[.ref x.pl],[]⟩
noncomputable def cExg(x:Pen)(s s':St)(t u:Tok)(n nt:Nat)(ex:(Nat->Addr)->(Nat->Tok)->List AO):Con:=
 ⟨coExg x,x.pre s t u,[(x.pl,λtk=>x.o s' (tk 0) (tk 1))],n,λnw tk=>[(nw 0,tupO [.ref (nw 1),.ref (nw 4)]),(nw 1,tupO [.ref (nw 2),.ref (nw 3)]),(nw 2,Ac (refs (tk 2)) (tk 3)),(nw 4,tupO [.ref (nw 5),.ref (nw 6)]),(nw 5,Ac (refs (tk 4)) (tk 5))]++ex nw tk,nt,λnw _=>.ok (.ret (.ref (nw 0))),45⟩
noncomputable def On(x:Pen)(s s':St)(t u:Tok)(n nt:Nat)(ex:(Nat->Addr)->(Nat->Tok)->List AO):Con:=
 ⟨coExg x,x.pre s t u,[(x.pl,λtk=>x.o s' (tk 0) (tk 1))],n,λnw tk=>[(nw 0,tupO [.ref (nw 1),.ref (nw 1)]),(nw 1,tupO [.ref (nw 2),.ref (nw 3)]),(nw 2,Ac (refs (tk 2)) (tk 3))]++ex nw tk,nt,λnw _=>.ok (.ret (.ref (nw 0))),45⟩
noncomputable def Ae0(a j i:Nat)(nw:Nat->Addr)(tk:Nat->Tok):List AO:=[(nw a,tupO [.str "ref" (tk i),.str "K" (tk (i+1)),.ref (nw j),.ref (nw (j+1)),.none]),(nw j,tupO []),(nw (j+1),tupO [])]
noncomputable def Aha(a i:Nat)(nw:Nat->Addr)(tk:Nat->Tok):List AO:=[(nw a,tupO [.str "figure" (tk i),.str "SPACE" (tk (i+1))])]
noncomputable def exNo(_:Nat->Addr)(_:Nat->Tok):List AO:=[]

theorem exg_0{x:Pen}{s:St}{t u:Tok}{n:Nat}(hx:x.Good)(hs:s.Inv n)(hn:n<=2 ^ 59)(hd:x.dig s 7=0):OkF w b (cExg x s (x.nxt s 7) t u 7 6 (exNo)) tT (λnw tk L=>Ab L (refs (tk 2)) [tokD (l2 "a")]/\Ab L (refs (tk 4)) [tokD (l2 "b")]/\DatV L (.ref (nw 3)) (Op.lit #[97]).dat/\DatV L (.ref (nw 6)) (Op.lit #[98]).dat):=by
 let lZ:List (Fm w b):=[pl (cDrw x s (x.nxt s 7) 7 0 t u) λc=>hd▸Ah hx hs (by omega) Qt c,xW_K,Ex,xL_a,xL_b,Tp,Tq,Mn,xL_0,xL_q]
 refine oFX lZ (x.K s t u) 291 0x5d865a5a80800800820a8a680800800800800010000400400010010010279c09a704c0403003013249232c000a0007890006db69b64700020000700018000500030d30d0400420410010010010810400400400420410010010400400410440000c0000001001 [19,13,14,15,16,17,18] [43,44,14,15,17,18] (λal tk=>[eW (tk 2) [tokD (w2 "K")],eW (tk 7) [tokD (w2 "SPACES")],eL (tk 14) [tokD (l2 "a")] (al (13+2)) #[97],eL (tk 17) [tokD (l2 "b")] (al (16+2)) #[98],eL (tk 20) [tokD (l2 "ab")] (al (20+2)) #[97,98],eL (tk 23) [tokD (l2 "BY")] (al (23+2)) #[66,89],eL (tk 26) [tokD (l2 "ab")] (al (27+2)) #[97,98],eL (tk 30) [tokD (l2 "xyz")] (al (32+2)) #[120,121,122],eL (tk 33) [tokD (l2 "0")] (al (36+2)) #[48],eL (tk 36) [tokD (l2 "q")] (al (40+2)) #[113]]) ?_ ?_ (λal tk X hX=>by refine cS trivial λL0 h0=>?_;refine cS trivial λL1 h1=>?_;refine cS trivial λL2 h2=>?_;obtain ⟨h2,g2⟩:=h2;refine cS trivial λL3 h3=>?_;obtain ⟨h3,g3⟩:=h3;refine cS trivial λL4 h4=>?_;obtain ⟨h4,g4⟩:=h4;refine cS trivial λL5 h5=>?_;obtain ⟨h5,g5⟩:=h5;refine cS trivial λL6 h6=>?_;obtain ⟨h6,g6⟩:=h6;refine cS trivial λL7 h7=>?_;obtain ⟨h7,g7⟩:=h7;refine cS trivial λL8 h8=>?_;obtain ⟨h8,g8⟩:=h8;refine cS trivial λL9 h9=>?_;obtain ⟨h9,g9⟩:=h9;refine cZ ?_;(repeat' apply And.intro)<;>exact datA)<;>intros<;>kernel_rfl
theorem exg_1{x:Pen}{s:St}{t u:Tok}{n:Nat}(hx:x.Good)(hs:s.Inv n)(hn:n<=2 ^ 59)(hd:x.dig s 7=1):OkF w b (cExg x s (x.nxt s 7) t u 7 6 (exNo)) tT (λnw tk L=>Ab L (refs (tk 2)) [tokD (l2 "ab")]/\Ab L (refs (tk 4)) [tokD (l2 "BY")]/\DatV L (.ref (nw 3)) (Op.lit #[97,98]).dat/\DatV L (.ref (nw 6)) (Op.lit #[66,89]).dat):=by
 let lZ:List (Fm w b):=[pl (cDrw x s (x.nxt s 7) 7 1 t u) λc=>hd▸Ah hx hs (by omega) Qt c,xW_K,Ex,xL_a,xL_b,Tp,Tq,Mn,xL_0,xL_q]
 refine oFX lZ (x.K s t u) 291 0x4935154680800800820a8a680800800800800010000400400010010010279c09a704c0403003013249232c000a0007890006db69b64700020000700018000500030d30d0400420410010010010810400400400420410010010400400410440000c0000001001 [26,20,21,22,23,24,25] [43,44,20,21,23,24] (λal tk=>[eW (tk 2) [tokD (w2 "K")],eW (tk 7) [tokD (w2 "SPACES")],eL (tk 14) [tokD (l2 "a")] (al (13+2)) #[97],eL (tk 17) [tokD (l2 "b")] (al (16+2)) #[98],eL (tk 20) [tokD (l2 "ab")] (al (20+2)) #[97,98],eL (tk 23) [tokD (l2 "BY")] (al (23+2)) #[66,89],eL (tk 26) [tokD (l2 "ab")] (al (27+2)) #[97,98],eL (tk 30) [tokD (l2 "xyz")] (al (32+2)) #[120,121,122],eL (tk 33) [tokD (l2 "0")] (al (36+2)) #[48],eL (tk 36) [tokD (l2 "q")] (al (40+2)) #[113]]) ?_ ?_ (λal tk X hX=>by refine cS trivial λL0 h0=>?_;refine cS trivial λL1 h1=>?_;refine cS trivial λL2 h2=>?_;obtain ⟨h2,g2⟩:=h2;refine cS trivial λL3 h3=>?_;obtain ⟨h3,g3⟩:=h3;refine cS trivial λL4 h4=>?_;obtain ⟨h4,g4⟩:=h4;refine cS trivial λL5 h5=>?_;obtain ⟨h5,g5⟩:=h5;refine cS trivial λL6 h6=>?_;obtain ⟨h6,g6⟩:=h6;refine cS trivial λL7 h7=>?_;obtain ⟨h7,g7⟩:=h7;refine cS trivial λL8 h8=>?_;obtain ⟨h8,g8⟩:=h8;refine cS trivial λL9 h9=>?_;obtain ⟨h9,g9⟩:=h9;refine cZ ?_;(repeat' apply And.intro)<;>exact datA)<;>intros<;>kernel_rfl
theorem exg_2{x:Pen}{s:St}{t u:Tok}{n:Nat}(hx:x.Good)(hs:s.Inv n)(hn:n<=2 ^ 59)(hd:x.dig s 7=2):OkF w b (cExg x s (x.nxt s 7) t u 7 8 (Aha 6 6)) tT (λnw tk L=>Ab L (refs (tk 2)) [tokD (l2 "ab")]/\Ab L (refs (tk 4)) [tokD (w2 "SPACES")]/\DatV L (.ref (nw 3)) (Op.lit #[97,98]).dat):=by
 let lZ:List (Fm w b):=[pl (cDrw x s (x.nxt s 7) 7 2 t u) λc=>hd▸Ah hx hs (by omega) Qt c,xW_K,Ex,xL_a,xL_b,Tp,Tq,Mn,xL_0,xL_q]
 refine oFX lZ (x.K s t u) 291 0x2085f3d03a80800800820a8a680800800800800010000400400010010010279c09a704c0403003013249232c000a0007890006db69b64700020000700018000500030d30d0400420410010010010810400400400420410010010400400410440000c0000001001 [30,27,28,29,8,6,7] [43,44,26,27,7,8,9,10] (λal tk=>[eW (tk 2) [tokD (w2 "K")],eW (tk 7) [tokD (w2 "SPACES")],eL (tk 14) [tokD (l2 "a")] (al (13+2)) #[97],eL (tk 17) [tokD (l2 "b")] (al (16+2)) #[98],eL (tk 20) [tokD (l2 "ab")] (al (20+2)) #[97,98],eL (tk 23) [tokD (l2 "BY")] (al (23+2)) #[66,89],eL (tk 26) [tokD (l2 "ab")] (al (27+2)) #[97,98],eL (tk 30) [tokD (l2 "xyz")] (al (32+2)) #[120,121,122],eL (tk 33) [tokD (l2 "0")] (al (36+2)) #[48],eL (tk 36) [tokD (l2 "q")] (al (40+2)) #[113]]) ?_ ?_ (λal tk X hX=>by refine cS trivial λL0 h0=>?_;refine cS trivial λL1 h1=>?_;refine cS trivial λL2 h2=>?_;obtain ⟨h2,g2⟩:=h2;refine cS trivial λL3 h3=>?_;obtain ⟨h3,g3⟩:=h3;refine cS trivial λL4 h4=>?_;obtain ⟨h4,g4⟩:=h4;refine cS trivial λL5 h5=>?_;obtain ⟨h5,g5⟩:=h5;refine cS trivial λL6 h6=>?_;obtain ⟨h6,g6⟩:=h6;refine cS trivial λL7 h7=>?_;obtain ⟨h7,g7⟩:=h7;refine cS trivial λL8 h8=>?_;obtain ⟨h8,g8⟩:=h8;refine cS trivial λL9 h9=>?_;obtain ⟨h9,g9⟩:=h9;refine cZ ?_;(repeat' apply And.intro)<;>exact datA)<;>intros<;>kernel_rfl
theorem exg_3{x:Pen}{s:St}{t u:Tok}{n:Nat}(hx:x.Good)(hs:s.Inv n)(hn:n<=2 ^ 59)(hd:x.dig s 7=3):OkF w b (cExg x s (x.nxt s 7) t u 9 8 (Ae0 3 7 6)) tT (λnw tk L=>Ab L (refs (tk 2)) [tokD (w2 "K")]/\Ab L (refs (tk 4)) [tokD (l2 "xyz")]/\DatV L (.ref (nw 6)) (Op.lit #[120,121,122]).dat):=by
 let lZ:List (Fm w b):=[pl (cDrw x s (x.nxt s 7) 7 3 t u) λc=>hd▸Ah hx hs (by omega) Qt c,xW_K,Ex,xL_a,xL_b,Tp,Tq,Mn,xL_0,xL_q]
 refine oFX lZ (x.K s t u) 291 0x249632cc9a22a80800800820a8a680800800800800010000400400010010010279c09a704c0403003013249232c000a0007890006db69b64700020000700018000500030d30d0400420410010010010810400400400420410010010400400410440000c0000001001 [35,5,1,4,32,33,34,2,3] [43,44,2,3,30,31,4,5] (λal tk=>[eW (tk 2) [tokD (w2 "K")],eW (tk 7) [tokD (w2 "SPACES")],eL (tk 14) [tokD (l2 "a")] (al (13+2)) #[97],eL (tk 17) [tokD (l2 "b")] (al (16+2)) #[98],eL (tk 20) [tokD (l2 "ab")] (al (20+2)) #[97,98],eL (tk 23) [tokD (l2 "BY")] (al (23+2)) #[66,89],eL (tk 26) [tokD (l2 "ab")] (al (27+2)) #[97,98],eL (tk 30) [tokD (l2 "xyz")] (al (32+2)) #[120,121,122],eL (tk 33) [tokD (l2 "0")] (al (36+2)) #[48],eL (tk 36) [tokD (l2 "q")] (al (40+2)) #[113]]) ?_ ?_ (λal tk X hX=>by refine cS trivial λL0 h0=>?_;refine cS trivial λL1 h1=>?_;refine cS trivial λL2 h2=>?_;obtain ⟨h2,g2⟩:=h2;refine cS trivial λL3 h3=>?_;obtain ⟨h3,g3⟩:=h3;refine cS trivial λL4 h4=>?_;obtain ⟨h4,g4⟩:=h4;refine cS trivial λL5 h5=>?_;obtain ⟨h5,g5⟩:=h5;refine cS trivial λL6 h6=>?_;obtain ⟨h6,g6⟩:=h6;refine cS trivial λL7 h7=>?_;obtain ⟨h7,g7⟩:=h7;refine cS trivial λL8 h8=>?_;obtain ⟨h8,g8⟩:=h8;refine cS trivial λL9 h9=>?_;obtain ⟨h9,g9⟩:=h9;refine cZ ?_;(repeat' apply And.intro)<;>exact datA)<;>intros<;>kernel_rfl
theorem exg_4{x:Pen}{s:St}{t u:Tok}{n:Nat}(hx:x.Good)(hs:s.Inv n)(hn:n<=2 ^ 59)(hd:x.dig s 7=4):OkF w b (cExg x s (x.nxt s 7) t u 7 8 (Aha 3 6)) tT (λnw tk L=>Ab L (refs (tk 2)) [tokD (w2 "SPACES")]/\Ab L (refs (tk 4)) [tokD (l2 "0")]/\DatV L (.ref (nw 6)) (Op.lit #[48]).dat):=by
 let lZ:List (Fm w b):=[pl (cDrw x s (x.nxt s 7) 7 4 t u) λc=>hd▸Ah hx hs (by omega) Qt c,xW_K,Ex,xL_a,xL_b,Tp,Tq,Mn,xL_0,xL_q]
 refine oFX lZ (x.K s t u) 291 0x2020985f1e80800800820a8a680800800800800010000400400010010010279c09a704c0403003013249232c000a0007890006db69b64700020000700018000500030d30d0400420410010010010810400400400420410010010400400410440000c0000001001 [39,8,6,7,36,37,38] [43,44,7,8,33,34,9,10] (λal tk=>[eW (tk 2) [tokD (w2 "K")],eW (tk 7) [tokD (w2 "SPACES")],eL (tk 14) [tokD (l2 "a")] (al (13+2)) #[97],eL (tk 17) [tokD (l2 "b")] (al (16+2)) #[98],eL (tk 20) [tokD (l2 "ab")] (al (20+2)) #[97,98],eL (tk 23) [tokD (l2 "BY")] (al (23+2)) #[66,89],eL (tk 26) [tokD (l2 "ab")] (al (27+2)) #[97,98],eL (tk 30) [tokD (l2 "xyz")] (al (32+2)) #[120,121,122],eL (tk 33) [tokD (l2 "0")] (al (36+2)) #[48],eL (tk 36) [tokD (l2 "q")] (al (40+2)) #[113]]) ?_ ?_ (λal tk X hX=>by refine cS trivial λL0 h0=>?_;refine cS trivial λL1 h1=>?_;refine cS trivial λL2 h2=>?_;obtain ⟨h2,g2⟩:=h2;refine cS trivial λL3 h3=>?_;obtain ⟨h3,g3⟩:=h3;refine cS trivial λL4 h4=>?_;obtain ⟨h4,g4⟩:=h4;refine cS trivial λL5 h5=>?_;obtain ⟨h5,g5⟩:=h5;refine cS trivial λL6 h6=>?_;obtain ⟨h6,g6⟩:=h6;refine cS trivial λL7 h7=>?_;obtain ⟨h7,g7⟩:=h7;refine cS trivial λL8 h8=>?_;obtain ⟨h8,g8⟩:=h8;refine cS trivial λL9 h9=>?_;obtain ⟨h9,g9⟩:=h9;refine cZ ?_;(repeat' apply And.intro)<;>exact datA)<;>intros<;>kernel_rfl
theorem exg_5{x:Pen}{s:St}{t u:Tok}{n:Nat}(hx:x.Good)(hs:s.Inv n)(hn:n<=2 ^ 59)(hd:x.dig s 7=5):OkF w b (cExg x s (x.nxt s 7) t u 9 8 (Ae0 6 7 6)) tT (λnw tk L=>Ab L (refs (tk 2)) [tokD (l2 "q")]/\Ab L (refs (tk 4)) [tokD (w2 "K")]/\DatV L (.ref (nw 3)) (Op.lit #[113]).dat):=by
 let lZ:List (Fm w b):=[pl (cDrw x s (x.nxt s 7) 7 5 t u) λc=>hd▸Ah hx hs (by omega) Qt c,xW_K,Ex,xL_a,xL_b,Tp,Tq,Mn,xL_0,xL_q]
 refine oFX lZ (x.K s t u) 291 0x249639a21461280800800820a8a680800800800800010000400400010010010279c09a704c0403003013249232c000a0007890006db69b64700020000700018000500030d30d0400420410010010010810400400400420410010010400400410440000c0000001001 [43,40,41,42,5,1,4,2,3] [43,44,36,37,2,3,4,5] (λal tk=>[eW (tk 2) [tokD (w2 "K")],eW (tk 7) [tokD (w2 "SPACES")],eL (tk 14) [tokD (l2 "a")] (al (13+2)) #[97],eL (tk 17) [tokD (l2 "b")] (al (16+2)) #[98],eL (tk 20) [tokD (l2 "ab")] (al (20+2)) #[97,98],eL (tk 23) [tokD (l2 "BY")] (al (23+2)) #[66,89],eL (tk 26) [tokD (l2 "ab")] (al (27+2)) #[97,98],eL (tk 30) [tokD (l2 "xyz")] (al (32+2)) #[120,121,122],eL (tk 33) [tokD (l2 "0")] (al (36+2)) #[48],eL (tk 36) [tokD (l2 "q")] (al (40+2)) #[113]]) ?_ ?_ (λal tk X hX=>by refine cS trivial λL0 h0=>?_;refine cS trivial λL1 h1=>?_;refine cS trivial λL2 h2=>?_;obtain ⟨h2,g2⟩:=h2;refine cS trivial λL3 h3=>?_;obtain ⟨h3,g3⟩:=h3;refine cS trivial λL4 h4=>?_;obtain ⟨h4,g4⟩:=h4;refine cS trivial λL5 h5=>?_;obtain ⟨h5,g5⟩:=h5;refine cS trivial λL6 h6=>?_;obtain ⟨h6,g6⟩:=h6;refine cS trivial λL7 h7=>?_;obtain ⟨h7,g7⟩:=h7;refine cS trivial λL8 h8=>?_;obtain ⟨h8,g8⟩:=h8;refine cS trivial λL9 h9=>?_;obtain ⟨h9,g9⟩:=h9;refine cZ ?_;(repeat' apply And.intro)<;>exact datA)<;>intros<;>kernel_rfl
theorem exg_6{x:Pen}{s:St}{t u:Tok}{n:Nat}(hx:x.Good)(hs:s.Inv n)(hn:n<=2 ^ 59)(hd:x.dig s 7=6):OkF w b (On x s (x.nxt s 7) t u 6 6 (Ae0 3 4 4)) tT (λnw tk L=>Ab L (refs (tk 2)) [tokD (w2 "K")]):=by
 let lZ:List (Fm w b):=[pl (cDrw x s (x.nxt s 7) 7 6 t u) λc=>hd▸Ah hx hs (by omega) Qt c,xW_K,Ex,xL_a,xL_b,Tp,Tq,Mn,xL_0,xL_q]
 refine oFX lZ (x.K s t u) 291 0x249639a20e80800800820a8a680800800800800010000400400010010010279c09a704c0403003013249232c000a0007890006db69b64700020000700018000500030d30d0400420410010010010810400400400420410010010400400410440000c0000001001 [44,5,1,4,2,3] [43,44,2,3,4,5] (λal tk=>[eW (tk 2) [tokD (w2 "K")],eW (tk 7) [tokD (w2 "SPACES")],eL (tk 14) [tokD (l2 "a")] (al (13+2)) #[97],eL (tk 17) [tokD (l2 "b")] (al (16+2)) #[98],eL (tk 20) [tokD (l2 "ab")] (al (20+2)) #[97,98],eL (tk 23) [tokD (l2 "BY")] (al (23+2)) #[66,89],eL (tk 26) [tokD (l2 "ab")] (al (27+2)) #[97,98],eL (tk 30) [tokD (l2 "xyz")] (al (32+2)) #[120,121,122],eL (tk 33) [tokD (l2 "0")] (al (36+2)) #[48],eL (tk 36) [tokD (l2 "q")] (al (40+2)) #[113]]) ?_ ?_ (λal tk X hX=>by refine cS trivial λL0 h0=>?_;refine cS trivial λL1 h1=>?_;refine cS trivial λL2 h2=>?_;obtain ⟨h2,g2⟩:=h2;refine cS trivial λL3 h3=>?_;obtain ⟨h3,g3⟩:=h3;refine cS trivial λL4 h4=>?_;obtain ⟨h4,g4⟩:=h4;refine cS trivial λL5 h5=>?_;obtain ⟨h5,g5⟩:=h5;refine cS trivial λL6 h6=>?_;obtain ⟨h6,g6⟩:=h6;refine cS trivial λL7 h7=>?_;obtain ⟨h7,g7⟩:=h7;refine cS trivial λL8 h8=>?_;obtain ⟨h8,g8⟩:=h8;refine cS trivial λL9 h9=>?_;obtain ⟨h9,g9⟩:=h9;refine cZ ?_;(repeat' apply And.intro)<;>exact datA)<;>intros<;>kernel_rfl
noncomputable def Agi(a b c d e f:Nat):Nat->Nat
 | 0=>a
 | 1=>b
 | 2=>c
 | 3=>d
 | 4=>e
 | _=>f
noncomputable def Gp(x:Pen)(s s':St)(t u:Tok)(g1 g2:Bool):Con:=
 ⟨Ahi x,x.pre s t u,[(x.pl,λtk=>x.o s' (tk 0) (tk 1))],3,λnw tk=>[(nw 0,tupO [.ref (nw 1),.ref (nw 2)]),(nw 1,Ac (refs (tk 2)) (tk 3)),(nw 2,Ac [vB g1 (tk 4),vB g2 (tk 5)] 0)],6,λnw _=>.ok (.ret (.ref (nw 0))),50⟩
noncomputable abbrev BdG(g1 g2:Bool)(toks:List T2)(o1 o2:Option Op):AL:=λ_ tk L=>Ab L (refs (tk 2)) (toks.map tokD)/\DatV L (vB g1 (tk 4)) (optD o1)/\DatV L (vB g2 (tk 5)) (optD o2)
noncomputable abbrev BdF(toks:List T2)(o1 o2:Option Op):AL:=BdG o1.isSome o2.isSome toks o1 o2
noncomputable abbrev ExF(t1:List T2)(o1:Op)(t2:List T2)(o2:Op):AL:=λnw tk L=>Ab L (refs (tk 2)) (t1.map tokD)/\DatV L (.ref (nw 3)) o1.dat/\Ab L (refs (tk 4)) (t2.map tokD)/\DatV L (.ref (nw 6)) o2.dat
noncomputable abbrev ExS(t1:List T2)(o1:Op):AL:=λnw tk L=>Ab L (refs (tk 2)) (t1.map tokD)/\DatV L (.ref (nw 3)) o1.dat
theorem upd1{a:Addr}{f g:(Nat->Tok)->Obj}{tk tk':Nat->Tok}(h:f tk=g tk'):∀ p∈Ce [(a,f)] tk,p∈Ce [(a,g)] tk':=λp hp=>by
 rcases mcm hp with rfl|hp
 ·show (a,f tk)∈_;rw [h];exact .head _
 ·cases hp
section
variable {w:World}{b:B3}{x:Pen}{s s':St}{t u:Tok}{n:Nat}
theorem Db{m nt:Nat}{ex:(Nat->Addr)->(Nat->Tok)->List AO}{also0:AL}{toks:List T2}{o1 o2:Option Op}(h:OkF w b (cBds x s s' t u o1.isSome o2.isSome m nt ex) tT also0)
  (ha:∀ nw tk L,also0 nw tk L->Ab (ex nw tk++L) (refs (tk 2)) (toks.map tokD)/\DatV (ex nw tk++L) (vB o1.isSome (nw 3)) (optD o1)/\DatV (ex nw tk++L) (vB o2.isSome (nw 4)) (optD o2)):OkF w b (Gp x s s' t u o1.isSome o2.isSome) tT (BdF toks o1 o2):=by
 refine Ap h _ _ _ (λnw _=>nw) (λnw tk=>Agi (tk 0) (tk 1) (tk 2) (tk 3) (nw 3) (nw 4)) ex rfl rfl (Nat.le_refl _) (λnw tk=>rfl) (λp hp=>?_) (λnw tk p hp=>.inl (upd1 rfl p hp)) (λ_ _=>rfl) (λ_ h=>h) λnw tk L hL=>ha nw tk L hL
 rcases mcm hp with rfl|hp<;>first|exact .head _|cases hp
theorem Tm(h:Ok w b (Ahq x s s' t u)):OkF w b (Gp x s s' t u false false) tT (BdF [] none none):=by
 obtain ⟨c,hc⟩:=Vu
 refine Ap (Er h) _ _ _ (λnw _=>nw) (λnw tk=>Agi (tk 0) (tk 1) c 0 0 0) (λ_ _=>[]) rfl rfl (Nat.le_refl _) (λnw tk=>?_) (λp hp=>?_) (λnw tk p hp=>.inl (upd1 rfl p hp)) (λ_ _=>rfl) (λ_ h=>h) λnw tk L hL=>?_
 ·show [_,(nw 1,Ac (refs c) 0),(nw 2,Ac [.none,.none] 0)]++[]=_
  rw [hc]
  rfl
 ·rcases mcm hp with rfl|hp<;>first|exact .head _|cases hp
 ·show Ab _ (refs c) _/\DatV _ .none _/\DatV _ .none _
  rw [hc]
  exact ⟨.nil,.none,.none⟩
theorem Ip{a j i:Nat}{nw:Nat->Addr}{tk:Nat->Tok}{L:List AO}(h:∀ p∈exKR a j i nw tk,p∈L):DatV L (.ref (nw a)) (Op.refOf "K" "R").dat:=
 .tup (h _ (.head _)) (.cons .str (.cons .str (.cons (.tup (h _ (.tail _ (.head _))) (.cons .str .nil)) (.cons (.tup (h _ (.tail _ (.tail _ (.head _)))) .nil) (.cons .none .nil)))))
theorem Agv{a j i:Nat}{nw:Nat->Addr}{tk:Nat->Tok}{L:List AO}(h:∀ p∈Ae0 a j i nw tk,p∈L):DatV L (.ref (nw a)) (Op.ref "K").dat:=
 .tup (h _ (.head _)) (.cons .str (.cons .str (.cons (.tup (h _ (.tail _ (.head _))) .nil) (.cons (.tup (h _ (.tail _ (.tail _ (.head _)))) .nil) (.cons .none .nil)))))
theorem Aeq{a i:Nat}{nw:Nat->Addr}{tk:Nat->Tok}{L:List AO}(h:∀ p∈Aha a i nw tk,p∈L):DatV L (.ref (nw a)) (Op.fig "SPACE").dat:=
 .tup (h _ (.head _)) (.cons .str (.cons .str .nil))
theorem St.Inv.le{n m:Nat}(h:s.Inv n)(hm:n<=m):s.Inv m:=⟨h.t0,by have:=h.t1;omega,h.v0⟩
noncomputable def BdsOut(x:Pen)(s:St)(n:Nat):Prop:=∃ (s':St)(toks:List T2)(o1 o2:Option Op),s'.Inv (n+3)/\BdOk toks o1 o2/\toks.length<=20/\∀ {w:World}{b:B3} t u,OkF w b (Gp x s s' t u o1.isSome o2.isSome) tT (BdF toks o1 o2)
noncomputable def ExgOut(x:Pen)(s:St)(n:Nat):Prop:=∃ (s':St)(t1:List T2)(o1:Op)(t2:List T2)(o2:Op),s'.Inv (n+1)/\OpOk t1 o1/\OpOk t2 o2/\WOk (some o1) o2/\t1.length<=3/\t2.length<=3/\
 ((∀ {w:World}{b:B3} t u,OkF w b (cExg x s s' t u 7 6 exNo) tT (ExF t1 o1 t2 o2))\/(t2=t1/\o2=o1/\∀ {w:World}{b:B3} t u,OkF w b (On x s s' t u 4 4 exNo) tT (ExS t1 o1)))
theorem memL{α:Type}{l l':List α}:∀ p∈l,p∈l++l':=λ_ h=>mai (h)
theorem memLL{α:Type}{l l' l'':List α}:∀ p∈l,p∈(l++l')++l'':=λ_ h=>mai ((mai (h)))
theorem memRL{α:Type}{l l' l'':List α}:∀ p∈l,p∈(l'++l)++l'':=λ_ h=>mai ((maj (h)))
theorem Ac4(hx:x.Good)(hs:s.Inv n)(hn:n<=2 ^ 59):BdsOut x s n:=by
 have hb0:=Ct (x:=x) (s:=s) Cj
 have i1:=Am hx hs Cj
 have i2:=Am hx i1 Ck
 have i3:=Am hx i2 Ck
 have hb1:=Ct (x:=x) (s:=x.nxt s 6) Ck
 have hb2:=Ct (x:=x) (s:=x.nxt (x.nxt s 6) 2) Ck
 have c0:x.dig s 6=0\/x.dig s 6=1\/x.dig s 6=2\/x.dig s 6=3\/x.dig s 6=4\/x.dig s 6=5:=by omega
 have c1:x.dig (x.nxt s 6) 2=0\/x.dig (x.nxt s 6) 2=1:=by omega
 have c2:x.dig (x.nxt (x.nxt s 6) 2) 2=0\/x.dig (x.nxt (x.nxt s 6) 2) 2=1:=by omega
 rcases c0 with h0|h0|h0|h0|h0|h0
 ·exact ⟨(x.nxt s 6),[],none,none,i1.le (by omega),Yv,by decide,λt u=>Tm (Ef (bds_0 hx hs hn h0))⟩
 ·exact ⟨(x.nxt s 6),[],none,none,i1.le (by omega),Yv,by decide,λt u=>Tm (Ef (bds_1 hx hs hn h0))⟩
 ·rcases c1 with h1|h1
  ·refine ⟨(x.nxt (x.nxt s 6) 2),[w2 "BEFORE",w2 "INITIAL",l2 "."],(some (.lit #[46])),none,i2.le (by omega),bd_B (Br Fk),by decide,λt u=>Db (bds_20 hx hs hn h0 h1) λnw tk L hL=>?_⟩
   obtain ⟨h,g0⟩:=hL
   exact ⟨Ab.right h,g0.right,.none⟩
  ·refine ⟨(x.nxt (x.nxt s 6) 2),[w2 "BEFORE",w2 "INITIAL",w2 "K",w2 "OF",w2 "R"],(some (.refOf "K" "R")),none,i2.le (by omega),bd_B Oh,by decide,λt u=>Db (bds_21 hx hs hn h0 h1) λnw tk L hL=>?_⟩
   have h:=hL
   exact ⟨Ab.right h,Ip memL,.none⟩
 ·rcases c1 with h1|h1
  ·refine ⟨(x.nxt (x.nxt s 6) 2),[w2 "AFTER",l2 "."],none,(some (.lit #[46])),i2.le (by omega),bd_A (Br Fk),by decide,λt u=>Db (bds_30 hx hs hn h0 h1) λnw tk L hL=>?_⟩
   obtain ⟨h,g1⟩:=hL
   exact ⟨Ab.right h,.none,g1.right⟩
  ·refine ⟨(x.nxt (x.nxt s 6) 2),[w2 "AFTER",w2 "K",w2 "OF",w2 "R"],none,(some (.refOf "K" "R")),i2.le (by omega),bd_A Oh,by decide,λt u=>Db (bds_31 hx hs hn h0 h1) λnw tk L hL=>?_⟩
   have h:=hL
   exact ⟨Ab.right h,.none,Ip memL⟩
 ·rcases c1 with h1|h1
  ·rcases c2 with h2|h2
   ·refine ⟨(x.nxt (x.nxt (x.nxt s 6) 2) 2),[w2 "BEFORE",w2 "INITIAL",l2 ".",w2 "AFTER",l2 "."],(some (.lit #[46])),(some (.lit #[46])),i3.le (by omega),Aeg (Br Fk) (Br Fk),by decide,λt u=>Db (Ai4 hx hs hn h0 h1 h2) λnw tk L hL=>?_⟩
    obtain ⟨h,g0,g1⟩:=hL
    exact ⟨Ab.right h,g0.right,g1.right⟩
   ·refine ⟨(x.nxt (x.nxt (x.nxt s 6) 2) 2),[w2 "BEFORE",w2 "INITIAL",l2 ".",w2 "AFTER",w2 "K",w2 "OF",w2 "R"],(some (.lit #[46])),(some (.refOf "K" "R")),i3.le (by omega),Aeg (Br Fk) Oh,by decide,λt u=>Db (Ai3 hx hs hn h0 h1 h2) λnw tk L hL=>?_⟩
    obtain ⟨h,g0⟩:=hL
    exact ⟨Ab.right h,g0.right,Ip memL⟩
  ·rcases c2 with h2|h2
   ·refine ⟨(x.nxt (x.nxt (x.nxt s 6) 2) 2),[w2 "BEFORE",w2 "INITIAL",w2 "K",w2 "OF",w2 "R",w2 "AFTER",l2 "."],(some (.refOf "K" "R")),(some (.lit #[46])),i3.le (by omega),Aeg Oh (Br Fk),by decide,λt u=>Db (Ai2 hx hs hn h0 h1 h2) λnw tk L hL=>?_⟩
    obtain ⟨h,g1⟩:=hL
    exact ⟨Ab.right h,Ip memL,g1.right⟩
   ·refine ⟨(x.nxt (x.nxt (x.nxt s 6) 2) 2),[w2 "BEFORE",w2 "INITIAL",w2 "K",w2 "OF",w2 "R",w2 "AFTER",w2 "K",w2 "OF",w2 "R"],(some (.refOf "K" "R")),(some (.refOf "K" "R")),i3.le (by omega),Aeg Oh Oh,by decide,λt u=>Db (Ai1 hx hs hn h0 h1 h2) λnw tk L hL=>?_⟩
    have h:=hL
    exact ⟨Ab.right h,Ip memLL,Ip memRL⟩
 ·rcases c1 with h1|h1
  ·rcases c2 with h2|h2
   ·refine ⟨(x.nxt (x.nxt (x.nxt s 6) 2) 2),[w2 "AFTER",l2 ".",w2 "BEFORE",w2 "INITIAL",l2 "."],(some (.lit #[46])),(some (.lit #[46])),i3.le (by omega),Aeh (Br Fk) (Br Fk),by decide,λt u=>Db (Ai0 hx hs hn h0 h1 h2) λnw tk L hL=>?_⟩
    obtain ⟨h,g0,g1⟩:=hL
    exact ⟨Ab.right h,g0.right,g1.right⟩
   ·refine ⟨(x.nxt (x.nxt (x.nxt s 6) 2) 2),[w2 "AFTER",l2 ".",w2 "BEFORE",w2 "INITIAL",w2 "K",w2 "OF",w2 "R"],(some (.refOf "K" "R")),(some (.lit #[46])),i3.le (by omega),Aeh (Br Fk) Oh,by decide,λt u=>Db (Ahz hx hs hn h0 h1 h2) λnw tk L hL=>?_⟩
    obtain ⟨h,g1⟩:=hL
    exact ⟨Ab.right h,Ip memL,g1.right⟩
  ·rcases c2 with h2|h2
   ·refine ⟨(x.nxt (x.nxt (x.nxt s 6) 2) 2),[w2 "AFTER",w2 "K",w2 "OF",w2 "R",w2 "BEFORE",w2 "INITIAL",l2 "."],(some (.lit #[46])),(some (.refOf "K" "R")),i3.le (by omega),Aeh Oh (Br Fk),by decide,λt u=>Db (Ahy hx hs hn h0 h1 h2) λnw tk L hL=>?_⟩
    obtain ⟨h,g0⟩:=hL
    exact ⟨Ab.right h,g0.right,Ip memL⟩
   ·refine ⟨(x.nxt (x.nxt (x.nxt s 6) 2) 2),[w2 "AFTER",w2 "K",w2 "OF",w2 "R",w2 "BEFORE",w2 "INITIAL",w2 "K",w2 "OF",w2 "R"],(some (.refOf "K" "R")),(some (.refOf "K" "R")),i3.le (by omega),Aeh Oh Oh,by decide,λt u=>Db (Ahx hx hs hn h0 h1 h2) λnw tk L hL=>?_⟩
    have h:=hL
    exact ⟨Ab.right h,Ip memLL,Ip memRL⟩
theorem Ig{m nt:Nat}{ex:(Nat->Addr)->(Nat->Tok)->List AO}{also0 also:AL}(h:OkF w b (cExg x s s' t u m nt ex) tT also0)(ha:∀ nw tk L,also0 nw tk L->also (cut 7 nw) (cut 6 tk) (ex nw tk++L)):OkF w b (cExg x s s' t u 7 6 exNo) tT also:=
 Ap h _ _ _ (λnw _=>nw) (λ_ tk=>tk) ex rfl rfl (Nat.le_refl _) (λnw tk=>rfl) (λp hp=>by rcases mcm hp with rfl|hp<;>first|exact .head _|cases hp) (λnw tk p hp=>.inl (upd1 rfl p hp)) (λ_ _=>rfl) (λ_ h=>h) ha
theorem Abh{m nt:Nat}{ex:(Nat->Addr)->(Nat->Tok)->List AO}{also0 also:AL}(h:OkF w b (On x s s' t u m nt ex) tT also0)(ha:∀ nw tk L,also0 nw tk L->also (cut 4 nw) (cut 4 tk) (ex nw tk++L)):OkF w b (On x s s' t u 4 4 exNo) tT also:=
 Ap h _ _ _ (λnw _=>nw) (λ_ tk=>tk) ex rfl rfl (Nat.le_refl _) (λnw tk=>rfl) (λp hp=>by rcases mcm hp with rfl|hp<;>first|exact .head _|cases hp) (λnw tk p hp=>.inl (upd1 rfl p hp)) (λ_ _=>rfl) (λ_ h=>h) ha
theorem Ah9(hx:x.Good)(hs:s.Inv n)(hn:n<=2 ^ 59):ExgOut x s n:=by
 have hb0:=Ct (x:=x) (s:=s) Qt
 have i1:=Am hx hs Qt
 have c0:x.dig s 7=0\/x.dig s 7=1\/x.dig s 7=2\/x.dig s 7=3\/x.dig s 7=4\/x.dig s 7=5\/x.dig s 7=6:=by omega
 rcases c0 with h0|h0|h0|h0|h0|h0|h0
 ·refine ⟨x.nxt s 7,[l2 "a"],(.lit #[97]),[l2 "b"],(.lit #[98]),i1,(Br Uj),(Br Aal),.aa,by decide,by decide,.inl λt u=>Ig (exg_0 hx hs hn h0) λnw tk L hL=>?_⟩
  obtain ⟨h1,h2,g1,g2⟩:=hL
  exact ⟨Ab.right h1,g1.right,Ab.right h2,g2.right⟩
 ·refine ⟨x.nxt s 7,[l2 "ab"],(.lit #[97,98]),[l2 "BY"],(.lit #[66,89]),i1,(Br Aev),(Br oct_BY),.abBY,by decide,by decide,.inl λt u=>Ig (exg_1 hx hs hn h0) λnw tk L hL=>?_⟩
  obtain ⟨h1,h2,g1,g2⟩:=hL
  exact ⟨Ab.right h1,g1.right,Ab.right h2,g2.right⟩
 ·refine ⟨x.nxt s 7,[l2 "ab"],(.lit #[97,98]),[w2 "SPACES"],(.fig "SPACE"),i1,(Br Aev),Sk,.any_fig,by decide,by decide,.inl λt u=>Ig (exg_2 hx hs hn h0) λnw tk L hL=>?_⟩
  obtain ⟨h1,h2,g1⟩:=hL
  exact ⟨Ab.right h1,g1.right,Ab.right h2,Aeq memL⟩
 ·refine ⟨x.nxt s 7,[w2 "K"],(.ref "K"),[l2 "xyz"],(.lit #[120,121,122]),i1,op_K,(Br Agm),.refxyz,by decide,by decide,.inl λt u=>Ig (exg_3 hx hs hn h0) λnw tk L hL=>?_⟩
  obtain ⟨h1,h2,g2⟩:=hL
  exact ⟨Ab.right h1,Agv (nw:=nw) (tk:=tk) (a:=3) (j:=7) (i:=6) memL,Ab.right h2,g2.right⟩
 ·refine ⟨x.nxt s 7,[w2 "SPACES"],(.fig "SPACE"),[l2 "0"],(.lit #[48]),i1,Sk,(Br Adh),.fig0,by decide,by decide,.inl λt u=>Ig (exg_4 hx hs hn h0) λnw tk L hL=>?_⟩
  obtain ⟨h1,h2,g2⟩:=hL
  exact ⟨Ab.right h1,Aeq memL,Ab.right h2,g2.right⟩
 ·refine ⟨x.nxt s 7,[l2 "q"],(.lit #[113]),[w2 "K"],(.ref "K"),i1,(Br oct_q),op_K,.any_ref,by decide,by decide,.inl λt u=>Ig (exg_5 hx hs hn h0) λnw tk L hL=>?_⟩
  obtain ⟨h1,h2,g1⟩:=hL
  exact ⟨Ab.right h1,g1.right,Ab.right h2,Agv (nw:=nw) (tk:=tk) (a:=6) (j:=7) (i:=6) memL⟩
 ·refine ⟨x.nxt s 7,[w2 "K"],(.ref "K"),[w2 "K"],(.ref "K"),i1,op_K,op_K,.any_ref,by decide,by decide,.inr ⟨rfl,rfl,λt u=>Abh (exg_6 hx hs hn h0) λnw tk L hL=>?_⟩⟩
  have h1:=hL
  exact ⟨Ab.right h1,Agv (nw:=nw) (tk:=tk) (a:=3) (j:=4) (i:=4) memL⟩
end
structure SK where
 a1:Tok
 a2:Tok
 a3:Tok
 b1:Tok
 b2:Tok
 b3:Tok
 b4:Tok
 b5:Tok
 kt:Tok
noncomputable def frI(P:Params)(pl rl:Addr)(kind:Str)(q:SK)(k:Int)(tt bo to on ot:Nat):Obj:=
 Ek [ent P "pen" q.a1 (.ref pl),ent P "parts" q.a3 (.ref rl),ent P "word" q.a2 (.str kind q.kt),ent P "turn" q.b1 (.int k tt),ent P "bounds" q.b2 (.ref bo),ent P "told" q.b3 (.ref to),ent P "one" q.b4 (.ref on),ent P "other" q.b5 (.ref ot)] 8
noncomputable def frE(P:Params)(pl rl:Addr)(kind:Str)(q:SK):Obj:=Ek [ent P "pen" q.a1 (.ref pl),ent P "parts" q.a3 (.ref rl),ent P "word" q.a2 (.str kind q.kt)] 3
noncomputable def coSF(st:SP)(P:Params)(lo it:Addr):Code:=Jf (envF (st P) 584 lo) (.ref it) (Ae (st P 584))[1]?
structure SR where
 lo:Addr
 it:Addr
 rl:Addr
noncomputable def cSL(st:SP)(P:Params)(x:Pen)(s s':St)(t u:Tok)(y:SR)(kind:Str)(q:SK)(io:Obj)(af k kf:Int)(tt bo to on ot c n:Nat):Con:=
 ⟨coSF st P y.lo y.it,(y.it,io)::(x.pre s t u++[(y.lo,frI P x.pl y.rl kind q k tt bo to on ot),(y.rl,Ac (refs c) n)]),[(y.it,λ_=>Ak af 0),(x.pl,λtk=>x.o s' (tk 0) (tk 1)),(y.rl,λtk=>Ac (refs (tk 2)) (tk 3)),(y.lo,λtk=>frI P x.pl y.rl kind q kf (tk 4) (tk 5) (tk 6) (tk 7) (tk 8))],0,λ_ _=>[],9,λ_ _=>.ok .next,62⟩
noncomputable def Aaa(g1 g2:Bool)(kind:Str)(kt:Tok)(nw:Nat->Addr)(tk:Nat->Tok):List AO:=[(nw 0,tupO [.ref (nw 1),.ref (nw 2)]),(nw 1,Ac (refs (tk 9)) (tk 10)),(nw 2,tupO [.str kind kt,.ref (nw 3),.ref (nw 4),vB g1 (tk 11),vB g2 (tk 12)])]
noncomputable def cSLr(g1 g2:Bool)(st:SP)(P:Params)(x:Pen)(s s':St)(t u:Tok)(y:SR)(kind:Str)(q:SK)(io:Obj)(af k kf:Int)(tt bo to on ot c n:Nat):Con:=
 { cSL st P x s s' t u y kind q io af k kf tt bo to on ot c n with n:=5,nt:=13,post:=Aaa g1 g2 kind q.kt }
noncomputable def cSE(st:SP)(P:Params)(x:Pen)(s s':St)(t u:Tok)(y:SR)(kind:Str)(q:SK)(io:Obj)(af kf:Int):Con:=
 ⟨coSF st P y.lo y.it,(y.it,io)::(x.pre s t u++[(y.lo,frE P x.pl y.rl kind q),(y.rl,Ac [] 0)]),[(y.it,λ_=>Ak af 0),(x.pl,λtk=>x.o s' (tk 0) (tk 1)),(y.rl,λtk=>Ac (refs (tk 2)) (tk 3)),(y.lo,λtk=>frI P x.pl y.rl kind ⟨q.a1,q.a2,q.a3,tk 9,tk 10,tk 11,tk 12,tk 13,q.kt⟩ kf (tk 4) (tk 5) (tk 6) (tk 7) (tk 8))],0,λ_ _=>[],14,λ_ _=>.ok .next,63⟩
noncomputable def cSEr(g1 g2:Bool)(st:SP)(P:Params)(x:Pen)(s s':St)(t u:Tok)(y:SR)(kind:Str)(q:SK)(io:Obj)(af kf:Int):Con:=
 { cSE st P x s s' t u y kind q io af kf with
  upd:=[(y.it,λ_=>Ak af 0),(x.pl,λtk=>x.o s' (tk 0) (tk 1)),(y.rl,λtk=>Ac (refs (tk 2)) (tk 3)),(y.lo,λtk=>frI P x.pl y.rl kind ⟨q.a1,q.a2,q.a3,tk 13,tk 14,tk 15,tk 16,tk 17,q.kt⟩ kf (tk 4) (tk 5) (tk 6) (tk 7) (tk 8))]
  n:=5,nt:=18,post:=Aaa g1 g2 kind q.kt }
noncomputable abbrev kSL(P:Params)(x:Pen)(s:St)(t u:Tok)(y:SR)(kind:Str)(q:SK)(io:Obj)(k:Int)(tt bo to on ot c n:Nat):List Ent:=⟨y.it,io,true,false⟩::(x.K s t u++[⟨y.lo,frI P x.pl y.rl kind q k tt bo to on ot,true,false⟩,⟨y.rl,Ac (refs c) n,true,false⟩])
noncomputable abbrev kSE(P:Params)(x:Pen)(s:St)(t u:Tok)(y:SR)(kind:Str)(q:SK)(io:Obj):List Ent:=⟨y.it,io,true,false⟩::(x.K s t u++[⟨y.lo,frE P x.pl y.rl kind q,true,false⟩,⟨y.rl,Ac [] 0,true,false⟩])
noncomputable abbrev Fl(c r:Nat):List AO->Prop:=λ_=>(refs c).length+r<=5000
noncomputable abbrev Gy(c:Nat)(rest:List PyD):AL:=λ_ tk L=>∃ vs,refs (tk 2)=refs c++vs/\Ab L vs rest
noncomputable abbrev Yw(g1 g2:Bool)(pre:List Value)(t1 t2 bt:List T2)(o1 o2:Op)(b1 b2:Option Op)(rest:List PyD):AL:=λnw tk L=>∃ vs,refs (tk 2)=pre++(.ref (nw 0)::vs)/\Ab L (refs (tk 9)) ((t1++(w2 "BY"::(t2++bt))).map tokD)/\DatV L (.ref (nw 3)) o1.dat/\DatV L (.ref (nw 4)) o2.dat/\DatV L (vB g1 (tk 11)) (optD b1)/\DatV L (vB g2 (tk 12)) (optD b2)/\Ab L vs rest
theorem Qc{cb c1 cY c2 d1 d2 d3 c6 c7 r:Nat}{v1 v2:Value}{pa on ot:Addr}{t1 t2 bt:List T2}{o1 o2:Op}{b1 b2:Option Op}{rest:List PyD}{X:List AO}{F n6:List AO->Prop}{P1 P6:List AO->Prop}{pre:List Value}
  (l1:t1.length<=3)(l2':t2.length<=3)(lb:bt.length<=20)(hn:pre.length+(r+1)<=5000)(h6:∀ X,n6 X)(hp1:∀ L,P1 L->Ab L (refs c1) (t1.map tokD)/\DatV L (.ref on) o1.dat/\Ab L (refs c2) (t2.map tokD)/\DatV L (.ref ot) o2.dat)(hp6:∀ L,P6 L->L=[]/\refs c6=pre++[.ref pa])
  (hF:∀ L,(∃ vs,refs c7=pre++(.ref pa::vs)/\Ab L (refs d3) ((t1++(w2 "BY"::(t2++bt))).map tokD)/\DatV L (.ref on) o1.dat/\DatV L (.ref ot) o2.dat/\DatV L v1 (optD b1)/\DatV L v2 (optD b2)/\Ab L vs rest)->F L) :
  Ch F [(λ_=>True,λL=>Ab L (refs cb) (bt.map tokD)/\DatV L v1 (optD b1)/\DatV L v2 (optD b2)),(λ_=>True,P1),(λ_=>True,λL=>Ab L (refs cY) [tokD (w2 "BY")]),
   (λ_=>Bm c1 cY,λL=>L=[]/\refs d1=refs c1++refs cY),(λ_=>Bm d1 c2,λL=>L=[]/\refs d2=refs d1++refs c2),(λ_=>Bm d2 cb,λL=>L=[]/\refs d3=refs d2++refs cb),
   (n6,P6),(λ_=>(refs c6).length+r<=5000,λL=>∃ vs,refs c7=refs c6++vs/\Ab L vs rest)] X []:=by
 refine cS trivial λL0 h0=>cS trivial λL1 h1=>cS trivial λL2 h2=>?_
 obtain ⟨a1,a2,a3⟩:=h0
 obtain ⟨e1,e2,e3,e4⟩:=hp1 L1 h1
 have k1:=e1.get.1
 have k2:=e3.get.1
 have k3:=h2.get.1
 have k4:=a1.get.1
 rw [List.length_map] at k1 k2 k4
 simp only [List.length_cons,List.length_nil] at k3
 refine cS (by show _+_<=5000;omega) λL3 h3=>?_
 obtain ⟨rfl,h3⟩:=h3
 have q1:(refs d1).length<=4:=by rw [h3,List.length_append];omega
 refine cS (by show _+_<=5000;omega) λL4 h4=>?_
 obtain ⟨rfl,h4⟩:=h4
 have q2:(refs d2).length<=7:=by rw [h4,List.length_append];omega
 refine cS (by show _+_<=5000;omega) λL5 h5=>?_
 obtain ⟨rfl,h5⟩:=h5
 refine cS (h6 _) λL6 g7=>?_
 obtain ⟨rfl,h7⟩:=hp6 L6 g7
 refine cS (by rw [h7,List.length_append];simp only [List.length_cons,List.length_nil];omega) λL7 h8=>?_
 obtain ⟨vs,h8,h9⟩:=h8
 refine cZ (hF _ ⟨vs,by rw [h8,h7,List.append_assoc];rfl,?_,?_,?_,?_,?_,h9.right⟩)
 ·rw [h5,h4,h3,List.map_append,List.map_cons,List.map_append]
  simp only [List.append_nil,List.nil_append]
  have z:=((Ab.app (Ab.app (Ab.app (L:=((L0++L1)++L2)++L7) (Ab.left (Ab.left (Ab.right e1))) (Ab.left (Ab.right h2))) (Ab.left (Ab.left (Ab.right e3)))) (Ab.left (Ab.left (Ab.left a1)))))
  simpa only [List.append_assoc,List.cons_append,List.nil_append] using z
 ·simp only [List.append_nil,List.nil_append];exact DatV.left (DatV.left (DatV.right e2))
 ·simp only [List.append_nil,List.nil_append];exact DatV.left (DatV.left (DatV.right e4))
 ·simp only [List.append_nil,List.nil_append];exact DatV.left (DatV.left (DatV.left a2))
 ·simp only [List.append_nil,List.nil_append];exact DatV.left (DatV.left (DatV.left a3))

theorem Ls{g1 g2:Bool}{x:Pen}{s s1 s2 s':St}{t u:Tok}{y:SR}{kind:Str}{q:SK}{af a kf left:Int}{r:Nat}{bt t1 t2:List T2}{o1 o2:Op}{b1 b2:Option Op}{rest:List PyD}(hk:sEqB kind "CHARACTERS"=false)(hb:∀ t u,OkF w b (Gp x s s1 t u g1 g2) tT (BdG g1 g2 bt b1 b2))(lb:bt.length<=20)(l1:t1.length<=3)(l2':t2.length<=3)(he:∀ t u,OkF w b (cExg x s1 s2 t u 7 6 exNo) tT (ExF t1 o1 t2 o2))(hr:∀ q t u tt bo to on ot c n,OkF w b (cSL Aa w.params x s2 s' t u y kind q (Ak (a+1) (left - 1)) af a kf tt bo to on ot c n) (Fl c r) (Gy c rest))(vt:Tok){k:Int}{tt bo to on ot c n:Nat}:OkT w b (cSLr g1 g2 Aa w.params x s s' t u y kind q (Ak (a+1) (left - 1)) af k kf tt bo to on ot c n) (Je (envF (Aa w.params) 584 y.lo) (.ref y.it) (.int a vt) (Ae (Aa w.params 584))[1]?) (Fl c (r+1)) (Yw g1 g2 (refs c) t1 t2 bt o1 o2 b1 b2 rest):=by
 refine oTX [fl (λ_=>Gp x s s1 t u g1 g2) tT (BdG g1 g2 bt b1 b2) λ_=>hb _ _,⟨λA T c=>.full (cExg x s1 s2 (T 1) (T 2) 7 6 exNo) tT (ExF t1 o1 t2 o2),λ_ _ _=>he _ _⟩,pl (cSEq kind "CHARACTERS" false) (Bl hk),Nw,xA 12 13 20 21,xA 22 23 14 15,xA 25 26 3 4,xP c n,⟨λA T c=>.full (cSL Aa w.params x s2 s' (T 10) (T 11) y kind q (Ak (a+1) (left - 1)) af a kf vt (A 1) (A 2) (A 7) (A 10) (T 33) (T 34)) (Fl (T 33) r) (Gy (T 33) rest),λ_ _ _=>hr _ _ _ _ _ _ _ _ _ _⟩] (kSL w.params x s t u y kind q (Ak (a+1) (left - 1)) k tt bo to on ot c n) 283 g29N [21,19,20,9,12] [35,36,37,38,39,40,41,42,43,27,28,5,6] (λal tk=>[(λ_=>True,λL=>Ab L (refs (tk (1+2))) (bt.map tokD)/\DatV L (vB g1 (tk (1+4))) (optD b1)/\DatV L (vB g2 (tk (1+5))) (optD b2)),(λ_=>True,λL=>Ab L (refs (tk (10+2))) (t1.map tokD)/\DatV L (.ref (al (6+3))) o1.dat/\Ab L (refs (tk (10+4))) (t2.map tokD)/\DatV L (.ref (al (6+6))) o2.dat),eW (tk 20) [tokD (w2 "BY")],eA (tk 22) (tk (10+2)) (tk 20),eA (tk 25) (tk 22) (tk (10+4)),eA (tk 27) (tk 25) (tk (1+2)),(λ_=>(refs c).length<=5000,λL=>L=[]/\refs (tk 33)=refs c++[Value.ref (al (22 - 1))]),(Fl (tk 33) r,Gy (tk 33) rest al (λj=>tk (35+j)))]) ?_ ?_ (λal tk X hX=>Qc (cb:=tk (1+2)) (c1:=tk (10+2)) (cY:=tk 20) (c2:=(tk (10+4))) (d1:=tk 22) (d2:=tk 25) (d3:=tk 27) (c6:=tk 33) (c7:=tk (35+2)) (v1:=vB g1 (tk (1+4))) (v2:=vB g2 (tk (1+5))) (r:=r) (pa:=al (22 - 1)) (on:=al (6+3)) (ot:=al (6+6)) (t1:=t1) (t2:=t2) (bt:=bt) (o1:=o1) (o2:=o2) (b1:=b1) (b2:=b2) (rest:=rest) (pre:=refs c) l1 l2' lb hX (λ_=>by have z:(refs c).length+(r+1)<=5000:=hX;show (refs c).length<=5000;omega) (λL h=>h) (λL h=>h) (λL h=>h))<;>dsimp only [fms,pl,fl]<;>refine gg2 g1 g2 ?_ ?_ ?_ ?_<;>intros<;>kernel_rfl
theorem Lr{g1 g2:Bool}{x:Pen}{s s1 s2 s':St}{t u:Tok}{y:SR}{kind:Str}{q:SK}{af a kf left:Int}{r:Nat}{bt t1 t2:List T2}{o1 o2:Op}{b1 b2:Option Op}{rest:List PyD}(hk:sEqB kind "CHARACTERS"=false)(hb:∀ t u,OkF w b (Gp x s s1 t u g1 g2) tT (BdG g1 g2 bt b1 b2))(lb:bt.length<=20)(l1:t1.length<=3)(he:∀ t u,OkF w b (On x s1 s2 t u 4 4 exNo) tT (ExS t1 o1))(hr:∀ q t u tt bo to on ot c n,OkF w b (cSL Aa w.params x s2 s' t u y kind q (Ak (a+1) (left - 1)) af a kf tt bo to on ot c n) (Fl c r) (Gy c rest))(vt:Tok){k:Int}{tt bo to on ot c n:Nat}:OkT w b (cSLr g1 g2 Aa w.params x s s' t u y kind q (Ak (a+1) (left - 1)) af k kf tt bo to on ot c n) (Je (envF (Aa w.params) 584 y.lo) (.ref y.it) (.int a vt) (Ae (Aa w.params 584))[1]?) (Fl c (r+1)) (Yw g1 g2 (refs c) t1 t1 bt o1 o1 b1 b2 rest):=by
 refine oTX [fl (λ_=>Gp x s s1 t u g1 g2) tT (BdG g1 g2 bt b1 b2) λ_=>hb _ _,⟨λA T c=>.full (On x s1 s2 (T 1) (T 2) 4 4 exNo) tT (ExS t1 o1),λ_ _ _=>he _ _⟩,pl (cSEq kind "CHARACTERS" false) (Bl hk),Nw,xA 12 13 18 19,xA 20 21 12 13,xA 23 24 3 4,xP c n,⟨λA T c=>.full (cSL Aa w.params x s2 s' (T 10) (T 11) y kind q (Ak (a+1) (left - 1)) af a kf vt (A 1) (A 2) (A 7) (A 7) (T 31) (T 32)) (Fl (T 31) r) (Gy (T 31) rest),λ_ _ _=>hr _ _ _ _ _ _ _ _ _ _⟩] (kSL w.params x s t u y kind q (Ak (a+1) (left - 1)) k tt bo to on ot c n) 283 g30N [18,16,17,9,9] [33,34,35,36,37,38,39,40,41,25,26,5,6] (λal tk=>[(λ_=>True,λL=>Ab L (refs (tk (1+2))) (bt.map tokD)/\DatV L (vB g1 (tk (1+4))) (optD b1)/\DatV L (vB g2 (tk (1+5))) (optD b2)),(λ_=>True,λL=>Ab L (refs (tk (10+2))) (t1.map tokD)/\DatV L (.ref (al (6+3))) o1.dat),eW (tk 18) [tokD (w2 "BY")],eA (tk 20) (tk (10+2)) (tk 18),eA (tk 23) (tk 20) (tk (10+2)),eA (tk 25) (tk 23) (tk (1+2)),(λ_=>(refs c).length<=5000,λL=>L=[]/\refs (tk 31)=refs c++[Value.ref (al (19 - 1))]),(Fl (tk 31) r,Gy (tk 31) rest al (λj=>tk (33+j)))]) ?_ ?_ (λal tk X hX=>Qc (cb:=tk (1+2)) (c1:=tk (10+2)) (cY:=tk 18) (c2:=(tk (10+2))) (d1:=tk 20) (d2:=tk 23) (d3:=tk 25) (c6:=tk 31) (c7:=tk (33+2)) (v1:=vB g1 (tk (1+4))) (v2:=vB g2 (tk (1+5))) (r:=r) (pa:=al (19 - 1)) (on:=al (6+3)) (ot:=al (6+3)) (t1:=t1) (t2:=t1) (bt:=bt) (o1:=o1) (o2:=o1) (b1:=b1) (b2:=b2) (rest:=rest) (pre:=refs c) l1 l1 lb hX (λ_=>by have z:(refs c).length+(r+1)<=5000:=hX;show (refs c).length<=5000;omega) (λL h=>⟨h.1,h.2,h.1,h.2⟩) (λL h=>h) (λL h=>h))<;>dsimp only [fms,pl,fl]<;>refine gg2 g1 g2 ?_ ?_ ?_ ?_<;>intros<;>kernel_rfl
theorem Lu{g1 g2:Bool}{x:Pen}{s s1 s2 s':St}{t u:Tok}{y:SR}{kind:Str}{q:SK}{af a kf left:Int}{r:Nat}{bt t1 t2:List T2}{o1 o2:Op}{b1 b2:Option Op}{rest:List PyD}(hk:sEqB kind "CHARACTERS"=false)(hb:∀ t u,OkF w b (Gp x s s1 t u g1 g2) tT (BdG g1 g2 bt b1 b2))(lb:bt.length<=20)(l1:t1.length<=3)(l2':t2.length<=3)(he:∀ t u,OkF w b (cExg x s1 s2 t u 7 6 exNo) tT (ExF t1 o1 t2 o2))(hr:∀ q t u tt bo to on ot c n,OkF w b (cSL Aa w.params x s2 s' t u y kind q (Ak (a+1) (left - 1)) af a kf tt bo to on ot c n) (Fl c r) (Gy c rest))(vt:Tok):OkT w b (cSEr g1 g2 Aa w.params x s s' t u y kind q (Ak (a+1) (left - 1)) af kf) (Je (envF (Aa w.params) 584 y.lo) (.ref y.it) (.int a vt) (Ae (Aa w.params 584))[1]?) (λ_=>([]:List Value).length+(r+1)<=5000) (Yw g1 g2 ([]) t1 t2 bt o1 o2 b1 b2 rest):=by
 refine oTX [fl (λ_=>Gp x s s1 t u g1 g2) tT (BdG g1 g2 bt b1 b2) λ_=>hb _ _,⟨λA T c=>.full (cExg x s1 s2 (T 1) (T 2) 7 6 exNo) tT (ExF t1 o1 t2 o2),λ_ _ _=>he _ _⟩,pl (cSEq kind "CHARACTERS" false) (Bl hk),Nw,xA 12 13 20 21,xA 22 23 14 15,xA 25 26 3 4,xP0,⟨λA T c=>.full (cSL Aa w.params x s2 s' (T 10) (T 11) y kind ⟨q.a1,q.a2,q.a3,(T 0),(T 7),(T 8),(T 16),(T 17),q.kt⟩ (Ak (a+1) (left - 1)) af a kf vt (A 1) (A 2) (A 7) (A 10) (T 33) (T 34)) (Fl (T 33) r) (Gy (T 33) rest),λ_ _ _=>hr _ _ _ _ _ _ _ _ _ _⟩] (kSE w.params x s t u y kind q (Ak (a+1) (left - 1))) 283 g29N [21,19,20,9,12] [35,36,37,38,39,40,41,42,43,27,28,5,6,0,7,8,16,17] (λal tk=>[(λ_=>True,λL=>Ab L (refs (tk (1+2))) (bt.map tokD)/\DatV L (vB g1 (tk (1+4))) (optD b1)/\DatV L (vB g2 (tk (1+5))) (optD b2)),(λ_=>True,λL=>Ab L (refs (tk (10+2))) (t1.map tokD)/\DatV L (.ref (al (6+3))) o1.dat/\Ab L (refs (tk (10+4))) (t2.map tokD)/\DatV L (.ref (al (6+6))) o2.dat),eW (tk 20) [tokD (w2 "BY")],eA (tk 22) (tk (10+2)) (tk 20),eA (tk 25) (tk 22) (tk (10+4)),eA (tk 27) (tk 25) (tk (1+2)),(λ_=>True,λL=>L=[]/\refs (tk 33)=[Value.ref (al (22 - 1))]),(Fl (tk 33) r,Gy (tk 33) rest al (λj=>tk (35+j)))]) ?_ ?_ (λal tk X hX=>Qc (cb:=tk (1+2)) (c1:=tk (10+2)) (cY:=tk 20) (c2:=(tk (10+4))) (d1:=tk 22) (d2:=tk 25) (d3:=tk 27) (c6:=tk 33) (c7:=tk (35+2)) (v1:=vB g1 (tk (1+4))) (v2:=vB g2 (tk (1+5))) (r:=r) (pa:=al (22 - 1)) (on:=al (6+3)) (ot:=al (6+6)) (t1:=t1) (t2:=t2) (bt:=bt) (o1:=o1) (o2:=o2) (b1:=b1) (b2:=b2) (rest:=rest) (pre:=[]) l1 l2' lb hX (λ_=>trivial) (λL h=>h) (λL h=>h) (λL h=>h))<;>dsimp only [fms,pl,fl]<;>refine gg2 g1 g2 ?_ ?_ ?_ ?_<;>intros<;>kernel_rfl
theorem Lt{g1 g2:Bool}{x:Pen}{s s1 s2 s':St}{t u:Tok}{y:SR}{kind:Str}{q:SK}{af a kf left:Int}{r:Nat}{bt t1 t2:List T2}{o1 o2:Op}{b1 b2:Option Op}{rest:List PyD}(hk:sEqB kind "CHARACTERS"=false)(hb:∀ t u,OkF w b (Gp x s s1 t u g1 g2) tT (BdG g1 g2 bt b1 b2))(lb:bt.length<=20)(l1:t1.length<=3)(he:∀ t u,OkF w b (On x s1 s2 t u 4 4 exNo) tT (ExS t1 o1))(hr:∀ q t u tt bo to on ot c n,OkF w b (cSL Aa w.params x s2 s' t u y kind q (Ak (a+1) (left - 1)) af a kf tt bo to on ot c n) (Fl c r) (Gy c rest))(vt:Tok):OkT w b (cSEr g1 g2 Aa w.params x s s' t u y kind q (Ak (a+1) (left - 1)) af kf) (Je (envF (Aa w.params) 584 y.lo) (.ref y.it) (.int a vt) (Ae (Aa w.params 584))[1]?) (λ_=>([]:List Value).length+(r+1)<=5000) (Yw g1 g2 ([]) t1 t1 bt o1 o1 b1 b2 rest):=by
 refine oTX [fl (λ_=>Gp x s s1 t u g1 g2) tT (BdG g1 g2 bt b1 b2) λ_=>hb _ _,⟨λA T c=>.full (On x s1 s2 (T 1) (T 2) 4 4 exNo) tT (ExS t1 o1),λ_ _ _=>he _ _⟩,pl (cSEq kind "CHARACTERS" false) (Bl hk),Nw,xA 12 13 18 19,xA 20 21 12 13,xA 23 24 3 4,xP0,⟨λA T c=>.full (cSL Aa w.params x s2 s' (T 10) (T 11) y kind ⟨q.a1,q.a2,q.a3,(T 0),(T 7),(T 8),(T 14),(T 15),q.kt⟩ (Ak (a+1) (left - 1)) af a kf vt (A 1) (A 2) (A 7) (A 7) (T 31) (T 32)) (Fl (T 31) r) (Gy (T 31) rest),λ_ _ _=>hr _ _ _ _ _ _ _ _ _ _⟩] (kSE w.params x s t u y kind q (Ak (a+1) (left - 1))) 283 g30N [18,16,17,9,9] [33,34,35,36,37,38,39,40,41,25,26,5,6,0,7,8,14,15] (λal tk=>[(λ_=>True,λL=>Ab L (refs (tk (1+2))) (bt.map tokD)/\DatV L (vB g1 (tk (1+4))) (optD b1)/\DatV L (vB g2 (tk (1+5))) (optD b2)),(λ_=>True,λL=>Ab L (refs (tk (10+2))) (t1.map tokD)/\DatV L (.ref (al (6+3))) o1.dat),eW (tk 18) [tokD (w2 "BY")],eA (tk 20) (tk (10+2)) (tk 18),eA (tk 23) (tk 20) (tk (10+2)),eA (tk 25) (tk 23) (tk (1+2)),(λ_=>True,λL=>L=[]/\refs (tk 31)=[Value.ref (al (19 - 1))]),(Fl (tk 31) r,Gy (tk 31) rest al (λj=>tk (33+j)))]) ?_ ?_ (λal tk X hX=>Qc (cb:=tk (1+2)) (c1:=tk (10+2)) (cY:=tk 18) (c2:=(tk (10+2))) (d1:=tk 20) (d2:=tk 23) (d3:=tk 25) (c6:=tk 31) (c7:=tk (33+2)) (v1:=vB g1 (tk (1+4))) (v2:=vB g2 (tk (1+5))) (r:=r) (pa:=al (19 - 1)) (on:=al (6+3)) (ot:=al (6+3)) (t1:=t1) (t2:=t1) (bt:=bt) (o1:=o1) (o2:=o1) (b1:=b1) (b2:=b2) (rest:=rest) (pre:=[]) l1 l1 lb hX (λ_=>trivial) (λL h=>⟨h.1,h.2,h.1,h.2⟩) (λL h=>h) (λL h=>h))<;>dsimp only [fms,pl,fl]<;>refine gg2 g1 g2 ?_ ?_ ?_ ?_<;>intros<;>kernel_rfl
theorem Xe{w:World}{it:Addr}{x left:Int}{P:List AO}(hl:left<=0):Stops w it (Ak x left) (Ak x left) P:=by
 intro A s Q hh h0 hP hQ
 have hT:s.TypeIs (.ref it) "range_iterator":=⟨_,h0,rfl⟩
 unfold pyNext
 refine wpAny_bind (wpAny_attempt (wpAny_callSpecial?_slot (name:=Str.ofString "__next__") hT F.slot_range_iterator_next (wpAny_call_entry F.slot_range_iterator_next hT F.entry_range_iterator_next ?_ (F.args_range_iterator_next_1 _))))
 show wpAny _ _ (field (.ref it) 0 >>= _) _ _ s
 refine wpAny_bind (wpAny_field h0 rfl (x:=rawInt x) rfl ?_)
 show wpAny _ _ (field (.ref it) 1 >>= _) _ _ s
 refine wpAny_bind (wpAny_field h0 rfl (x:=rawInt left) rfl ?_)
 show wpAny _ _ (field (.ref it) 2 >>= _) _ _ s
 refine wpAny_bind (wpAny_field h0 rfl (x:=rawInt 1) rfl ?_)
 show wpAny _ _ (if left<=0 then _ else _) _ _ s
 rw [if_pos hl]
 refine wpAny_bind (wpAny_rule ?_)
 refine wpAny_bind ?_
 show wpAny _ _ (newExc (.type "StopIteration") [] >>= _) _ _ _
 refine wpAny_bind ?_
 simp only [newExc,newTuple]
 refine wpAny_bind (wpAny_newObj_type ?_ (by size_fits))
 refine wpAny_bind (m:=firstArgMember _ _) (wpAny_of_eq (a:=Value.none) (by first|rfl|(simp only [firstArgMember];rfl)) ?_)
 refine wpAny_newObj_type ?_ (by size_fits)
 simp only [raiseNew]
 refine wpAny_bind (wpAny_handled ?_)
 rw [show A.in1.handled=none from hh]
 refine wpAny_bind (wpAny_pure (wpAny_throw ?_))
 refine wpAny_bind (wpAny_isInstance (T:="StopIteration") (b:=true) ⟨_,Heap.get?_push_size _ rfl,rfl⟩ isSubtype_stop ?_)
 refine wpAny_pure (hQ _ s.toks ?_ λb o eb hb=>?_)
 ·exact Heap.get?_push_of_some _ (Heap.get?_push_of_some _ h0)
 ·exact Heap.get?_push_of_some _ (Heap.get?_push_of_some _ eb)
noncomputable def Bp(p:Part):PyD:=.tup [.lst (p.1.map tokD),p.2]
theorem DatV.rest{R L:List AO}{v:Value}{d:PyD}(h:DatV L v d):DatV (R++L) v d:=h.right
noncomputable abbrev g9(tk:Nat->Tok):Nat->Tok:=tk
section
variable {w:World}{b:B3}{x:Pen}{s s':St}{t u:Tok}{y:SR}{kind:Str}{q:SK}{af k kf:Int}{tt bo to on ot c n r:Nat}{g1 g2:Bool}{io:Obj}{t1 t2 bt:List T2}{o1 o2:Op}{b1 b2:Option Op}{rest:List PyD}
theorem Vy{nw:Nat->Addr}{tk:Nat->Tok}{L:List AO}{toks:List T2}{kt:Tok}(h1:Ab L (refs (tk 9)) (toks.map tokD))(h2:DatV L (.ref (nw 3)) o1.dat)(h3:DatV L (.ref (nw 4)) o2.dat)(h4:DatV L (vB g1 (tk 11)) (optD b1))(h5:DatV L (vB g2 (tk 12)) (optD b2)) :
  DatV (Aaa g1 g2 kind kt nw tk++L) (.ref (nw 0)) (Bp (toks,rowD kind (some o1) o2 b1 b2)):=
 .tup (.head _) (.cons (.lst (.tail _ (.head _)) h1.right) (.cons (.tup (.tail _ (.tail _ (.head _))) (.cons .str (.cons h2.right (.cons h3.right (.cons h4.right (.cons h5.right .nil)))))) .nil))
theorem Afu(h:OkF w b (cSLr g1 g2 Aa w.params x s s' t u y kind q io af k kf tt bo to on ot c n) (Fl c (r+1)) (Yw g1 g2 (refs c) t1 t2 bt o1 o2 b1 b2 rest)) :
  OkF w b (cSL Aa w.params x s s' t u y kind q io af k kf tt bo to on ot c n) (Fl c (r+1)) (Gy c (Bp (t1++(w2 "BY"::(t2++bt)),rowD kind (some o1) o2 b1 b2)::rest)):=by
 refine Ap h _ _ _ (λnw _=>nw) (λ_ tk=>tk) (Aaa g1 g2 kind q.kt) rfl rfl (Nat.le_refl _) (λ_ _=>rfl) (λp hp=>?_) (λnw tk p hp=>.inl ?_) (λ_ _=>rfl) (λ_ h=>h) λnw tk L hL=>?_
 ·have hp:p∈(cSL Aa w.params x s s' t u y kind q io af k kf tt bo to on ot c n).upd:=hp
  exact List.mem_map_of_mem hp
 ·exact hp
 ·obtain ⟨vs,h1,h2,h3,h4,h5,h6,h7⟩:=hL
  exact ⟨.ref (nw 0)::vs,h1,.cons (Vy h2 h3 h4 h5 h6) h7.right⟩
theorem Afw(h:OkF w b (cSEr g1 g2 Aa w.params x s s' t u y kind q io af kf) (λ_=>([]:List Value).length+(r+1)<=5000) (Yw g1 g2 [] t1 t2 bt o1 o2 b1 b2 rest)) :
  OkF w b (cSE Aa w.params x s s' t u y kind q io af kf) (λ_=>r+1<=5000) (λ_ tk L=>Ab L (refs (tk 2)) (Bp (t1++(w2 "BY"::(t2++bt)),rowD kind (some o1) o2 b1 b2)::rest)):=by
 refine Ap h _ _ _ (λnw _=>nw) (λ_ tk j=>if j < 9 then tk j else tk (j+4)) (Aaa g1 g2 kind q.kt) rfl rfl (Nat.le_refl _) (λ_ _=>rfl) (λp hp=>?_) (λnw tk p hp=>.inl ?_) (λ_ _=>rfl) (λ_ h=>by simpa using h) λnw tk L hL=>?_
 ·simp only [cSEr,cSE,List.mem_cons,List.not_mem_nil,or_false] at hp
  rcases hp with rfl|rfl|rfl|rfl<;>simp [cSE]
 ·exact hp
 ·obtain ⟨vs,h1,h2,h3,h4,h5,h6,h7⟩:=hL
  have h1:refs (tk 2)=.ref (nw 0)::vs:=h1
  show Ab _ (refs (tk 2)) _
  rw [h1]
  exact .cons (Vy h2 h3 h4 h5 h6) h7.right
end
noncomputable def Uo(s:Option Stmt):Prop:=∃ t it b p,s=some (.For t it b [] p)
theorem Vk{w:World} {ι:Type}{env:Env}{it:Addr}{v:ι->Value}{st:Option Stmt}(h:Uo st):Ai8 w (Jf env (.ref it) st) it v (λi=>Je env (.ref it) (v i) st):=by
 obtain ⟨_,_,_,_,rfl⟩:=h
 exact Zh
theorem Adq{w:World}{env:Env}{it:Addr}{st:Option Stmt}(h:Uo st):Aia w (Jf env (.ref it) st) it:=by
 obtain ⟨_,_,_,_,rfl⟩:=h
 exact Ab5
theorem Ur(P:Params):Uo (Ae (Aa P 584))[1]?:=⟨_,_,_,_,rfl⟩
noncomputable def pick9(a b c d e f g h i:Nat):Nat->Nat
 | 0=>a
 | 1=>b
 | 2=>c
 | 3=>d
 | 4=>e
 | 5=>f
 | 6=>g
 | 7=>h
 | _=>i
section
variable {w:World}{b:B3}{x:Pen}{s s1 s2 s':St}{kind:Str}{af a k kf left:Int}{c n r N:Nat}{t1 t2 bt:List T2}{o1 o2:Op}{b1 b2:Option Op}{rest:List PyD}
theorem Aft(y:SR)(q:SK)(a k:Int)(t u tt bo to on ot c n:Nat):OkF w b (cSL Aa w.params x s s t u y kind q (Ak a 0) a k k tt bo to on ot c n) (Fl c 0) (Gy c []):=by
 let P:List AO:=x.pre s t u++[(y.lo,frI w.params x.pl y.rl kind q k tt bo to on ot),(y.rl,Ac (refs c) n)]
 have h:=Afp (w:=wZ w b) (st:=Aa w.params) (o0:=Ak a 0) (o1:=Ak a 0) (P:=P) ⟨coSF Aa w.params y.lo y.it,(y.it,Ak a 0)::P,[(y.it,λ_=>Ak a 0)],0,λ_ _=>[],0,λ_ _=>.ok .next,62⟩
  (Xe (by omega)) (Adq (Ur w.params)) rfl rfl rfl (λ_ _=>rfl) (λ_ _=>rfl)
 refine Ie h _ _ _ (λnw _=>nw) (λ_ _=>pick9 t u c n tt bo to on ot) (λ_ _=>[]) rfl rfl (Nat.le_refl _) (λ_ _=>rfl) (λp hp=>?_) (λhnod nw tk p hp=>?_) (λ_ _=>rfl) (λ_ _=>trivial) λnw tk L hL=>⟨[],(List.append_nil _).symm,.nil⟩
 ·rcases mcm hp with rfl|hp
  ·exact .head _
  ·cases hp
 ·have hnod:[y.it,x.pl,x.cl,y.lo,y.rl].Nodup:=hnod
  simp only [List.nodup_cons,List.mem_cons,List.not_mem_nil,or_false,not_or] at hnod
  have hp:p∈[(y.it,Ak a 0),(x.pl,x.o s t u),(y.rl,Ac (refs c) n),(y.lo,frI w.params x.pl y.rl kind q k tt bo to on ot)]:=hp
  simp only [List.mem_cons,List.not_mem_nil,or_false] at hp
  rcases hp with rfl|rfl|rfl|rfl
  ·exact .inl (.head _)
  ·refine .inr ⟨.tail _ (.head _),λq' hq=>?_⟩
   rcases mcm hq with rfl|hq
   ·exact hnod.1.1
   ·cases hq
  ·refine .inr ⟨by simp [P],λq' hq=>?_⟩
   rcases mcm hq with rfl|hq
   ·exact hnod.1.2.2.2
   ·cases hq
  ·refine .inr ⟨by simp [P],λq' hq=>?_⟩
   rcases mcm hq with rfl|hq
   ·exact hnod.1.2.2.1
   ·cases hq
theorem sl_adv{g1 g2:Bool}(hl:0 < left){y:SR}{q:SK}{t u tt bo to on ot:Nat}{need:List AO->Prop}{also:AL}
  (h:∀ vt,OkT w b (cSLr g1 g2 Aa w.params x s s' t u y kind q (Ak (a+1) (left - 1)) af k kf tt bo to on ot c n) (Je (envF (Aa w.params) 584 y.lo) (.ref y.it) (.int a vt) (Ae (Aa w.params 584))[1]?) need also) :
  OkF w b (cSLr g1 g2 Aa w.params x s s' t u y kind q (Ak a left) af k kf tt bo to on ot c n) need also:=
 Af6 (x:=λ_=>cSLr g1 g2 Aa w.params x s s' t u y kind q (Ak (a+1) (left - 1)) af k kf tt bo to on ot c n) _ (Ph hl) (Vk (Ur w.params)) rfl (λ_=>rfl) rfl (λ_=>rfl) (λ_=>rfl) (.head _) (by show 1<=62;decide) (λ_=>Nat.le_refl _) (λ_=>rfl) (λ_=>rfl) (λ_=>rfl) (λ_=>rfl) (λ_ _=>.next) (λ_ _=>rfl) h
theorem se_adv{g1 g2:Bool}(hl:0 < left){y:SR}{q:SK}{t u:Nat}{need:List AO->Prop}{also:AL}
  (h:∀ vt,OkT w b (cSEr g1 g2 Aa w.params x s s' t u y kind q (Ak (a+1) (left - 1)) af kf) (Je (envF (Aa w.params) 584 y.lo) (.ref y.it) (.int a vt) (Ae (Aa w.params 584))[1]?) need also) :
  OkF w b (cSEr g1 g2 Aa w.params x s s' t u y kind q (Ak a left) af kf) need also:=
 Af6 (x:=λ_=>cSEr g1 g2 Aa w.params x s s' t u y kind q (Ak (a+1) (left - 1)) af kf) _ (Ph hl) (Vk (Ur w.params)) rfl (λ_=>rfl) rfl (λ_=>rfl) (λ_=>rfl) (.head _) (by show 1<=63;decide) (λ_=>Nat.le_refl _) (λ_=>rfl) (λ_=>rfl) (λ_=>rfl) (λ_=>rfl) (λ_ _=>.next) (λ_ _=>rfl) h
end
structure Ai9 (x:Pen)(s:St)(n:Nat)(kind:Str)(s2:St)(p:Part):Prop where
 inv:s2.Inv (n+4)
 ok:Ff kind p.1 p.2
 len:p.1.length<=30
 sl:∀ {w:World}{b:B3}{s':St}{y:SR}{af a kf left:Int}{r:Nat}{rest:List PyD}(_:0 < left)
  (_:∀ q t u tt bo to on ot c n,OkF w b (cSL Aa w.params x s2 s' t u y kind q (Ak (a+1) (left - 1)) af a kf tt bo to on ot c n) (Fl c r) (Gy c rest))(q:SK)(k:Int)(t u tt bo to on ot c n:Nat),
  OkF w b (cSL Aa w.params x s s' t u y kind q (Ak a left) af k kf tt bo to on ot c n) (Fl c (r+1)) (Gy c (Bp p::rest))
 se:∀ {w:World}{b:B3}{s':St}{y:SR}{af a kf left:Int}{r:Nat}{rest:List PyD}(_:0 < left)
  (_:∀ q t u tt bo to on ot c n,OkF w b (cSL Aa w.params x s2 s' t u y kind q (Ak (a+1) (left - 1)) af a kf tt bo to on ot c n) (Fl c r) (Gy c rest))(q:SK)(t u:Nat),
  OkF w b (cSE Aa w.params x s s' t u y kind q (Ak a left) af kf) (λ_=>r+1<=5000) (λ_ tk L=>Ab L (refs (tk 2)) (Bp p::rest))
theorem Vl{x:Pen}{s:St}{n:Nat}{kind:Str}(hk:sEqB kind "CHARACTERS"=false)(hx:x.Good)(hs:s.Inv n)(hn:n+10<=2 ^ 59):∃ s2 p,Ai9 x s n kind s2 p:=by
 obtain ⟨s1,bt,b1,b2,i1,hbd,hbl,hb⟩:=Ac4 hx hs (by omega)
 obtain ⟨s2,t1,o1,t2,o2,i2,ho1,ho2,hw,hl1,hl2,he⟩:=Ah9 hx i1 (by omega)
 have hlen:(t1++(w2 "BY"::(t2++bt))).length<=30:=by simp only [List.length_append,List.length_cons];omega
 refine ⟨s2,(t1++(w2 "BY"::(t2++bt)),rowD kind (some o1) o2 b1 b2),i2.le (by omega),Qm hk ho1 ho2 hw hbd,hlen,?_,?_⟩
 ·intro w b s' y af a kf left r rest hl hr q k t u tt bo to on ot c n
  have hb':∀ t u,OkF w b (Gp x s s1 t u b1.isSome b2.isSome) tT (BdG b1.isSome b2.isSome bt b1 b2):=λt u=>hb t u
  refine Afu (g1:=b1.isSome) (g2:=b2.isSome) (sl_adv hl λvt=>?_)
  rcases he with he|⟨rfl,rfl,he⟩
  ·have he':∀ t u,OkF w b (cExg x s1 s2 t u 7 6 exNo) tT (ExF t1 o1 t2 o2):=λt u=>he t u
   cases h1:b1.isSome<;>cases h2:b2.isSome<;>rw [h1,h2] at hb'
   ·exact Ls hk hb' hbl hl1 hl2 he' hr vt
   ·exact Ls hk hb' hbl hl1 hl2 he' hr vt
   ·exact Ls hk hb' hbl hl1 hl2 he' hr vt
   ·exact Ls hk hb' hbl hl1 hl2 he' hr vt
  ·have he':∀ t u,OkF w b (On x s1 s2 t u 4 4 exNo) tT (ExS t2 o2):=λt u=>he t u
   cases h1:b1.isSome<;>cases h2:b2.isSome<;>rw [h1,h2] at hb'
   ·exact Lr (t2:=[]) (o2:=o2) hk hb' hbl hl1 he' hr vt
   ·exact Lr (t2:=[]) (o2:=o2) hk hb' hbl hl1 he' hr vt
   ·exact Lr (t2:=[]) (o2:=o2) hk hb' hbl hl1 he' hr vt
   ·exact Lr (t2:=[]) (o2:=o2) hk hb' hbl hl1 he' hr vt
 ·intro w b s' y af a kf left r rest hl hr q t u
  have hb':∀ t u,OkF w b (Gp x s s1 t u b1.isSome b2.isSome) tT (BdG b1.isSome b2.isSome bt b1 b2):=λt u=>hb t u
  refine Afw (g1:=b1.isSome) (g2:=b2.isSome) (se_adv hl λvt=>?_)
  rcases he with he|⟨rfl,rfl,he⟩
  ·have he':∀ t u,OkF w b (cExg x s1 s2 t u 7 6 exNo) tT (ExF t1 o1 t2 o2):=λt u=>he t u
   cases h1:b1.isSome<;>cases h2:b2.isSome<;>rw [h1,h2] at hb'
   ·exact Lu hk hb' hbl hl1 hl2 he' hr vt
   ·exact Lu hk hb' hbl hl1 hl2 he' hr vt
   ·exact Lu hk hb' hbl hl1 hl2 he' hr vt
   ·exact Lu hk hb' hbl hl1 hl2 he' hr vt
  ·have he':∀ t u,OkF w b (On x s1 s2 t u 4 4 exNo) tT (ExS t2 o2):=λt u=>he t u
   cases h1:b1.isSome<;>cases h2:b2.isSome<;>rw [h1,h2] at hb'
   ·exact Lt (t2:=[]) (o2:=o2) hk hb' hbl hl1 he' hr vt
   ·exact Lt (t2:=[]) (o2:=o2) hk hb' hbl hl1 he' hr vt
   ·exact Lt (t2:=[]) (o2:=o2) hk hb' hbl hl1 he' hr vt
   ·exact Lt (t2:=[]) (o2:=o2) hk hb' hbl hl1 he' hr vt
theorem sl_all{x:Pen}{kind:Str}(hk:sEqB kind "CHARACTERS"=false)(hx:x.Good):∀ (m:Nat)(s:St)(n:Nat),s.Inv n->n+10 * m<=2 ^ 59->
  ∃ (s':St)(ps:List Part),s'.Inv (n+4 * m)/\ps.length=m/\(∀ p∈ps,Ff kind p.1 p.2/\p.1.length<=30)/\∀ {w:World}{b:B3}(y:SR)(a:Int)(q:SK)(k:Int)(t u tt bo to on ot c n:Nat),
   OkF w b (cSL Aa w.params x s s' t u y kind q (Ak a m) (a+m) k (if m=0 then k else a+m - 1) tt bo to on ot c n) (Fl c m) (Gy c (ps.map Bp)):=by
 intro m
 induction m with
 | zero=>
  intro s n hs hn
  refine ⟨s,[],hs,rfl,λ_ hp=>(nomatch hp),λ{w b} y a q k t u tt bo to on ot c n=>?_⟩
  have e:a+((0:Nat):Int)=a:=by omega
  rw [e,if_pos rfl]
  exact Aft y q a k t u tt bo to on ot c n
 | succ m ih=>
  intro s n hs hn
  obtain ⟨s2,p,T⟩:=Vl hk hx hs (by omega)
  obtain ⟨s',ps,h1,h2,h3,h4⟩:=ih s2 (n+4) T.inv (by omega)
  refine ⟨s',p::ps,h1.le (by omega),by simp [h2],λq hq=>?_,λ{w b} y a q k t u tt bo to on ot c n=>?_⟩
  ·rcases mcm hq with rfl|hq
   ·exact ⟨T.ok,T.len⟩
   ·exact h3 q hq
  ·refine T.sl (by omega) (λq t u tt bo to on ot c n=>?_) q k t u tt bo to on ot c n
   have z:=h4 (w:=w) (b:=b) y (a+1) q a t u tt bo to on ot c n
   have e1:((m+1:Nat):Int) - 1=(m:Int):=by omega
   have e2:a+1+(m:Int)=a+((m+1:Nat):Int):=by omega
   have e3:(if m=0 then a else a+1+(m:Int) - 1)=(if m+1=0 then k else a+((m+1:Nat):Int) - 1):=by
    rw [if_neg (Nat.succ_ne_zero m)]
    split<;>omega
   rw [e3,e2] at z
   rw [e1]
   exact z
theorem se_all{x:Pen}{kind:Str}(hk:sEqB kind "CHARACTERS"=false)(hx:x.Good)(m:Nat)(s:St)(n:Nat)(hs:s.Inv n)(hn:n+10 * (m+1)<=2 ^ 59)(hm:m+1<=5000) :
  ∃ (s':St)(ps:List Part),s'.Inv (n+4 * (m+1))/\ps.length=m+1/\(∀ p∈ps,Ff kind p.1 p.2/\p.1.length<=30)/\∀ {w:World}{b:B3}(y:SR)(q:SK)(t u:Nat),
   OkF w b (cSE Aa w.params x s s' t u y kind q (Ak 0 ((m+1:Nat):Int)) ((m+1:Nat):Int) m) tT (λ_ tk L=>Ab L (refs (tk 2)) (ps.map Bp)):=by
 obtain ⟨s2,p,T⟩:=Vl hk hx hs (by omega)
 obtain ⟨s',ps,h1,h2,h3,h4⟩:=sl_all hk hx m s2 (n+4) T.inv (by omega)
 refine ⟨s',p::ps,h1.le (by omega),by simp [h2],λq hq=>?_,λ{w b} y q t u=>?_⟩
 ·rcases mcm hq with rfl|hq
  ·exact ⟨T.ok,T.len⟩
  ·exact h3 q hq
 ·have z:=T.se (w:=w) (b:=b) (y:=y) (a:=0) (left:=((m+1:Nat):Int)) (s':=s') (af:=((m+1:Nat):Int)) (kf:=m) (r:=m) (rest:=ps.map Bp) (by omega) (λq t u tt bo to on ot c n=>?_) q t u
  ·intro A s R X q1 q2 q3 q4 q5 q6 q7 q8 _ q10
   exact z A s R X q1 q2 q3 q4 q5 q6 q7 q8 hm q10
  ·have z:=h4 (w:=w) (b:=b) y (0+1) q 0 t u tt bo to on ot c n
   have e1:((m+1:Nat):Int) - 1=(m:Int):=by omega
   have e2:(0:Int)+1+(m:Int)=((m+1:Nat):Int):=by omega
   have e3:(if m=0 then (0:Int) else ((m+1:Nat):Int) - 1)=(m:Int):=by
    split<;>omega
   rw [e2,e3] at z
   rw [e1]
   exact z
noncomputable def Ahh(x:Pen):Code:=.call (.ref 584) ⟨[.ref x.pl],[]⟩
noncomputable def loL:Code->Addr
 | .forLoop _ _ _ _ e=>e.locals
 | _=>0
noncomputable def itL:Code->Addr
 | .forLoop _ v _ _ _=>(match v with
  | .ref i=>i
  | _=>0)
 | _=>0
noncomputable def cSrt(x:Pen)(s s':St)(t u:Tok)(kind:Str):Con:=
 ⟨Ahh x,x.pre s t u,[(x.pl,λtk=>x.o s' (tk 0) (tk 1))],2,λnw tk=>[(nw 0,tupO [.str kind (tk 4),.ref (nw 1)]),(nw 1,Ac (refs (tk 2)) (tk 3))],5,λnw _=>.ok (.ret (.ref (nw 0))),90⟩

noncomputable def Aho(x:Pen)(s s':St)(t u:Tok)(g1 g2:Bool)(nt:Nat)(ex:(Nat->Addr)->(Nat->Tok)->List AO):Con:=
 ⟨Ahh x,x.pre s t u,[(x.pl,λtk=>x.o s' (tk 0) (tk 1))],6,λnw tk=>[(nw 0,tupO [.str "CHARACTERS" (tk 4),.ref (nw 1)]),(nw 1,Ac (refs (tk 2)) (tk 3)),(nw 2,tupO [.ref (nw 3),.ref (nw 4)]),(nw 3,Ac (refs (tk 5)) (tk 6)),(nw 4,tupO [.str "CHARACTERS" (tk 4),.none,.ref (nw 5),vB g1 (tk 7),vB g2 (tk 8)])]++ex nw tk,nt,λnw _=>.ok (.ret (.ref (nw 0))),90⟩
noncomputable def exZe(nw:Nat->Addr)(tk:Nat->Tok):List AO:=[(nw 5,tupO [.str "figure" (tk 9),.str "ZERO" (tk 10)])]
theorem Abs{cb c1 c2 cY cm d1 d2 c6:Nat}{pa:Addr}{v1 v2:Value}{mt bt:List T2}{b1 b2:Option Op}{X:List AO}{F P1 P2:List AO->Prop}(lm:mt.length<=3)(lb:bt.length<=20)
  (hm:∀ L L',P1 L->P2 L'->Ab (L++L') (refs cm) (mt.map tokD))
  (hF:∀ L L1,P1 L1->(∀ p∈L1,p∈L)->refs c6=[.ref pa]->Ab L (refs d2) ((w2 "BY"::(mt++bt)).map tokD)->DatV L v1 (optD b1)->DatV L v2 (optD b2)->F L) :
  Ch F [(λ_=>True,λL=>Ab L (refs cb) (bt.map tokD)/\DatV L v1 (optD b1)/\DatV L v2 (optD b2)),(λ_=>True,P1),(λ_=>True,P2),(λ_=>True,λL=>Ab L (refs cY) [tokD (w2 "BY")]),
   (λ_=>Bm cY cm,λL=>L=[]/\refs d1=refs cY++refs cm),(λ_=>Bm d1 cb,λL=>L=[]/\refs d2=refs d1++refs cb),(λ_=>True,λL=>L=[]/\refs c6=[Value.ref pa])] X []:=by
 refine cS trivial λL0 h0=>cS trivial λL1 h1=>cS trivial λL2 h2=>cS trivial λL3 h3=>?_
 obtain ⟨a1,a2,a3⟩:=h0
 have hm:=hm L1 L2 h1 h2
 have k1:=a1.get.1
 have k2:=hm.get.1
 have k3:=h3.get.1
 rw [List.length_map] at k1 k2
 simp only [List.length_cons,List.length_nil] at k3
 refine cS (by show _+_<=5000;omega) λL4 h4=>?_
 obtain ⟨rfl,h4⟩:=h4
 have q1:(refs d1).length<=4:=by rw [h4,List.length_append];omega
 refine cS (by show _+_<=5000;omega) λL5 h5=>?_
 obtain ⟨rfl,h5⟩:=h5
 refine cS trivial λL6 h6=>?_
 obtain ⟨rfl,h6⟩:=h6
 refine cZ (hF _ L1 h1 (λp hp=>by simp [hp]) h6 ?_ ?_ ?_)
 ·rw [h5,h4,List.map_cons,List.map_append]
  simp only [List.append_nil,List.nil_append]
  have hm':Ab (((L0++L1)++L2)++L3) (refs cm) (mt.map tokD):=hm.mono λp hp=>by
   rcases List.mem_append.mp hp with hp|hp<;>simp [hp]
  have z:=Ab.app (Ab.app (L:=((L0++L1)++L2)++L3) (Ab.right h3) hm') (Ab.left (Ab.left (Ab.left a1)))
  simpa only [List.append_assoc,List.cons_append,List.nil_append] using z
 ·simp only [List.append_nil,List.nil_append];exact DatV.left (DatV.left (DatV.left a2))
 ·simp only [List.append_nil,List.nil_append];exact DatV.left (DatV.left (DatV.left a3))

theorem Xj{x:Pen}{s:St}{t u:Tok}{n:Nat}(hx:x.Good)(hs:s.Inv n)(hn:n<=2 ^ 59)(h0:x.dig s 4=1)(h1:x.dig (x.nxt s 4) 3=0){s':St}{parts:List PyD}(hL:∀ y q t u,OkF w b (cSE Aa w.params x (x.nxt (x.nxt s 4) 3) s' t u y "ALL" q (Ak 0 1) 1 0) tT (λ_ tk L=>Ab L (refs (tk 2)) parts)):OkF w b (cSrt x s s' t u "ALL") tT (λnw tk L=>Ab L (refs (tk 2)) parts):=by
 let lZ:List (Fm w b):=[pl (cDrw x s (x.nxt s 4) 4 1 t u) λc=>h0▸Ah hx hs (by omega) Dp c,⟨λA T c=>.plain (cDrw x (x.nxt s 4) (x.nxt (x.nxt s 4) 3) 3 0 (T 9) (T 10) c),λ_ _ c=>h1▸Ah hx (Am hx hs Dp) (by omega) Ik c⟩,⟨λA T c=>.full (cSE Aa w.params x (x.nxt (x.nxt s 4) 3) s' (T 17) (T 18) ⟨loL c,itL c,(A 3)⟩ "ALL" ⟨(T 0),(T 13),(T 12),0,0,0,0,0,(T 2)⟩ (Ak 0 1) 1 0) tT (λ_ tk L=>Ab L (refs (tk 2)) parts),λ_ _ _=>hL _ _ _ _⟩,pl (cSEq "ALL" "CHARACTERS" false) (Bl (by decide))]
 refine oFX lZ (x.K s t u) 213 g31N [10,3] [23,24,25,26,2] (λal tk=>[(λ_=>True,λL=>Ab L (refs (tk (23+2))) parts)]) ?_ ?_ (λal tk X hX=>cS trivial λL h=>cZ h)<;>intros<;>kernel_rfl
theorem Xi{x:Pen}{s:St}{t u:Tok}{n:Nat}(hx:x.Good)(hs:s.Inv n)(hn:n<=2 ^ 59)(h0:x.dig s 4=1)(h1:x.dig (x.nxt s 4) 3=1){s':St}{parts:List PyD}(hL:∀ y q t u,OkF w b (cSE Aa w.params x (x.nxt (x.nxt s 4) 3) s' t u y "ALL" q (Ak 0 2) 2 1) tT (λ_ tk L=>Ab L (refs (tk 2)) parts)):OkF w b (cSrt x s s' t u "ALL") tT (λnw tk L=>Ab L (refs (tk 2)) parts):=by
 let lZ:List (Fm w b):=[pl (cDrw x s (x.nxt s 4) 4 1 t u) λc=>h0▸Ah hx hs (by omega) Dp c,⟨λA T c=>.plain (cDrw x (x.nxt s 4) (x.nxt (x.nxt s 4) 3) 3 1 (T 9) (T 10) c),λ_ _ c=>h1▸Ah hx (Am hx hs Dp) (by omega) Ik c⟩,⟨λA T c=>.full (cSE Aa w.params x (x.nxt (x.nxt s 4) 3) s' (T 17) (T 18) ⟨loL c,itL c,(A 3)⟩ "ALL" ⟨(T 0),(T 13),(T 12),0,0,0,0,0,(T 2)⟩ (Ak 0 2) 2 1) tT (λ_ tk L=>Ab L (refs (tk 2)) parts),λ_ _ _=>hL _ _ _ _⟩,pl (cSEq "ALL" "CHARACTERS" false) (Bl (by decide))]
 refine oFX lZ (x.K s t u) 213 g31N [10,3] [23,24,25,26,2] (λal tk=>[(λ_=>True,λL=>Ab L (refs (tk (23+2))) parts)]) ?_ ?_ (λal tk X hX=>cS trivial λL h=>cZ h)<;>intros<;>kernel_rfl
theorem Xh{x:Pen}{s:St}{t u:Tok}{n:Nat}(hx:x.Good)(hs:s.Inv n)(hn:n<=2 ^ 59)(h0:x.dig s 4=1)(h1:x.dig (x.nxt s 4) 3=2){s':St}{parts:List PyD}(hL:∀ y q t u,OkF w b (cSE Aa w.params x (x.nxt (x.nxt s 4) 3) s' t u y "ALL" q (Ak 0 3) 3 2) tT (λ_ tk L=>Ab L (refs (tk 2)) parts)):OkF w b (cSrt x s s' t u "ALL") tT (λnw tk L=>Ab L (refs (tk 2)) parts):=by
 let lZ:List (Fm w b):=[pl (cDrw x s (x.nxt s 4) 4 1 t u) λc=>h0▸Ah hx hs (by omega) Dp c,⟨λA T c=>.plain (cDrw x (x.nxt s 4) (x.nxt (x.nxt s 4) 3) 3 2 (T 9) (T 10) c),λ_ _ c=>h1▸Ah hx (Am hx hs Dp) (by omega) Ik c⟩,⟨λA T c=>.full (cSE Aa w.params x (x.nxt (x.nxt s 4) 3) s' (T 17) (T 18) ⟨loL c,itL c,(A 3)⟩ "ALL" ⟨(T 0),(T 13),(T 12),0,0,0,0,0,(T 2)⟩ (Ak 0 3) 3 2) tT (λ_ tk L=>Ab L (refs (tk 2)) parts),λ_ _ _=>hL _ _ _ _⟩,pl (cSEq "ALL" "CHARACTERS" false) (Bl (by decide))]
 refine oFX lZ (x.K s t u) 213 g31N [10,3] [23,24,25,26,2] (λal tk=>[(λ_=>True,λL=>Ab L (refs (tk (23+2))) parts)]) ?_ ?_ (λal tk X hX=>cS trivial λL h=>cZ h)<;>intros<;>kernel_rfl
theorem Nz{x:Pen}{s:St}{t u:Tok}{n:Nat}(hx:x.Good)(hs:s.Inv n)(hn:n<=2 ^ 59)(h0:x.dig s 4=2)(h1:x.dig (x.nxt s 4) 3=0){s':St}{parts:List PyD}(hL:∀ y q t u,OkF w b (cSE Aa w.params x (x.nxt (x.nxt s 4) 3) s' t u y "LEADING" q (Ak 0 1) 1 0) tT (λ_ tk L=>Ab L (refs (tk 2)) parts)):OkF w b (cSrt x s s' t u "LEADING") tT (λnw tk L=>Ab L (refs (tk 2)) parts):=by
 let lZ:List (Fm w b):=[pl (cDrw x s (x.nxt s 4) 4 2 t u) λc=>h0▸Ah hx hs (by omega) Dp c,⟨λA T c=>.plain (cDrw x (x.nxt s 4) (x.nxt (x.nxt s 4) 3) 3 0 (T 9) (T 10) c),λ_ _ c=>h1▸Ah hx (Am hx hs Dp) (by omega) Ik c⟩,⟨λA T c=>.full (cSE Aa w.params x (x.nxt (x.nxt s 4) 3) s' (T 17) (T 18) ⟨loL c,itL c,(A 3)⟩ "LEADING" ⟨(T 0),(T 13),(T 12),0,0,0,0,0,(T 3)⟩ (Ak 0 1) 1 0) tT (λ_ tk L=>Ab L (refs (tk 2)) parts),λ_ _ _=>hL _ _ _ _⟩,pl (cSEq "LEADING" "CHARACTERS" false) (Bl (by decide))]
 refine oFX lZ (x.K s t u) 213 g31N [10,3] [23,24,25,26,3] (λal tk=>[(λ_=>True,λL=>Ab L (refs (tk (23+2))) parts)]) ?_ ?_ (λal tk X hX=>cS trivial λL h=>cZ h)<;>intros<;>kernel_rfl
theorem Ny{x:Pen}{s:St}{t u:Tok}{n:Nat}(hx:x.Good)(hs:s.Inv n)(hn:n<=2 ^ 59)(h0:x.dig s 4=2)(h1:x.dig (x.nxt s 4) 3=1){s':St}{parts:List PyD}(hL:∀ y q t u,OkF w b (cSE Aa w.params x (x.nxt (x.nxt s 4) 3) s' t u y "LEADING" q (Ak 0 2) 2 1) tT (λ_ tk L=>Ab L (refs (tk 2)) parts)):OkF w b (cSrt x s s' t u "LEADING") tT (λnw tk L=>Ab L (refs (tk 2)) parts):=by
 let lZ:List (Fm w b):=[pl (cDrw x s (x.nxt s 4) 4 2 t u) λc=>h0▸Ah hx hs (by omega) Dp c,⟨λA T c=>.plain (cDrw x (x.nxt s 4) (x.nxt (x.nxt s 4) 3) 3 1 (T 9) (T 10) c),λ_ _ c=>h1▸Ah hx (Am hx hs Dp) (by omega) Ik c⟩,⟨λA T c=>.full (cSE Aa w.params x (x.nxt (x.nxt s 4) 3) s' (T 17) (T 18) ⟨loL c,itL c,(A 3)⟩ "LEADING" ⟨(T 0),(T 13),(T 12),0,0,0,0,0,(T 3)⟩ (Ak 0 2) 2 1) tT (λ_ tk L=>Ab L (refs (tk 2)) parts),λ_ _ _=>hL _ _ _ _⟩,pl (cSEq "LEADING" "CHARACTERS" false) (Bl (by decide))]
 refine oFX lZ (x.K s t u) 213 g31N [10,3] [23,24,25,26,3] (λal tk=>[(λ_=>True,λL=>Ab L (refs (tk (23+2))) parts)]) ?_ ?_ (λal tk X hX=>cS trivial λL h=>cZ h)<;>intros<;>kernel_rfl
theorem Nx{x:Pen}{s:St}{t u:Tok}{n:Nat}(hx:x.Good)(hs:s.Inv n)(hn:n<=2 ^ 59)(h0:x.dig s 4=2)(h1:x.dig (x.nxt s 4) 3=2){s':St}{parts:List PyD}(hL:∀ y q t u,OkF w b (cSE Aa w.params x (x.nxt (x.nxt s 4) 3) s' t u y "LEADING" q (Ak 0 3) 3 2) tT (λ_ tk L=>Ab L (refs (tk 2)) parts)):OkF w b (cSrt x s s' t u "LEADING") tT (λnw tk L=>Ab L (refs (tk 2)) parts):=by
 let lZ:List (Fm w b):=[pl (cDrw x s (x.nxt s 4) 4 2 t u) λc=>h0▸Ah hx hs (by omega) Dp c,⟨λA T c=>.plain (cDrw x (x.nxt s 4) (x.nxt (x.nxt s 4) 3) 3 2 (T 9) (T 10) c),λ_ _ c=>h1▸Ah hx (Am hx hs Dp) (by omega) Ik c⟩,⟨λA T c=>.full (cSE Aa w.params x (x.nxt (x.nxt s 4) 3) s' (T 17) (T 18) ⟨loL c,itL c,(A 3)⟩ "LEADING" ⟨(T 0),(T 13),(T 12),0,0,0,0,0,(T 3)⟩ (Ak 0 3) 3 2) tT (λ_ tk L=>Ab L (refs (tk 2)) parts),λ_ _ _=>hL _ _ _ _⟩,pl (cSEq "LEADING" "CHARACTERS" false) (Bl (by decide))]
 refine oFX lZ (x.K s t u) 213 g31N [10,3] [23,24,25,26,3] (λal tk=>[(λ_=>True,λL=>Ab L (refs (tk (23+2))) parts)]) ?_ ?_ (λal tk X hX=>cS trivial λL h=>cZ h)<;>intros<;>kernel_rfl
theorem Rz{x:Pen}{s:St}{t u:Tok}{n:Nat}(hx:x.Good)(hs:s.Inv n)(hn:n<=2 ^ 59)(h0:x.dig s 4=3)(h1:x.dig (x.nxt s 4) 3=0){s':St}{parts:List PyD}(hL:∀ y q t u,OkF w b (cSE Aa w.params x (x.nxt (x.nxt s 4) 3) s' t u y "FIRST" q (Ak 0 1) 1 0) tT (λ_ tk L=>Ab L (refs (tk 2)) parts)):OkF w b (cSrt x s s' t u "FIRST") tT (λnw tk L=>Ab L (refs (tk 2)) parts):=by
 let lZ:List (Fm w b):=[pl (cDrw x s (x.nxt s 4) 4 3 t u) λc=>h0▸Ah hx hs (by omega) Dp c,⟨λA T c=>.plain (cDrw x (x.nxt s 4) (x.nxt (x.nxt s 4) 3) 3 0 (T 9) (T 10) c),λ_ _ c=>h1▸Ah hx (Am hx hs Dp) (by omega) Ik c⟩,⟨λA T c=>.full (cSE Aa w.params x (x.nxt (x.nxt s 4) 3) s' (T 17) (T 18) ⟨loL c,itL c,(A 3)⟩ "FIRST" ⟨(T 0),(T 13),(T 12),0,0,0,0,0,(T 4)⟩ (Ak 0 1) 1 0) tT (λ_ tk L=>Ab L (refs (tk 2)) parts),λ_ _ _=>hL _ _ _ _⟩,pl (cSEq "FIRST" "CHARACTERS" false) (Bl (by decide))]
 refine oFX lZ (x.K s t u) 213 g31N [10,3] [23,24,25,26,4] (λal tk=>[(λ_=>True,λL=>Ab L (refs (tk (23+2))) parts)]) ?_ ?_ (λal tk X hX=>cS trivial λL h=>cZ h)<;>intros<;>kernel_rfl
theorem Ry{x:Pen}{s:St}{t u:Tok}{n:Nat}(hx:x.Good)(hs:s.Inv n)(hn:n<=2 ^ 59)(h0:x.dig s 4=3)(h1:x.dig (x.nxt s 4) 3=1){s':St}{parts:List PyD}(hL:∀ y q t u,OkF w b (cSE Aa w.params x (x.nxt (x.nxt s 4) 3) s' t u y "FIRST" q (Ak 0 2) 2 1) tT (λ_ tk L=>Ab L (refs (tk 2)) parts)):OkF w b (cSrt x s s' t u "FIRST") tT (λnw tk L=>Ab L (refs (tk 2)) parts):=by
 let lZ:List (Fm w b):=[pl (cDrw x s (x.nxt s 4) 4 3 t u) λc=>h0▸Ah hx hs (by omega) Dp c,⟨λA T c=>.plain (cDrw x (x.nxt s 4) (x.nxt (x.nxt s 4) 3) 3 1 (T 9) (T 10) c),λ_ _ c=>h1▸Ah hx (Am hx hs Dp) (by omega) Ik c⟩,⟨λA T c=>.full (cSE Aa w.params x (x.nxt (x.nxt s 4) 3) s' (T 17) (T 18) ⟨loL c,itL c,(A 3)⟩ "FIRST" ⟨(T 0),(T 13),(T 12),0,0,0,0,0,(T 4)⟩ (Ak 0 2) 2 1) tT (λ_ tk L=>Ab L (refs (tk 2)) parts),λ_ _ _=>hL _ _ _ _⟩,pl (cSEq "FIRST" "CHARACTERS" false) (Bl (by decide))]
 refine oFX lZ (x.K s t u) 213 g31N [10,3] [23,24,25,26,4] (λal tk=>[(λ_=>True,λL=>Ab L (refs (tk (23+2))) parts)]) ?_ ?_ (λal tk X hX=>cS trivial λL h=>cZ h)<;>intros<;>kernel_rfl
theorem Rx{x:Pen}{s:St}{t u:Tok}{n:Nat}(hx:x.Good)(hs:s.Inv n)(hn:n<=2 ^ 59)(h0:x.dig s 4=3)(h1:x.dig (x.nxt s 4) 3=2){s':St}{parts:List PyD}(hL:∀ y q t u,OkF w b (cSE Aa w.params x (x.nxt (x.nxt s 4) 3) s' t u y "FIRST" q (Ak 0 3) 3 2) tT (λ_ tk L=>Ab L (refs (tk 2)) parts)):OkF w b (cSrt x s s' t u "FIRST") tT (λnw tk L=>Ab L (refs (tk 2)) parts):=by
 let lZ:List (Fm w b):=[pl (cDrw x s (x.nxt s 4) 4 3 t u) λc=>h0▸Ah hx hs (by omega) Dp c,⟨λA T c=>.plain (cDrw x (x.nxt s 4) (x.nxt (x.nxt s 4) 3) 3 2 (T 9) (T 10) c),λ_ _ c=>h1▸Ah hx (Am hx hs Dp) (by omega) Ik c⟩,⟨λA T c=>.full (cSE Aa w.params x (x.nxt (x.nxt s 4) 3) s' (T 17) (T 18) ⟨loL c,itL c,(A 3)⟩ "FIRST" ⟨(T 0),(T 13),(T 12),0,0,0,0,0,(T 4)⟩ (Ak 0 3) 3 2) tT (λ_ tk L=>Ab L (refs (tk 2)) parts),λ_ _ _=>hL _ _ _ _⟩,pl (cSEq "FIRST" "CHARACTERS" false) (Bl (by decide))]
 refine oFX lZ (x.K s t u) 213 g31N [10,3] [23,24,25,26,4] (λal tk=>[(λ_=>True,λL=>Ab L (refs (tk (23+2))) parts)]) ?_ ?_ (λal tk X hX=>cS trivial λL h=>cZ h)<;>intros<;>kernel_rfl
theorem Qg{g1 g2:Bool}{x:Pen}{s:St}{t u:Tok}{n:Nat}(hx:x.Good)(hs:s.Inv n)(hn:n<=2 ^ 59)(h0:x.dig s 4=0){s1:St}{bt:List T2}{b1 b2:Option Op}{N:Nat}(hN:N<=2 ^ 59)(hs1:s1.Inv N)(lb:bt.length<=20)(hb:∀ t u,OkF w b (Gp x (x.nxt s 4) s1 t u g1 g2) tT (BdG g1 g2 bt b1 b2))(h1:x.dig s1 2=0):OkF w b (Aho x s (x.nxt s1 2) t u g1 g2 9 exNo) tT (λnw tk L=>refs (tk 2)=[.ref (nw 2)]/\Ab L (refs (tk 5)) ((w2 "BY"::([l2 "*"]++bt)).map tokD)/\DatV L (.ref (nw 5)) (Op.lit #[42]).dat/\DatV L (vB g1 (tk 7)) (optD b1)/\DatV L (vB g2 (tk 8)) (optD b2)):=by
 refine oFX [pl (cDrw x s (x.nxt s 4) 4 0 t u) λc=>h0▸Ah hx hs (by omega) Dp c,⟨λA T c=>.full (Gp x (x.nxt s 4) s1 (T 9) (T 10) g1 g2) tT (BdG g1 g2 bt b1 b2),λ_ _ _=>hb _ _⟩,⟨λA T c=>.plain (cDrw x s1 (x.nxt s1 2) 2 0 (T 20) (T 21) c),λ_ _ c=>h1▸Ah hx hs1 (by omega) Ck c⟩,Zc,Vf,Nw,xA 47 48 30 31,xA 49 50 22 23,xP0,pl (cSEq "CHARACTERS" "CHARACTERS" true) (Bl (by decide))] (x.K s t u) 525 0x41437808a184005659601601601b6ca44044045145d44044045145d75d40024144170900804a05b1c00175d75da65a65a0400480410010010012010400400400480410010010401c01c71c20020020825d85c40020020020000400010010000400400401800050004002d03d03d00400440410010010011010400400400440410010010400c00c30ca2ca0c028024a00100104104004004004104100100104100100104000000b200007207201001081040040040042041001001001081040040041001001041080080082083103080080080080001000040040001001001001000001001 [34,3,31,29,30,18] [41,42,55,56,1,51,52,24,25] (λal tk=>[(λ_=>True,λL=>Ab L (refs (tk (20+2))) (bt.map tokD)/\DatV L (vB g1 (tk (20+4))) (optD b1)/\DatV L (vB g2 (tk (20+5))) (optD b2)),eL (tk 30) [tokD (l2 "*")] (al (16+2)) #[42],eW (tk 33) [tokD (w2 "ZEROS")],eW (tk 47) [tokD (w2 "BY")],eA (tk 49) (tk 47) (tk 30),eA (tk 51) (tk 49) (tk (20+2)),(λ_=>True,λL=>L=[]/\refs (tk 55)=[Value.ref (al (32 - 1))])]) ?_ ?_ (λal tk X hX=>Abs (cb:=tk (20+2)) (c1:=0) (c2:=0) (cY:=tk 47) (cm:=(tk 30)) (d1:=tk 49) (d2:=tk 51) (c6:=tk 55) (pa:=al (32 - 1)) (v1:=vB g1 (tk (20+4))) (v2:=vB g2 (tk (20+5))) (mt:=[l2 "*"]) (bt:=bt) (b1:=b1) (b2:=b2) (by decide) lb (λL L' h h'=>h.1.left) (λL L1 h hs e1 e2 e3 e4=>⟨e1,e2,h.2.mono hs,e3,e4⟩))<;>dsimp only [fms,pl,fl]<;>refine gg2 g1 g2 ?_ ?_ ?_ ?_<;>intros<;>kernel_rfl
theorem Qf{g1 g2:Bool}{x:Pen}{s:St}{t u:Tok}{n:Nat}(hx:x.Good)(hs:s.Inv n)(hn:n<=2 ^ 59)(h0:x.dig s 4=0){s1:St}{bt:List T2}{b1 b2:Option Op}{N:Nat}(hN:N<=2 ^ 59)(hs1:s1.Inv N)(lb:bt.length<=20)(hb:∀ t u,OkF w b (Gp x (x.nxt s 4) s1 t u g1 g2) tT (BdG g1 g2 bt b1 b2))(h1:x.dig s1 2=1):OkF w b (Aho x s (x.nxt s1 2) t u g1 g2 11 exZe) tT (λnw tk L=>refs (tk 2)=[.ref (nw 2)]/\Ab L (refs (tk 5)) ((w2 "BY"::([w2 "ZEROS"]++bt)).map tokD)/\DatV L (vB g1 (tk 7)) (optD b1)/\DatV L (vB g2 (tk 8)) (optD b2)):=by
 refine oFX [pl (cDrw x s (x.nxt s 4) 4 0 t u) λc=>h0▸Ah hx hs (by omega) Dp c,⟨λA T c=>.full (Gp x (x.nxt s 4) s1 (T 9) (T 10) g1 g2) tT (BdG g1 g2 bt b1 b2),λ_ _ _=>hb _ _⟩,⟨λA T c=>.plain (cDrw x s1 (x.nxt s1 2) 2 1 (T 20) (T 21) c),λ_ _ c=>h1▸Ah hx hs1 (by omega) Ck c⟩,Zc,Vf,Nw,xA 47 48 33 34,xA 49 50 22 23,xP0,pl (cSEq "CHARACTERS" "CHARACTERS" true) (Bl (by decide))] (x.K s t u) 525 0x3841437808a184005659601601601b6ca44044045145d44044045145d75d40024144170800804905b1c00175d75da65a65a0400440410010010011010400400400440410010010400c00c30c20020020825d85c40020020020000400010010000400400401800050004002d03d03d00400440410010010011010400400400440410010010400c00c30ca2ca0c028024a00100104104004004004104100100104100100104000000b200007207201001081040040040042041001001001081040040041001001041080080082083103080080080080001000040040001001001001000001001 [34,3,31,29,30,20] [41,42,55,56,1,51,52,24,25,35,36] (λal tk=>[(λ_=>True,λL=>Ab L (refs (tk (20+2))) (bt.map tokD)/\DatV L (vB g1 (tk (20+4))) (optD b1)/\DatV L (vB g2 (tk (20+5))) (optD b2)),eL (tk 30) [tokD (l2 "*")] (al (16+2)) #[42],eW (tk 33) [tokD (w2 "ZEROS")],eW (tk 47) [tokD (w2 "BY")],eA (tk 49) (tk 47) (tk 33),eA (tk 51) (tk 49) (tk (20+2)),(λ_=>True,λL=>L=[]/\refs (tk 55)=[Value.ref (al (32 - 1))])]) ?_ ?_ (λal tk X hX=>Abs (cb:=tk (20+2)) (c1:=0) (c2:=0) (cY:=tk 47) (cm:=(tk 33)) (d1:=tk 49) (d2:=tk 51) (c6:=tk 55) (pa:=al (32 - 1)) (v1:=vB g1 (tk (20+4))) (v2:=vB g2 (tk (20+5))) (mt:=[w2 "ZEROS"]) (bt:=bt) (b1:=b1) (b2:=b2) (by decide) lb (λL L' h h'=>h'.right) (λL L1 h hs e1 e2 e3 e4=>⟨e1,e2,e3,e4⟩))<;>dsimp only [fms,pl,fl]<;>refine gg2 g1 g2 ?_ ?_ ?_ ?_<;>intros<;>kernel_rfl
noncomputable def Az(s:Cl):PyD:=.tup [.str s.1,.lst (s.2.map Bp)]
noncomputable def Il(x:Pen)(s s':St)(t u:Tok):Con:=
 ⟨Ahh x,x.pre s t u,[(x.pl,λtk=>x.o s' (tk 0) (tk 1))],1,λ_ _=>[],2,λnw _=>.ok (.ret (.ref (nw 0))),90⟩
section
variable {w:World}{b:B3}{x:Pen}{s s':St}{t u:Tok}{kind:Str}{ps:List Part}{g1 g2:Bool}{nt:Nat}{ex:(Nat->Addr)->(Nat->Tok)->List AO}
theorem Acz(h:OkF w b (cSrt x s s' t u kind) tT (λ_ tk L=>Ab L (refs (tk 2)) (ps.map Bp))):OkF w b (Il x s s' t u) tT (λnw _ L=>DatV L (.ref (nw 0)) (Az (kind,ps))):=by
 refine Ap h _ _ _ (λnw _=>nw) (λ_ tk=>tk) (λnw tk=>[(nw 0,tupO [.str kind (tk 4),.ref (nw 1)]),(nw 1,Ac (refs (tk 2)) (tk 3))]) rfl rfl (Nat.le_refl _) (λnw tk=>rfl) (λp hp=>?_) (λnw tk p hp=>.inl (upd1 rfl p hp)) (λ_ _=>rfl) (λ_ h=>h) λnw tk L hL=>?_
 ·rcases mcm hp with rfl|hp<;>first|exact .head _|cases hp
 ·exact .tup (.head _) (.cons .str (.cons (.lst (.tail _ (.head _)) hL.right) .nil))
theorem Ec{also0:AL}{toks:List T2}{ob:Op}{b1 b2:Option Op}(h:OkF w b (Aho x s s' t u g1 g2 nt ex) tT also0)
  (ha:∀ nw tk L,also0 nw tk L->refs (tk 2)=[.ref (nw 2)]/\Ab L (refs (tk 5)) (toks.map tokD)/\DatV (ex nw tk++L) (.ref (nw 5)) ob.dat/\DatV L (vB g1 (tk 7)) (optD b1)/\DatV L (vB g2 (tk 8)) (optD b2)) :
  OkF w b (Il x s s' t u) tT (λnw _ L=>DatV L (.ref (nw 0)) (Az ("CHARACTERS",[(toks,rowD "CHARACTERS" none ob b1 b2)]))):=by
 refine Ap h _ _ _ (λnw _=>nw) (λ_ tk=>tk) (λnw tk=>[(nw 0,tupO [.str "CHARACTERS" (tk 4),.ref (nw 1)]),(nw 1,Ac (refs (tk 2)) (tk 3)),(nw 2,tupO [.ref (nw 3),.ref (nw 4)]),(nw 3,Ac (refs (tk 5)) (tk 6)),(nw 4,tupO [.str "CHARACTERS" (tk 4),.none,.ref (nw 5),vB g1 (tk 7),vB g2 (tk 8)])]++ex nw tk) rfl rfl (Nat.le_refl _) (λnw tk=>rfl) (λp hp=>?_) (λnw tk p hp=>.inl (upd1 rfl p hp)) (λ_ _=>rfl) (λ_ h=>h) λnw tk L hL=>?_
 ·rcases mcm hp with rfl|hp<;>first|exact .head _|cases hp
 ·obtain ⟨e1,e2,e3,e4,e5⟩:=ha nw tk L hL
  have e3:DatV ((([(nw 0,tupO [.str "CHARACTERS" (tk 4),.ref (nw 1)]),(nw 1,Ac (refs (tk 2)) (tk 3)),(nw 2,tupO [.ref (nw 3),.ref (nw 4)]),(nw 3,Ac (refs (tk 5)) (tk 6)),(nw 4,tupO [.str "CHARACTERS" (tk 4),.none,.ref (nw 5),vB g1 (tk 7),vB g2 (tk 8)])]:List AO)++ex nw tk)++L) (.ref (nw 5)) ob.dat:=by
   rw [List.append_assoc];exact e3.right
  refine .tup (.head _) (.cons .str (.cons (.lst (.tail _ (.head _)) ?_) .nil))
  refine (λq=>by rw [←e1] at q;exact q) (.cons (.tup (.tail _ (.tail _ (.head _))) (.cons (.lst (.tail _ (.tail _ (.tail _ (.head _)))) e2.right) (.cons (.tup (.tail _ (.tail _ (.tail _ (.tail _ (.head _))))) (.cons .str (.cons .none (.cons e3 (.cons e4.right (.cons e5.right .nil)))))) .nil))) .nil:Ab ((([(nw 0,tupO [.str "CHARACTERS" (tk 4),.ref (nw 1)]),(nw 1,Ac (refs (tk 2)) (tk 3)),(nw 2,tupO [.ref (nw 3),.ref (nw 4)]),(nw 3,Ac (refs (tk 5)) (tk 6)),(nw 4,tupO [.str "CHARACTERS" (tk 4),.none,.ref (nw 5),vB g1 (tk 7),vB g2 (tk 8)])]:List AO)++ex nw tk)++L) [.ref (nw 2)] _)
end
structure Et (o:Cl):Prop where
 ok:Ps o.1 o.2
 len:∀ p∈o.2,p.1.length<=30
 few:o.2.length<=3
noncomputable def Nr(x:Pen)(s:St)(n:Nat):Prop:=∃ (s':St)(o:Cl),s'.Inv (n+14)/\Et o/\∀ {w:World}{b:B3} t u,OkF w b (Il x s s' t u) tT (λnw _ L=>DatV L (.ref (nw 0)) (Az o))
theorem Kk{x:Pen}{s:St}{n:Nat}{kind:Str}(hx:x.Good)(hs:s.Inv n)(hn:n+100<=2 ^ 59)(hk:sEqB kind "CHARACTERS"=false)(hk2:Pi kind)
  (h0:∀ (s':St)(parts:List PyD),x.dig (x.nxt s 4) 3=0->(∀ {w:World}{b:B3} y q t u,OkF w b (cSE Aa w.params x (x.nxt (x.nxt s 4) 3) s' t u y kind q (Ak 0 1) 1 0) tT (λ_ tk L=>Ab L (refs (tk 2)) parts))->∀ {w:World}{b:B3} t u,OkF w b (cSrt x s s' t u kind) tT (λnw tk L=>Ab L (refs (tk 2)) parts))
  (h1:∀ (s':St)(parts:List PyD),x.dig (x.nxt s 4) 3=1->(∀ {w:World}{b:B3} y q t u,OkF w b (cSE Aa w.params x (x.nxt (x.nxt s 4) 3) s' t u y kind q (Ak 0 2) 2 1) tT (λ_ tk L=>Ab L (refs (tk 2)) parts))->∀ {w:World}{b:B3} t u,OkF w b (cSrt x s s' t u kind) tT (λnw tk L=>Ab L (refs (tk 2)) parts))
  (h2:∀ (s':St)(parts:List PyD),x.dig (x.nxt s 4) 3=2->(∀ {w:World}{b:B3} y q t u,OkF w b (cSE Aa w.params x (x.nxt (x.nxt s 4) 3) s' t u y kind q (Ak 0 3) 3 2) tT (λ_ tk L=>Ab L (refs (tk 2)) parts))->∀ {w:World}{b:B3} t u,OkF w b (cSrt x s s' t u kind) tT (λnw tk L=>Ab L (refs (tk 2)) parts)) :
  Nr x s n:=by
 have i1:=Am hx hs Dp
 have i2:=Am hx i1 Ik
 have hb:=Ct (x:=x) (s:=x.nxt s 4) Ik
 have c0:x.dig (x.nxt s 4) 3=0\/x.dig (x.nxt s 4) 3=1\/x.dig (x.nxt s 4) 3=2:=by omega
 have key:∀ m,m<=2->(∀ (s':St)(parts:List PyD),(∀ {w:World}{b:B3} y q t u,OkF w b (cSE Aa w.params x (x.nxt (x.nxt s 4) 3) s' t u y kind q (Ak 0 ((m+1:Nat):Int)) ((m+1:Nat):Int) m) tT (λ_ tk L=>Ab L (refs (tk 2)) parts))->∀ {w:World}{b:B3} t u,OkF w b (cSrt x s s' t u kind) tT (λnw tk L=>Ab L (refs (tk 2)) parts))->Nr x s n:=by
  intro m hm h
  obtain ⟨s',ps,a1,a2,a3,a4⟩:=se_all hk hx m _ (n+1+1) i2 (by omega) (by omega)
  refine ⟨s',(kind,ps),a1.le (by omega),⟨⟨hk2,λz=>(by have z:ps=[]:=z;subst z;cases a2),λz=>(by rw [show sEqB (kind,ps).1 "CHARACTERS"=false from hk] at z;cases z),λp hp=>(a3 p hp).1⟩,λp hp=>(a3 p hp).2,by show ps.length<=3;omega⟩,λt u=>Acz (h s' _ (λ{w b} y q t u=>a4 y q t u) t u)⟩
 rcases c0 with z|z|z
 ·exact key 0 (by omega) λs' parts h=>h0 s' parts z h
 ·exact key 1 (by omega) λs' parts h=>h1 s' parts z h
 ·exact key 2 (by omega) λs' parts h=>h2 s' parts z h
theorem Mg{nw:Nat->Addr}{tk:Nat->Tok}{L:List AO}:DatV (exZe nw tk++L) (.ref (nw 5)) (Op.fig "ZERO").dat:=.tup (.head _) (.cons .str (.cons .str .nil))
theorem Acp:WOk none (.lit #[42]):=.none_one
theorem Afs{x:Pen}{s:St}{n:Nat}(hx:x.Good)(hs:s.Inv n)(hn:n+100<=2 ^ 59)(h0:x.dig s 4=0):Nr x s n:=by
 have i1:=Am hx hs Dp
 obtain ⟨s1,bt,b1,b2,i2,hbd,hbl,hb⟩:=Ac4 hx i1 (by omega)
 have i3:=Am hx i2 Ck
 have hd:=Ct (x:=x) (s:=s1) Ck
 have c0:x.dig s1 2=0\/x.dig s1 2=1:=by omega
 have mk:∀ {toks:List T2}{ob:Op},OpOk toks ob->WOk none ob->toks.length<=3->(∀ {w:World}{b:B3} t u,OkF w b (Il x s (x.nxt s1 2) t u) tT (λnw _ L=>DatV L (.ref (nw 0)) (Az ("CHARACTERS",[(w2 "BY"::(toks++bt),rowD "CHARACTERS" none ob b1 b2)]))))->Nr x s n:=by
  intro toks ob ho hw hl h
  refine ⟨x.nxt s1 2,("CHARACTERS",[(w2 "BY"::(toks++bt),rowD "CHARACTERS" none ob b1 b2)]),i3.le (by omega),⟨⟨.inl rfl,λz=>(nomatch z),λ_=>⟨_,rfl⟩,λp hp=>?_⟩,λp hp=>?_,by simp⟩,λt u=>h t u⟩
  ·rcases mcm hp with rfl|hp
   ·exact Aa9 (show sEqB "CHARACTERS" "CHARACTERS"=true by decide) ho hw hbd
   ·cases hp
  ·rcases mcm hp with rfl|hp
   ·simp only [List.length_cons,List.length_append];omega
   ·cases hp
 rcases c0 with z|z
 ·refine mk (Br Adi) Acp (by decide) λ{w b} t u=>?_
  have hb':∀ t u,OkF w b (Gp x (x.nxt s 4) s1 t u b1.isSome b2.isSome) tT (BdG b1.isSome b2.isSome bt b1 b2):=λt u=>hb t u
  cases h1:b1.isSome<;>cases h2:b2.isSome<;>rw [h1,h2] at hb'
  ·exact Ec (Qg hx hs (by omega) h0 (by omega) i2 hbl hb' z) λnw tk L hL=>⟨hL.1,hL.2.1,hL.2.2.1.right,hL.2.2.2.1,hL.2.2.2.2⟩
  ·exact Ec (Qg hx hs (by omega) h0 (by omega) i2 hbl hb' z) λnw tk L hL=>⟨hL.1,hL.2.1,hL.2.2.1.right,hL.2.2.2.1,hL.2.2.2.2⟩
  ·exact Ec (Qg hx hs (by omega) h0 (by omega) i2 hbl hb' z) λnw tk L hL=>⟨hL.1,hL.2.1,hL.2.2.1.right,hL.2.2.2.1,hL.2.2.2.2⟩
  ·exact Ec (Qg hx hs (by omega) h0 (by omega) i2 hbl hb' z) λnw tk L hL=>⟨hL.1,hL.2.1,hL.2.2.1.right,hL.2.2.2.1,hL.2.2.2.2⟩
 ·refine mk Adf .none_fig (by decide) λ{w b} t u=>?_
  have hb':∀ t u,OkF w b (Gp x (x.nxt s 4) s1 t u b1.isSome b2.isSome) tT (BdG b1.isSome b2.isSome bt b1 b2):=λt u=>hb t u
  cases h1:b1.isSome<;>cases h2:b2.isSome<;>rw [h1,h2] at hb'
  ·exact Ec (Qf hx hs (by omega) h0 (by omega) i2 hbl hb' z) λnw tk L hL=>⟨hL.1,hL.2.1,Mg,hL.2.2.1,hL.2.2.2⟩
  ·exact Ec (Qf hx hs (by omega) h0 (by omega) i2 hbl hb' z) λnw tk L hL=>⟨hL.1,hL.2.1,Mg,hL.2.2.1,hL.2.2.2⟩
  ·exact Ec (Qf hx hs (by omega) h0 (by omega) i2 hbl hb' z) λnw tk L hL=>⟨hL.1,hL.2.1,Mg,hL.2.2.1,hL.2.2.2⟩
  ·exact Ec (Qf hx hs (by omega) h0 (by omega) i2 hbl hb' z) λnw tk L hL=>⟨hL.1,hL.2.1,Mg,hL.2.2.1,hL.2.2.2⟩
theorem Qe{x:Pen}{s:St}{n:Nat}(hx:x.Good)(hs:s.Inv n)(hn:n+100<=2 ^ 59):Nr x s n:=by
 have hb:=Ct (x:=x) (s:=s) Dp
 have c0:x.dig s 4=0\/x.dig s 4=1\/x.dig s 4=2\/x.dig s 4=3:=by omega
 have hn':n<=2 ^ 59:=by omega
 rcases c0 with h0|h0|h0|h0
 ·exact Afs hx hs hn h0
 ·exact Kk hx hs hn (by decide) (.inr (.inl rfl)) (λs' parts z h {w b} t u=>Xj hx hs hn' h0 z λy q t u=>h y q t u) (λs' parts z h {w b} t u=>Xi hx hs hn' h0 z λy q t u=>h y q t u) (λs' parts z h {w b} t u=>Xh hx hs hn' h0 z λy q t u=>h y q t u)
 ·exact Kk hx hs hn (by decide) (.inr (.inr (.inl rfl))) (λs' parts z h {w b} t u=>Nz hx hs hn' h0 z λy q t u=>h y q t u) (λs' parts z h {w b} t u=>Ny hx hs hn' h0 z λy q t u=>h y q t u) (λs' parts z h {w b} t u=>Nx hx hs hn' h0 z λy q t u=>h y q t u)
 ·exact Kk hx hs hn (by decide) (.inr (.inr (.inr rfl))) (λs' parts z h {w b} t u=>Rz hx hs hn' h0 z λy q t u=>h y q t u) (λs' parts z h {w b} t u=>Ry hx hs hn' h0 z λy q t u=>h y q t u) (λs' parts z h {w b} t u=>Rx hx hs hn' h0 z λy q t u=>h y q t u)
noncomputable def Df(li l:Addr)(i n:Nat)(vs:List Value)(v:Value):Con:=
 ⟨.call (.builtin "list_iterator.__next__") ⟨[.ref li],[]⟩,[(li,Cd l i),(l,Ac vs n)],[(li,λ_=>Cd l (i+1))],0,λ_ _=>[],0,λ_ _=>.ok (.ret v),0⟩
noncomputable def stopO(t:Addr):Obj:={ cls:=.type "StopIteration",data:=.fields #[.ref t,.none,.none,.none,.bool false,.none] }
noncomputable def Lg(li l:Addr)(i n:Nat)(vs:List Value):Con:=
 ⟨.call (.builtin "list_iterator.__next__") ⟨[.ref li],[]⟩,[(li,Cd l i),(l,Ac vs n)],[(li,λ_=>Jw i)],2,λnw _=>[(nw 0,stopO (nw 1)),(nw 1,tupO [])],0,λnw _=>.error (.ref (nw 0)),0⟩
section
variable {w:World}{st:Nat->Option Obj}{li l:Addr}{i n:Nat}{vs:List Value}{v:Value}
theorem Bo(hv:vs[i]?=some v):(Df li l i n vs v).Valid w st:=by
 intro A s R hA hdep hst hpre hnod hR
 have h0:s.heap.get? li=some (Cd l i):=(hpre _ (.head _)).1
 have hl:s.heap.get? l=some (Ac vs n):=(hpre _ (.tail _ (.head _))).1
 have hv':vs.toArray[i]?=some v:=by simpa using hv
 have hT:s.TypeIs (.ref li) "list_iterator":=⟨_,h0,rfl⟩
 refine Bj slot_listiter_next hT entry_listiter_next (args_listiter_next _) ?_
 show wpAny _ _ (field (.ref li) 0 >>= _) _ _ s
 refine wpAny_bind (wpAny_field h0 rfl (x:=.ref l) rfl ?_)
 show wpAny _ _ (if (Value.ref l == Value.none)=true then _ else _) _ _ s
 rw [if_neg (show ¬ ((Value.ref l == Value.none)=true) from Bool.false_ne_true)]
 show wpAny _ _ (field (.ref li) 1 >>= _) _ _ s
 refine wpAny_bind (wpAny_field h0 rfl (x:=.int i 0) rfl ?_)
 show wpAny _ _ (seqItems? (.ref l) >>= _) _ _ s
 refine wpAny_bind (wpAny_seqItems hl rfl ?_)
 simp only [Int.toNat_natCast,hv']
 have e1:=Heap.get?_update_self (h:=s.heap) (a:=li) (o:=Cd l i) (Obj.mapFields λfs=>fs.setIfInBounds 1 (rawInt ((i:Int)+1))) h0 rfl
 refine wpAny_bind (wpAny_setField h0 rfl (by simp) (wpAny_pure ⟨v,rfl,hR (λ_=>0) (λ_=>0) _ s.toks (λb o eb=>?_) (λb o eb hb=>?_) (λp hp=>?_) (λ_ hp=>(nomatch hp)) List.nodup_nil⟩))
 ·by_cases z:b=li
  ·subst z;exact ⟨_,e1⟩
  ·exact ⟨o,(Heap.get?_update_other _ _ (Ne.symm z)).trans eb⟩
 ·exact (Heap.get?_update_other _ _ (hb (li,λ_=>Cd l (i+1)) (.head _))).trans eb
 ·rcases mcm hp with rfl|hp
  ·exact e1
  ·cases hp
theorem Gk(hv:vs.length<=i):(Lg li l i n vs).Valid w st:=by
 intro A s R hA hdep hst hpre hnod hR
 have h0:s.heap.get? li=some (Cd l i):=(hpre _ (.head _)).1
 have hl:s.heap.get? l=some (Ac vs n):=(hpre _ (.tail _ (.head _))).1
 have hv':vs.toArray[i]?=none:=by simpa using hv
 have hT:s.TypeIs (.ref li) "list_iterator":=⟨_,h0,rfl⟩
 refine Bj slot_listiter_next hT entry_listiter_next (args_listiter_next _) ?_
 show wpAny _ _ (field (.ref li) 0 >>= _) _ _ s
 refine wpAny_bind (wpAny_field h0 rfl (x:=.ref l) rfl ?_)
 show wpAny _ _ (if (Value.ref l == Value.none)=true then _ else _) _ _ s
 rw [if_neg (show ¬ ((Value.ref l == Value.none)=true) from Bool.false_ne_true)]
 show wpAny _ _ (field (.ref li) 1 >>= _) _ _ s
 refine wpAny_bind (wpAny_field h0 rfl (x:=.int i 0) rfl ?_)
 show wpAny _ _ (seqItems? (.ref l) >>= _) _ _ s
 refine wpAny_bind (wpAny_seqItems hl rfl ?_)
 simp only [Int.toNat_natCast,hv']
 refine wpAny_bind (wpAny_rule (wpAny_bind (wpAny_setField h0 rfl (by simp) ?_)))
 have e1:=Heap.get?_update_self (h:=s.heap) (a:=li) (o:=Cd l i) (Obj.mapFields λfs=>fs.setIfInBounds 0 Value.none) h0 rfl
 show wpAny _ _ (newExc (.type "StopIteration") [] >>= _) _ _ _
 refine wpAny_bind ?_
 simp only [newExc,newTuple]
 refine wpAny_bind (wpAny_newObj_type ?_ (by size_fits))
 refine wpAny_bind (m:=firstArgMember _ _) (wpAny_of_eq (a:=Value.none) (by first|rfl|(simp only [firstArgMember];rfl)) ?_)
 have own:ownMembersOf (.type "StopIteration") []=#[]:=by kernel_rfl
 rw [own,Array.append_empty]
 refine wpAny_newObj_type ?_ (by size_fits)
 simp only [raiseNew]
 refine wpAny_bind (wpAny_handled ?_)
 rw [show A.in1.handled=none from hA]
 refine wpAny_bind (wpAny_pure (wpAny_throw ?_))
 generalize hh:s.heap.update li (Obj.mapFields λfs=>fs.setIfInBounds 0 Value.none)=h1 at e1
 have hsz:h1.objs.size=s.heap.objs.size:=by rw [←hh];exact (Heap.SameBut.update (h:=s.heap) (a:=li) (f:=Obj.mapFields λfs=>fs.setIfInBounds 0 Value.none)).1
 have keep:∀ b o,s.heap.get? b=some o->b≠li->h1.get? b=some o:=λb o eb hb=>by rw [←hh];exact (Heap.get?_update_other _ _ (Ne.symm hb)).trans eb
 have none1:s.heap.get? h1.objs.size=none:=by rw [hsz];exact get?_size _
 have sz2:∀ o:Obj,(h1.push o).objs.size=h1.objs.size+1:=λo=>Heap.size_push ..
 have none2:∀ o:Obj,s.heap.get? (h1.push o).objs.size=none:=λo=>by
  cases q:s.heap.get? (h1.push o).objs.size with
  | none=>rfl
  | some o'=>exact absurd (Heap.lt_size q) (by rw [sz2,hsz];exact Nat.not_lt_of_le (Nat.le_succ _))
 have hlt:li < h1.objs.size:=Heap.lt_size e1
 let two':Nat->Addr:=two (h1.push (tupO [])).objs.size h1.objs.size
 refine hR two' (λ_=>0) _ s.toks (λb o eb=>?_) (λb o eb hb=>?_) (λp hp=>?_) (λp hp=>?_) ?_
 ·by_cases z:b=li
  ·subst z;exact ⟨_,Heap.get?_push_of_some _ (Heap.get?_push_of_some _ e1)⟩
  ·exact ⟨o,Heap.get?_push_of_some _ (Heap.get?_push_of_some _ (keep b o eb z))⟩
 ·exact Heap.get?_push_of_some _ (Heap.get?_push_of_some _ (keep b o eb λz=>hb (li,λ_=>Jw i) (.head _) z.symm))
 ·rcases mcm hp with rfl|hp
  ·exact Heap.get?_push_of_some _ (Heap.get?_push_of_some _ e1)
  ·cases hp
 ·have hp:p∈[((h1.push (tupO [])).objs.size,stopO h1.objs.size),(h1.objs.size,tupO [])]:=hp
  simp only [List.mem_cons,List.not_mem_nil,or_false] at hp
  rcases hp with rfl|rfl
  ·exact ⟨Heap.get?_push_size _ rfl,none2 _⟩
  ·exact ⟨Heap.get?_push_of_some _ (Heap.get?_push_size _ rfl),none1⟩
 ·show [(h1.push (tupO [])).objs.size,h1.objs.size].Nodup
  rw [sz2]
  simp
end

noncomputable def Mm:Value->Sem (Option Value):=ZFast.zw9404975358583537561
theorem Kh:Mm=pyNext:=by unfold Mm;rw [←ZFast.ze9404975358583537561]
noncomputable def Es(li:Addr)(i:Int)(old:Value):Obj:={ cls:=.type "enumerate",data:=.fields #[.none,.bool false,.ref li,rawInt i,.none,old] }
noncomputable def Ahb(a:Nat)(li:Addr)(i:Int)(old:Value):Obj:={ cls:=.type "enumerate",data:=.fields #[rawInt a,.bool false,.ref li,rawInt i,.none,old] }
noncomputable def lcOf:Option Stmt->Expr
 | some (.Return (some (.Call _ [e] _ _)) _)=>e
 | _=>default
noncomputable def Ags:Expr->Scope
 | .ListComp _ _ s _=>s
 | _=>default
noncomputable def Kx(st:Nat->Option Obj)(fn lo clo:Addr)(e:Expr):Env:=
 { scope:=Ags e,locals:=clo,globals:=(fdOf (st fn)).globals,cells:=[],qual:=(envF st fn lo).qual,func:=none,code:=(fdOf (st fn)).code,frame:=some lo,builtins:=(fdOf (st fn)).builtins }
noncomputable def Uk(it:Addr):Sem Fin:=R.bindR (Mm (.ref it)) λo=>match o with
 | some v=>.pure (.done (.ret v))
 | none=>.pure (.done .next)
noncomputable def Nj(e:Expr)(it acc v:Value)(env:Env):Sem Fin:=match e with
 | .ListComp elt [⟨target,_,_,_⟩] _ _=>R.bindR (Pv target env v) λ_=>R.bindR (Pu elt env) λx=>R.bindR (call (.builtin "list.append") [acc,x]) λ_=>.pure (.again (.compLoop e 0 it acc env))
 | _=>.pure (.done .next)
structure CR where
 lo:Addr
 clo:Addr
 it:Addr
 li:Addr
 l:Addr
 acc:Addr
structure CK where
 a1:Tok
 a2:Tok
 a3:Tok
noncomputable abbrev lcE(st:SP)(P:Params):Expr:=lcOf (Ae (st P 558))[0]?
noncomputable def coRL(st:SP)(P:Params)(y:CR):Code:=.compLoop (lcE st P) 0 (.ref y.it) (.ref y.acc) (Kx (st P) 558 y.lo y.clo (lcE st P))
noncomputable def cdO(P:Params)(q:CK)(j:Int)(jt:Tok)(kd:Str)(kt:Tok)(wo:Str)(wt:Tok)(n:Nat):Obj:=Dq [ent P "at" q.a1 (.int j jt),ent P "kind" q.a2 (.str kd kt),ent P "worth" q.a3 (.str wo wt)] n
noncomputable def Pl(y:CR)(j n:Nat)(old:Value)(vs:List Value):List AO:=[(y.it,Es y.li j old),(y.li,Cd y.l j),(y.l,Ac vs n)]
noncomputable abbrev enxK(y:CR)(j n:Nat)(old:Value)(vs:List Value):List Ent:=[⟨y.it,Es y.li j old,true,false⟩,⟨y.li,Cd y.l j,true,false⟩,⟨y.l,Ac vs n,false,false⟩]
noncomputable def cEnx(st:SP)(P:Params)(y:CR)(j n:Nat)(old v:Value)(vs:List Value):Con:=
 ⟨coRL st P y,Pl y j n old vs,[(y.it,λtk=>Ahb (tk 0) y.li ((j:Int)+1) v),(y.li,λ_=>Cd y.l (j+1))],1,λnw tk=>[(nw 0,tupO [.int j (tk 1),v])],2,λnw _=>.ok (.ret (.ref (nw 0))),30⟩
noncomputable def cEne(st:SP)(P:Params)(y:CR)(j n:Nat)(old:Value)(vs:List Value):Con:=
 ⟨coRL st P y,Pl y j n old vs,[(y.li,λ_=>Jw j)],0,λ_ _=>[],0,λ_ _=>.ok .next,30⟩

noncomputable def cRL(st:SP)(P:Params)(y:CR)(j jF:Nat)(o:Addr)(q:CK)(a aF:Int)(jt:Tok)(kd:Str)(kt:Tok)(wo:Str)(wt:Tok)(kF wF:Str)(c n cl nl:Nat):Con:=
 ⟨coRL st P y,Pl y j nl (.ref o) (refs cl)++[(y.clo,cdO P q a jt kd kt wo wt 3),(y.acc,Ac (refs c) n)],
  [(y.it,λtk=>Es y.li jF (.ref (tk 0))),(y.li,λ_=>Jw jF),(y.clo,λtk=>cdO P q aF (tk 1) kF (tk 2) wF (tk 3) 3),(y.acc,λtk=>Ac (refs (tk 4)) (tk 5))],0,λ_ _=>[],6,λ_ _=>.ok .next,60⟩
noncomputable def mkTk(nw:Nat->Addr)(tk:Nat->Tok)(kd:Str)(kt:Tok)(wo:Str)(wt:Tok):Tk:=⟨nw 0,nw 1,nw 2,kd,wo,tk 6,tk 7,tk 8,tk 9,kt,wt,4⟩
noncomputable def Rv(P:Params)(j:Nat)(kd:Str)(kt:Tok)(wo:Str)(wt:Tok)(nw:Nat->Addr)(tk:Nat->Tok):List AO:=[(nw 0,(mkTk nw tk kd kt wo wt).obj),(nw 1,(mkTk nw tk kd kt wo wt).dict P),(nw 2,tupO [.int ((j:Int)+1) (tk 10),.int 12 (tk 11)])]
noncomputable def Zi(y:CR)(j:Nat)(ia ta:Addr)(jt:Tok)(kd:Str)(kt:Tok)(wo:Str)(wt:Tok)(ao:Obj)(cl nl:Nat)(co:Obj):List AO:=Pl y (j+1) nl (.ref ia) (refs cl)++[(ta,tupO [.int j jt,.ref ia]),(y.clo,co),(y.acc,ao),(ia,tupO [.str kd kt,.str wo wt])]
noncomputable abbrev turnK(y:CR)(j:Nat)(ia ta:Addr)(jt:Tok)(kd:Str)(kt:Tok)(wo:Str)(wt:Tok)(ao:Obj)(cl nl:Nat)(co:Obj):List Ent:=enxK y (j+1) nl (.ref ia) (refs cl)++[⟨ta,tupO [.int j jt,.ref ia],false,false⟩,⟨y.clo,co,true,false⟩,⟨y.acc,ao,true,false⟩,⟨ia,tupO [.str kd kt,.str wo wt],false,false⟩]
noncomputable def cRT(st:SP)(P:Params)(y:CR)(j jF:Nat)(ia ta:Addr)(q:CK)(a aF:Int)(jt jt2:Tok)(kd:Str)(kt:Tok)(wo:Str)(wt:Tok)(kd2:Str)(kt2:Tok)(wo2:Str)(wt2:Tok)(kF wF:Str)(c n cl nl:Nat):Con:=
 ⟨coRL st P y,Zi y j ia ta jt2 kd2 kt2 wo2 wt2 (Ac (refs c) n) cl nl (cdO P q a jt kd kt wo wt 3),
  [(y.it,λtk=>Es y.li jF (.ref (tk 0))),(y.li,λ_=>Jw jF),(y.clo,λtk=>cdO P q aF (tk 1) kF (tk 2) wF (tk 3) 3),(y.acc,λtk=>Ac (refs (tk 4)) (tk 5))],3,Rv P j kd2 kt2 wo2 wt2,12,λ_ _=>.ok .next,60⟩
noncomputable def cRF1(st:SP)(P:Params)(y:CR)(j jF:Nat)(ia ta:Addr)(aF:Int)(jt2:Tok)(kd2:Str)(kt2:Tok)(wo2:Str)(wt2:Tok)(kF wF:Str)(cl nl:Nat):Con:=
 ⟨coRL st P y,Zi y j ia ta jt2 kd2 kt2 wo2 wt2 (Ac [] 0) cl nl (Dq [] 0),
  [(y.it,λtk=>Es y.li jF (.ref (tk 0))),(y.li,λ_=>Jw jF),(y.clo,λtk=>cdO P ⟨tk 12,tk 13,tk 14⟩ aF (tk 1) kF (tk 2) wF (tk 3) 3),(y.acc,λtk=>Ac (refs (tk 4)) (tk 5))],3,Rv P j kd2 kt2 wo2 wt2,15,λ_ _=>.ok .next,61⟩
noncomputable def Con.plus(x:Con)(B:List AO):Con:={ x with pre:=x.pre++B }
noncomputable def AtsL(L:List AO):Int->List Tk->Prop
 | _,[]=>True
 | j,k::ks=>(∃ t t',(k.ta,tupO [.int j t,.int 12 t'])∈L)/\AtsL L (j+1) ks
noncomputable abbrev Ke(P:Params)(j:Int)(pre:List Value)(ts:List T2):AL:=λ_ tk L=>∃ ks:List Tk,ks.map Tk.pw=ts/\refs (tk 4)=pre++ks.map (λk=>.ref k.a)/\(Do P ks).Sublist L/\AtsL L j ks
noncomputable abbrev Nq(P:Params)(j:Int)(pre:List Value)(ts:List T2):AL:=λnw tk L=>∃ ks:List Tk,ks.map Tk.pw=ts/\refs (tk 4)=pre++(.ref (nw 0)::ks.map (λk=>.ref k.a))/\(Do P ks).Sublist L/\AtsL L j ks
theorem Vm{P:Params}{c0 c1 c2 r:Nat}{pa:Addr}{j:Int}{ts:List T2}{pre:List Value}{X B:List AO}{F n1 P1 N:List AO->Prop}(hn:pre.length+(r+1)<=5000/\N (X++B))(h1:∀ X,n1 X)(hp1:∀ L,P1 L->L=[]/\refs c1=pre++[.ref pa])
  (hF:∀ L,(∃ ks:List Tk,ks.map Tk.pw=ts/\refs c2=pre++(.ref pa::ks.map (λk=>.ref k.a))/\(Do P ks).Sublist L/\AtsL L j ks)->F L) :
  Ch F [(n1,P1),(λX=>(refs c1).length+r<=5000/\N (X++B),λL=>∃ ks:List Tk,ks.map Tk.pw=ts/\refs c2=refs c1++ks.map (λk=>.ref k.a)/\(Do P ks).Sublist L/\AtsL L j ks)] X []:=by
 refine cS (h1 _) λL1 h=>?_
 obtain ⟨rfl,e1⟩:=hp1 L1 h
 obtain ⟨hn,hN⟩:=hn
 refine cS ⟨by rw [e1,List.length_append];simp only [List.length_cons,List.length_nil];omega,by rw [List.append_nil];exact hN⟩ λL2 h2=>cZ (hF _ ?_)
 obtain ⟨ks,a1,a2,a3,a4⟩:=h2
 exact ⟨ks,a1,by rw [a2,e1,List.append_assoc];rfl,by simpa using a3,by simpa using a4⟩

theorem enx_n{y:CR}{j n:Nat}{ia:Addr}{vs:List Value}(hv:vs[j]?=some (.ref ia)):OkT w b (cEnx Aa w.params y j n .none (.ref ia) vs) (Uk y.it) tT (λnw tk L=>tk 0=nw 0/\L=[]):=by
 let lZ:List (Fm w b):=[pl (λ_=>Df y.li y.l j n vs (.ref ia)) λ_=>Bo hv]
 refine oT lZ (enxK y j n .none vs) 37 g32N [0] [512,0] (λal tk=>[]) ?_ (λal tk X hX=>cZ ⟨rfl,rfl⟩)<;>intros<;>kernel_rfl
theorem enx_r{y:CR}{j n:Nat}{o:Addr}{ia:Addr}{vs:List Value}(hv:vs[j]?=some (.ref ia)):OkT w b (cEnx Aa w.params y j n (.ref o) (.ref ia) vs) (Uk y.it) tT (λnw tk L=>tk 0=nw 0/\L=[]):=by
 let lZ:List (Fm w b):=[pl (λ_=>Df y.li y.l j n vs (.ref ia)) λ_=>Bo hv]
 refine oT lZ (enxK y j n (.ref o) vs) 37 g32N [0] [512,0] (λal tk=>[]) ?_ (λal tk X hX=>cZ ⟨rfl,rfl⟩)<;>intros<;>kernel_rfl
theorem ene_r{y:CR}{j n:Nat}{o:Addr}{vs:List Value}(hv:vs.length<=j):OkT w b (cEne Aa w.params y j n (.ref o) vs) (Uk y.it) tT (λnw tk L=>L=[]):=by
 let lZ:List (Fm w b):=[pl (λ_=>Lg y.li y.l j n vs) λ_=>Gk hv]
 refine oT lZ ([⟨y.it,Es y.li j (.ref o),false,false⟩,⟨y.li,Cd y.l j,true,false⟩,⟨y.l,Ac vs n,false,false⟩]) 20 0xc2042042081001001 [] [] (λal tk=>[]) ?_ (λal tk X hX=>cZ rfl)<;>intros<;>kernel_rfl
theorem ctn_in{y:CR}{j jF n nl c cl r:Nat}{ia ta:Addr}{q:CK}{a aF:Int}{jt jt2 kt wt kt2 wt2:Tok}{kd wo kd2 wo2 kF wF:Str}{ts:List T2}{N:List AO->Prop}(hr:∀ q c n,OkF w b ((cRL Aa w.params y (j+1) jF ia q j aF jt2 kd2 kt2 wo2 wt2 kF wF c n cl nl).plus [(ia,tupO [.str kd2 kt2,.str wo2 wt2])]) (λX=>(refs c).length+r<=5000/\N (X++[(ia,tupO [.str kd2 kt2,.str wo2 wt2])])) (Ke w.params ((j:Int)+2) (refs c) ts)):OkT w b (cRT Aa w.params y j jF ia ta q a aF jt jt2 kd kt wo wt kd2 kt2 wo2 wt2 kF wF c n cl nl) (Nj (lcE Aa w.params) (.ref y.it) (.ref y.acc) (.ref ta) (Kx (Aa w.params) 558 y.lo y.clo (lcE Aa w.params))) (λX=>(refs c:List Value).length+(r+1)<=5000/\N (X++[(ia,tupO [.str kd2 kt2,.str wo2 wt2])])) (Nq w.params ((j:Int)+2) (refs c) ts):=by
 let lZ:List (Fm w b):=[pl (cIOp "int.__add__" (·+·)) λc=>Ef (Kf c),xP c n,⟨λA T cd=>.full ((cRL Aa w.params y (j+1) jF ia q j aF jt2 kd2 kt2 wo2 wt2 kF wF (T 19) (T 20) cl nl).plus [(ia,tupO [.str kd2 kt2,.str wo2 wt2])]) (λX=>(refs (T 19)).length+r<=5000/\N (X++[(ia,tupO [.str kd2 kt2,.str wo2 wt2])])) (Ke w.params ((j:Int)+2) (refs (T 19)) ts),λ_ _ cd=>hr _ _ _⟩]
 refine oTX lZ (turnK y j ia ta jt2 kd2 kt2 wo2 wt2 (Ac (refs c) n) cl nl (cdO w.params q a jt kd kt wo wt 3)) 329 g33N [8,7,6] [21,22,23,24,25,26,12,14,16,18,4,5] (λal tk=>[(λ_=>(refs c).length<=5000,λL=>L=[]/\refs (tk 19)=refs c++[Value.ref (al (10 - 2))]),(λX=>(refs (tk 19)).length+r<=5000/\N (X++[(ia,tupO [.str kd2 kt2,.str wo2 wt2])]),Ke w.params ((j:Int)+2) (refs (tk 19)) ts al (λz=>tk (21+z)))]) ?_ ?_ (λal tk X hX=>Vm (c0:=c) (c1:=tk 19) (c2:=tk (21+4)) (r:=r) (pa:=al (10 - 2)) (j:=(j:Int)+2) (ts:=ts) (pre:=refs c) (N:=N) (B:=[(ia,tupO [.str kd2 kt2,.str wo2 wt2])]) hX (λ_=>by have z:(refs c).length+(r+1)<=5000:=hX.1;show (refs c).length<=5000;omega) (λL h=>h) (λL h=>h))<;>intros<;>kernel_rfl
theorem ctn_en{y:CR}{j jF n nl c cl r:Nat}{ia ta:Addr}{q:CK}{a aF:Int}{jt jt2 kt wt kt2 wt2:Tok}{kd wo kd2 wo2 kF wF:Str}{ts:List T2}{N:List AO->Prop}(hr:∀ q c n,OkF w b ((cRL Aa w.params y (j+1) jF ia q j aF jt2 kd2 kt2 wo2 wt2 kF wF c n cl nl).plus [(ia,tupO [.str kd2 kt2,.str wo2 wt2])]) (λX=>(refs c).length+r<=5000/\N (X++[(ia,tupO [.str kd2 kt2,.str wo2 wt2])])) (Ke w.params ((j:Int)+2) (refs c) ts)):OkT w b (cRF1 Aa w.params y j jF ia ta aF jt2 kd2 kt2 wo2 wt2 kF wF cl nl) (Nj (lcE Aa w.params) (.ref y.it) (.ref y.acc) (.ref ta) (Kx (Aa w.params) 558 y.lo y.clo (lcE Aa w.params))) (λX=>([]:List Value).length+(r+1)<=5000/\N (X++[(ia,tupO [.str kd2 kt2,.str wo2 wt2])])) (Nq w.params ((j:Int)+2) ([]) ts):=by
 let lZ:List (Fm w b):=[pl (cIOp "int.__add__" (·+·)) λc=>Ef (Kf c),xP0,⟨λA T cd=>.full ((cRL Aa w.params y (j+1) jF ia ⟨(T 0),(T 1),(T 2)⟩ j aF jt2 kd2 kt2 wo2 wt2 kF wF (T 19) (T 20) cl nl).plus [(ia,tupO [.str kd2 kt2,.str wo2 wt2])]) (λX=>(refs (T 19)).length+r<=5000/\N (X++[(ia,tupO [.str kd2 kt2,.str wo2 wt2])])) (Ke w.params ((j:Int)+2) (refs (T 19)) ts),λ_ _ cd=>hr _ _ _⟩]
 refine oTX lZ (turnK y j ia ta jt2 kd2 kt2 wo2 wt2 (Ac [] 0) cl nl (Dq [] 0)) 329 g33N [8,7,6] [21,22,23,24,25,26,12,14,16,18,4,5,0,1,2] (λal tk=>[(λ_=>True,λL=>L=[]/\refs (tk 19)=[Value.ref (al (10 - 2))]),(λX=>(refs (tk 19)).length+r<=5000/\N (X++[(ia,tupO [.str kd2 kt2,.str wo2 wt2])]),Ke w.params ((j:Int)+2) (refs (tk 19)) ts al (λz=>tk (21+z)))]) ?_ ?_ (λal tk X hX=>Vm (c0:=c) (c1:=tk 19) (c2:=tk (21+4)) (r:=r) (pa:=al (10 - 2)) (j:=(j:Int)+2) (ts:=ts) (pre:=[]) (N:=N) (B:=[(ia,tupO [.str kd2 kt2,.str wo2 wt2])]) hX (λ_=>trivial) (λL h=>h) (λL h=>h))<;>intros<;>kernel_rfl
theorem Aca{w:World}{st:Nat->Option Obj}{c:Code}(n:Sem (Option Value))(T:Value->Sem Fin)
  (hT:∀ A s R₁,Room A 1->wpOwn (model prog w) A c n (λo s'=>match o with
   | none=>R₁ (.ok .next) s'
   | some v=>wpOwn (model prog w) A c (T v) (plus (postC prog w A (Gx R₁))) (postE (Gx R₁)) s') (λ_ _=>False) s->codeAny (model prog w) A c R₁ s)
  {C P:List AO} {ι:Type}(v:ι->Value)(C1 ex:ι->List AO)(D:Nat)(hC1:∀ i,(C1 i).map (·.1)=C.map (·.1))
  (hN:∀ (A:Around)(s:Shared)(Q:Option Value->Shared->Prop),A.handled=none->Room A D->Stat st s.heap->(∀ p∈C++P,s.heap.get? p.1=some p.2/\st p.1=none)->((C++P).map (·.1)).Nodup->
   (∀ (i:ι)(h':Heap)(t':Nat),Be s.heap h'->(∀ b o,s.heap.get? b=some o->(∀ p∈C,p.1≠b)->h'.get? b=some o)->(∀ p∈C1 i,h'.get? p.1=some p.2)->(∀ p∈ex i,h'.get? p.1=some p.2/\s.heap.get? p.1=none)->((ex i).map (·.1)).Nodup->Q (some (v i)) { s with heap:=h',toks:=t' })->
   wpOwn (model prog w) A c n Q (λ_ _=>False) s)
  (y:Con)(x:ι->Con){need:List AO->Prop}{also:AL}(hc:y.code=c)(hcx:∀ i,(x i).code=c)(hp:y.pre=C++P)(hpx:∀ i,(x i).pre.Perm (C1 i++(ex i++P)))(hu:∀ i,(x i).upd=y.upd)(hit:∀ p∈C,p.1∈y.upd.map (·.1))
  (hd:1<=y.deep)(hD:D<=y.deep)(hdx:∀ i,(x i).deep<=y.deep)(hn:∀ i,(x i).n=y.n)(hnt:∀ i,(x i).nt=y.nt)(hpost:∀ i,(x i).post=y.post)(hres:∀ i,(x i).res=y.res)(f:(Nat->Addr)->(Nat->Tok)->Flow)(hf:∀ nw tk,y.res nw tk=.ok (f nw tk))
  (hx:∀ i,Cm w st (x i) (T (v i)) need also):Ad w st y need also:=by
 intro A s R X hA hdep hst hpre hnod hX hXn hap hnd hR
 rw [hc]
 rw [hp] at hpre hnod hap
 have hCP:∀ p∈C,∀ q∈P,p.1≠q.1:=λp hm q hq z=>by
  rw [List.map_append,List.nodup_append] at hnod
  exact hnod.2.2 _ (List.mem_map_of_mem (f:=(·.1)) hm) _ (List.mem_map_of_mem (f:=(·.1)) hq) z
 have hCX:∀ p∈C,∀ q∈X,p.1≠q.1:=λp hm q hq=>hap p (mai (hm)) q hq
 have turn:∀ (i:ι)(h':Heap)(t':Nat),Be s.heap h'->(∀ b o,s.heap.get? b=some o->(∀ p∈C,p.1≠b)->h'.get? b=some o)->(∀ p∈C1 i,h'.get? p.1=some p.2)->(∀ p∈ex i,h'.get? p.1=some p.2/\s.heap.get? p.1=none)->((ex i).map (·.1)).Nodup->
   wpOwn (model prog w) A c (T (v i)) (plus (postC prog w A (Gx R))) (postE (Gx R)) { s with heap:=h',toks:=t' }:=by
  intro i h' t' hg e4 e1 e2 e3
  have stEx:∀ p∈ex i,st p.1=none:=λp hm=>by
   cases q:st p.1 with
   | none=>rfl
   | some o'=>have:=hst _ _ q;rw [(e2 p hm).2] at this;cases this
  have stC:∀ p∈C1 i,st p.1=none:=λp hm=>by
   have:p.1∈C.map (·.1):=by rw [←hC1 i];exact List.mem_map_of_mem hm
   obtain ⟨q,hq,z⟩:=mmp this
   rw [←z];exact (hpre q (mai (hq))).2
  have inC:∀ p∈C1 i,∃ q∈C,q.1=p.1:=λp hm=>by
   have:p.1∈C.map (·.1):=by rw [←hC1 i];exact List.mem_map_of_mem hm
   exact mmp this
  have z:=hx i A { s with heap:=h',toks:=t' } (Gx R) X hA (hdep.le (hdx i)) (λb o eb=>e4 b o (hst b o eb) λp hm z=>by
    have:=(hpre p (mai (hm))).2
    rw [z,eb] at this;cases this)
   (λp hm=>?_) ?_ (λp hm=>⟨e4 _ _ (hX p hm).1 λq hq=>hCX q hq p hm,(hX p hm).2⟩) hXn (λp hm q hq=>?_) hnd λnw tks h2 t2 L a1 a2 a3 a4 a5 a6=>?_
  ·rw [hcx i] at z;exact z
  ·rcases List.mem_append.mp ((hpx i).mem_iff.mp hm) with hm|hm
   ·exact ⟨e1 p hm,stC p hm⟩
   ·rcases List.mem_append.mp hm with hm|hm
    ·exact ⟨(e2 p hm).1,stEx p hm⟩
    ·have q:=hpre p (maj (hm))
     exact ⟨e4 _ _ q.1 λr hr=>hCP r hr p hm,q.2⟩
  ·refine ((hpx i).map (·.1)).nodup_iff.mpr ?_
   rw [List.map_append,List.map_append,hC1 i,List.nodup_append,List.nodup_append]
   rw [List.map_append,List.nodup_append] at hnod
   refine ⟨hnod.1,⟨e3,hnod.2.1,λa ha b hb z=>?_⟩,λa ha b hb z=>?_⟩
   ·obtain ⟨p,hm,rfl⟩:=mmp ha
    obtain ⟨q,hq,rfl⟩:=mmp hb
    have:=(e2 p hm).2
    rw [z,(hpre q (maj (hq))).1] at this;cases this
   ·obtain ⟨p,hm,rfl⟩:=mmp ha
    rcases List.mem_append.mp hb with hb|hb
    ·obtain ⟨q,hq,rfl⟩:=mmp hb
     have:=(e2 q hq).2
     rw [←z,(hpre p (mai (hm))).1] at this;cases this
    ·exact hnod.2.2 _ ha _ hb z
  ·rcases List.mem_append.mp ((hpx i).mem_iff.mp hm) with hm|hm
   ·obtain ⟨r,hr,z⟩:=inC p hm
    rw [←z];exact hCX r hr q hq
   ·rcases List.mem_append.mp hm with hm|hm
    ·intro z
     have:=(e2 p hm).2
     rw [z,(hX q hq).1] at this;cases this
    ·exact hap p (maj (hm)) q hq
  ·rw [hu i] at a2 a3
   rw [hnt i] at a3 a4 a5 a6 ⊢
   rw [hn i] at a4 a5 a6 ⊢
   rw [hpost i] at a4 a5
   rw [hres i]
   have q:=hR nw tks h2 t2 L (hg.trans a1) (λb o eb hb=>by
     refine a2 b o (e4 b o eb λp hm z=>?_) hb
     obtain ⟨r,hr,e⟩:=mmp (hit p hm)
     exact hb r hr (e.trans z)) a3 (λp hm=>⟨(a4 p hm).1,hg.none (a4 p hm).2⟩) a5 a6
   rw [hf] at q ⊢
   exact q
 exact hT A s R (hdep.le hd) (hN A s _ hA (hdep.le hD) hst hpre hnod λi h' t' q1 q2 q3 q4 q5=>turn i h' t' q1 q2 q3 q4 q5)
noncomputable def Mw(e:Expr)(it:Addr):Sem (Option Value):=match e with
 | .ListComp _ [⟨target,_,_,_⟩] _ _=>do
  match←pyNext (.ref it) with
  | none=>pure none
  | some v=>
   letOwnedTupleGo target (.ref it) v
   pure (some v)
 | _=>pure none
noncomputable def isLC(e:Expr):Prop:=∃ elt ts ctx tp iter scope pos,e=.ListComp elt [⟨.Tuple ts ctx tp,iter,[],0⟩] scope pos
theorem Ni{w:World}{e:Expr}{it:Addr}{acc:Value}{env:Env}(he:isLC e)(A:Around)(s:Shared)(R₁:Result->Shared->Prop)
  (h:wpOwn (model prog w) A (.compLoop e 0 (.ref it) acc env) (Mw e it) (λo s'=>match o with
   | none=>R₁ (.ok .next) s'
   | some v=>wpOwn (model prog w) A (.compLoop e 0 (.ref it) acc env) (Nj e (.ref it) acc v env) (plus (postC prog w A (Gx R₁))) (postE (Gx R₁)) s') (λ_ _=>False) s):codeAny (model prog w) A (.compLoop e 0 (.ref it) acc env) R₁ s:=by
 obtain ⟨elt,ts,ctx,tp,iter,scope,pos,rfl⟩:=he
 ·skip
  refine codeAny_of_own ?_
  intro Γ p hc hΓ
  have z:=h Γ iter.pos hc hΓ
  unfold Mw at z
  show Sem.wp (model prog w) Γ ((compTurn (.ListComp elt [⟨.Tuple ts ctx tp,iter,[],0⟩] scope pos) 0 (.ref it) acc env).onRaise (λx=>do noteFrame x env;theTreesLotGoes x)) _ _ p s
  rw [Sem.wp_onRaise,compTurn_list1]
  show Sem.wp (model prog w) Γ (pyNext (.ref it) >>= _) _ _ iter.pos s
  have z:Sem.wp (model prog w) Γ (pyNext (.ref it) >>= _) _ _ iter.pos s:=z
  rw [Sem.wp_bind'] at z ⊢
  refine Sem.wp_mono (model prog w) Γ _ (λo p s h=>?_) (λe p s h=>absurd h (by exact λz=>z)) _ _ z
  cases o with
  | none=>exact h
  | some v=>
   have h:Sem.wp (model prog w) Γ (letOwnedTupleGo (.Tuple ts ctx tp) (.ref it) v >>= λ_=>pure (some v)) _ _ p s:=h
   show Sem.wp (model prog w) Γ (letOwnedTupleGo (.Tuple ts ctx tp) (.ref it) v >>= _) _ _ p s
   rw [Sem.wp_bind'] at h ⊢
   refine Sem.wp_mono (model prog w) Γ _ (λ_ p s h=>?_) (λe p s h=>absurd h (by exact λz=>z)) _ _ h
   have h:=(show wpOwn (model prog w) A _ _ _ _ s from h) Γ p hc hΓ
   unfold Nj at h
   rw [Hx,Hw] at h
   simp only [←R.bindR_eq] at h
   have h:Sem.wp (model prog w) Γ (assign (.Tuple ts ctx tp) env v >>= _) _ _ p s:=h
   show Sem.wp (model prog w) Γ (assign (.Tuple ts ctx tp) env v >>= _) _ _ p s
   rw [Sem.wp_bind'] at h ⊢
   refine Sem.wp_mono (model prog w) Γ _ (λ_ p s h=>?_) (λe p s h=>absurd h (by exact λz=>z)) _ _ h
   have h:Sem.wp (model prog w) Γ (eval elt env >>= _) _ _ p s:=h
   show Sem.wp (model prog w) Γ ((eval elt env >>= _) >>= _) _ _ p s
   rw [Sem.wp_bind'] at h
   rw [Sem.wp_bind',Sem.wp_bind']
   refine Sem.wp_mono (model prog w) Γ _ (λx p s h=>?_) (λe p s h=>absurd h (by exact λz=>z)) _ _ h
   have h:Sem.wp (model prog w) Γ (call (.builtin "list.append") [acc,x] >>= _) _ _ p s:=h
   show Sem.wp (model prog w) Γ (call (.builtin "list.append") [acc,x] >>= _) _ _ p s
   rw [Sem.wp_bind'] at h ⊢
   refine Sem.wp_mono (model prog w) Γ _ (λx p s h=>?_) (λe p s h=>absurd h (by exact λz=>z)) _ _ h
   refine ⟨h.2.1,codeAny_mono h.2.2 λr s h=>?_⟩
   cases r with
   | ok f=>exact h
   | error e=>exact absurd h (by exact λz=>z)
section
variable {w:World}{st:Nat->Option Obj}{y:Con}{need M:List AO->Prop}{also:AL}{B:List AO}
theorem Gv(h:Ad w st y M also):Ad w st (y.plus B) (λX=>M (X++B)) also:=by
 intro A s R X hA hdep hst hpre hnod hX hXn hap hnd hR
 have hpre:∀ p∈y.pre++B,s.heap.get? p.1=some p.2/\st p.1=none:=hpre
 have hnod:((y.pre++B).map (·.1)).Nodup:=hnod
 have hap:∀ p∈y.pre++B,∀ q∈X,p.1≠q.1:=hap
 rw [List.map_append,List.nodup_append] at hnod
 refine h A s R (X++B) hA hdep hst (λp hp=>hpre p (mai (hp))) hnod.1 (λp hp=>?_) ?_ (λp hp q hq=>?_) hnd hR
 ·rcases List.mem_append.mp hp with hp|hp
  ·exact hX p hp
  ·exact hpre p (maj (hp))
 ·rw [List.map_append,List.nodup_append]
  refine ⟨hXn,hnod.2.1,λa ha b hb z=>?_⟩
  obtain ⟨p,hp,rfl⟩:=mmp ha
  obtain ⟨q,hq,rfl⟩:=mmp hb
  exact hap q (maj (hq)) p hp z.symm
 ·rcases List.mem_append.mp hq with hq|hq
  ·exact hap p (mai (hp)) q hq
  ·exact hnod.2.2 _ (List.mem_map_of_mem (f:=(·.1)) hp) _ (List.mem_map_of_mem (f:=(·.1)) hq)
theorem Aa6(h:Ad w st y M also):Ad w st (y.plus B) M also:=by
 intro A s R X hA hdep hst hpre hnod hX hXn hap hnd hR
 have hpre:∀ p∈y.pre++B,s.heap.get? p.1=some p.2/\st p.1=none:=hpre
 have hnod:((y.pre++B).map (·.1)).Nodup:=hnod
 have hap:∀ p∈y.pre++B,∀ q∈X,p.1≠q.1:=hap
 rw [List.map_append,List.nodup_append] at hnod
 exact h A s R X hA hdep hst (λp hp=>hpre p (mai (hp))) hnod.1 hX hXn (λp hp q hq=>hap p (mai (hp)) q hq) hnd hR
theorem hide(hM:∀ X Y,(∀ p∈X,p∈Y)->M X->M Y)(hB:(B.map (·.1)).Nodup)(h:Ad w st (y.plus B) (λX=>M (X++B)) also)(hn:∀ X,need X->(∀ p∈B,p∈X)/\M X):Ad w st y need also:=by
 intro A s R X hA hdep hst hpre hnod hX hXn hap hnd hR
 obtain ⟨h1,h2⟩:=hn X hnd
 let X':List AO:=X.filter λp=>!(B.map (·.1)).contains p.1
 have sub:∀ p∈X',p∈X:=λp hp=>(List.mem_filter.mp hp).1
 have out:∀ p∈X',∀ q∈B,q.1≠p.1:=λp hp q hq z=>by
  have:=(List.mem_filter.mp hp).2
  rw [Bool.not_eq_true',List.contains_eq_mem,decide_eq_false_iff_not] at this
  exact this (z▸List.mem_map_of_mem (f:=(·.1)) hq)
 have one:∀ (l:List AO),(l.map (·.1)).Nodup->∀ p∈l,∀ q∈l,p.1=q.1->p=q:=by
  intro l
  induction l with
  | nil=>intro _ p hp;cases hp
  | cons x r ih=>
   intro hl p hp q hq z
   rw [List.map_cons,List.nodup_cons] at hl
   rcases mcm hp with e1|hp1<;>rcases mcm hq with e2|hq1
   ·rw [e1,e2]
   ·exact absurd (by rw [←e1,z];exact List.mem_map_of_mem (f:=(·.1)) hq1) hl.1
   ·exact absurd (by rw [←e2,←z];exact List.mem_map_of_mem (f:=(·.1)) hp1) hl.1
   ·exact ih hl.2 p hp1 q hq1 z
 have key:∀ p∈X,p∈X'++B:=λp hp=>by
  by_cases z:p.1∈B.map (·.1)
  ·obtain ⟨q,hq,e⟩:=mmp z
   have:=one X hXn q (h1 q hq) p hp e
   exact maj ((this▸hq))
  ·refine mai ((List.mem_filter.mpr ⟨hp,?_⟩))
   rw [Bool.not_eq_true',List.contains_eq_mem,decide_eq_false_iff_not]
   exact z
 refine h A s R X' hA hdep hst (λp hp=>?_) ?_ (λp hp=>hX p (sub p hp)) (hXn.sublist ((List.filter_sublist).map _)) (λp hp q hq=>?_) (hM X _ key h2) hR
 ·rcases List.mem_append.mp (show p∈y.pre++B from hp) with hp|hp
  ·exact hpre p hp
  ·exact hX p (h1 p hp)
 ·show ((y.pre++B).map (·.1)).Nodup
  rw [List.map_append,List.nodup_append]
  refine ⟨hnod,hB,λa ha b hb z=>?_⟩
  obtain ⟨p,hp,rfl⟩:=mmp ha
  obtain ⟨q,hq,rfl⟩:=mmp hb
  exact hap p hp q (h1 q hq) z
 ·rcases List.mem_append.mp (show p∈y.pre++B from hp) with hp|hp
  ·exact hap p hp q (sub q hq)
  ·exact out q hq p hp
theorem Ji(h:∀ X,need X->∃ need',need' X/\Ad w st y need' also):Ad w st y need also:=by
 intro A s R X hA hdep hst hpre hnod hX hXn hap hnd hR
 obtain ⟨n',a1,a2⟩:=h X hnd
 exact a2 A s R X hA hdep hst hpre hnod hX hXn hap a1 hR
end
theorem Sr(P:Params):isLC (lcE Aa P):=⟨_,_,_,_,_,_,_,rfl⟩
section
variable {w:World}{st:Nat->Option Obj}
theorem Aam{A:Around}{c:Code}{it:Addr}{R₁:Result->Shared->Prop}{Q:Option Value->Shared->Prop}{s:Shared}(h:wpOwn (model prog w) A c (Uk it) (plus (postC prog w A R₁)) (postE R₁) s)
  (hs:∀ v s',R₁ (.ok (.ret v)) s'->Q (some v) s')(hn:∀ s',R₁ (.ok .next) s'->Q none s')(he:∀ e s',¬ R₁ (.error e) s'):wpOwn (model prog w) A c (pyNext (.ref it)) Q (λ_ _=>False) s:=by
 intro Γ p hc hΓ
 have z:=h Γ p hc hΓ
 unfold Uk at z
 rw [Kh,←R.bindR_eq] at z
 have z:Sem.wp (model prog w) Γ (pyNext (.ref it) >>= _) _ _ p s:=z
 rw [Sem.wp_bind'] at z
 refine Sem.wp_mono (model prog w) Γ _ (λo p s h=>?_) (λe p s h=>he e s h) _ _ z
 cases o with
 | none=>exact hn s h.2
 | some v=>exact hs v s h.2
theorem So{A:Around}{c:Code}{e:Expr}{it:Addr}{Q:Option Value->Shared->Prop}{s:Shared}(he:isLC e)
  (h:wpOwn (model prog w) A c (pyNext (.ref it)) (λo s'=>match o with
   | none=>Q none s'
   | some v=>∀ B:Around,wpAny (model prog w) B (letOwnedTupleGo (.Tuple [] default default) (.ref it) v) (λ_ s2=>Q (some v) s2) (λ_ _=>False) s') (λ_ _=>False) s):wpOwn (model prog w) A c (Mw e it) Q (λ_ _=>False) s:=by
 obtain ⟨elt,ts,ctx,tp,iter,scope,pos,rfl⟩:=he
 ·skip
  unfold Mw
  refine wpOwn_bind (wpOwn_mono h (λo s' h=>?_) λ_ _ h=>h)
  cases o with
  | none=>exact wpOwn_of_wpAny (wpAny_pure h)
  | some v=>
   refine wpOwn_of_wpAny ?_
   exact wpAny_bind (wpAny_mono (h (A.under c)) (λ_ s2 h=>wpAny_pure h) λ_ _ h=>h)
theorem Ta{y:CR}{j nl:Nat}{old v:Value}{vs:List Value}{P':List AO}{stz:SP}{P:Params}{e:Expr}(he:isLC e)(hx:Cm w st (cEnx stz P y j nl old v vs) (Uk y.it) tT (λnw tk L=>tk 0=nw 0/\L=[]))
  (A:Around)(s:Shared)(Q:Option Value->Shared->Prop)(hA:A.handled=none)(hdep:Room A 30)(hst:Stat st s.heap)(hpre:∀ p∈[(y.it,Es y.li j old),(y.li,Cd y.l j)]++((y.l,Ac vs nl)::P'),s.heap.get? p.1=some p.2/\st p.1=none)
  (hnod:(([(y.it,Es y.li j old),(y.li,Cd y.l j)]++((y.l,Ac vs nl)::P')).map (·.1)).Nodup)
  (hQ:∀ (i:Addr × Tok)(h':Heap)(t':Nat),Be s.heap h'->(∀ b o,s.heap.get? b=some o->(∀ p∈[(y.it,Es y.li j old),(y.li,Cd y.l j)],p.1≠b)->h'.get? b=some o)->(∀ p∈[(y.it,Es y.li ((j+1:Nat):Int) v),(y.li,Cd y.l (j+1))],h'.get? p.1=some p.2)->
   (∀ p∈[(i.1,tupO [.int j i.2,v])],h'.get? p.1=some p.2/\s.heap.get? p.1=none)->(([(i.1,tupO [.int j i.2,v])]:List AO).map (·.1)).Nodup->Q (some (.ref i.1)) { s with heap:=h',toks:=t' }) :
  wpOwn (model prog w) A (coRL stz P y) (Mw e y.it) Q (λ_ _=>False) s:=by
 have hne:y.it≠y.li:=by
  have hnod:(y.it::y.li::_).Nodup:=hnod
  rw [List.nodup_cons] at hnod
  exact λz=>hnod.1 (z▸.head _)
 have hnod3:((Pl y j nl old vs).map (·.1)).Nodup:=by
  have hnod:(y.it::y.li::y.l::P'.map (·.1)).Nodup:=hnod
  exact hnod.sublist (.cons_cons _ (.cons_cons _ (.cons_cons _ (List.nil_sublist _))))
 have z:=hx A s (λr s'=>match r with
  | .ok (.ret v')=>∀ B:Around,wpAny (model prog w) B (letOwnedTupleGo (.Tuple [] default default) (.ref y.it) v') (λ_ s2=>Q (some v') s2) (λ_ _=>False) s'
  | _=>False) [] hA hdep hst (λp hp=>hpre p (by
   rcases mcm hp with rfl|hp
   ·exact .head _
   ·rcases mcm hp with rfl|hp
    ·exact .tail _ (.head _)
    ·rcases mcm hp with rfl|hp
     ·exact .tail _ (.tail _ (.head _))
     ·cases hp)) hnod3 (λ_ hp=>(nomatch hp)) List.nodup_nil (λ_ _ _ hq=>(nomatch hq)) trivial λnw tk h' t' L a1 a2 a3 a4 a5 a6=>?_
 ·exact So he (Aam z (λv s' h=>h) (λs' h=>absurd h (by exact λz=>z)) (λe s' h=>h))
 ·obtain ⟨e0,rfl⟩:=a6
  have e0:tk 0=nw 0:=e0
  intro B
  have b1:h'.get? y.it=some (Ahb (nw 0) y.li ((j:Int)+1) v):=by
   have:=a3 (y.it,Ahb (tk 0) y.li ((j:Int)+1) v) (.head _)
   rw [e0] at this;exact this
  have b2:h'.get? y.li=some (Cd y.l (j+1)):=a3 (y.li,_) (.tail _ (.head _))
  have b3:=a4 (nw 0,tupO [.int j (tk 1),v]) (.head _)
  show wpAny (model prog w) B (load y.it >>= _) _ _ _
  refine wpAny_bind (wpAny_load b1 ?_)
  have hcond:(["enumerate","zip","dict_itemiterator","dict_reverseitemiterator","odict_iterator","itertools.zip_longest","itertools.pairwise"].contains "enumerate" && (#[rawInt (nw 0:Nat),.bool false,.ref y.li,rawInt ((j:Int)+1),.none,v]:Array Value)[0]? == some (rawInt (nw 0:Nat)))=true:=by
   rw [Bool.and_eq_true]
   refine ⟨by decide,?_⟩
   show (some (rawInt (nw 0:Nat)) == some (rawInt (nw 0:Nat)))=true
   exact beq_self_eq_true _
  show wpAny (model prog w) B (if (["enumerate","zip","dict_itemiterator","dict_reverseitemiterator","odict_iterator","itertools.zip_longest","itertools.pairwise"].contains "enumerate" && (#[rawInt (nw 0:Nat),.bool false,.ref y.li,rawInt ((j:Int)+1),.none,v]:Array Value)[0]? == some (rawInt (nw 0:Nat)))=true then _ else _) _ _ _
  rw [if_pos hcond]
  refine wpAny_bind (wpAny_rule ?_)
  refine wpAny_setField (a:=y.it) b1 rfl (i:=0) (by simp) ?_
  have g1:(h'.update y.it (Obj.mapFields (·.setIfInBounds 0 Value.none))).get? y.it=some (Es y.li ((j+1:Nat):Int) v):=Heap.get?_update_self _ b1 rfl
  have g2:∀ b,b≠y.it->(h'.update y.it (Obj.mapFields (·.setIfInBounds 0 Value.none))).get? b=h'.get? b:=λb hb=>Heap.get?_update_other _ _ (Ne.symm hb)
  have hta:nw 0≠y.it:=λz=>by
   have:=(hpre (y.it,Es y.li j old) (.head _)).1
   rw [←z] at this
   have q:=b3.2
   rw [show (nw 0,tupO [Value.int j (tk 1),v]).1=nw 0 from rfl] at q
   rw [q] at this;cases this
  refine hQ (nw 0,tk 1) _ t' (λb o eb=>?_) (λb o eb hb=>?_) (λp hp=>?_) (λp hp=>?_) (by simp)
  ·by_cases z:b=y.it
   ·subst z;exact ⟨_,g1⟩
   ·obtain ⟨o',eo⟩:=a1 b o eb
    exact ⟨o',(g2 b z).trans eo⟩
  ·have z:b≠y.it:=λz=>hb (y.it,Es y.li j old) (.head _) z.symm
   refine (g2 b z).trans (a2 b o eb λp hp=>?_)
   rcases mcm hp with rfl|hp
   ·exact λq=>z q.symm
   ·rcases mcm hp with rfl|hp
    ·exact hb (y.li,Cd y.l j) (.tail _ (.head _))
    ·cases hp
  ·rcases mcm hp with rfl|hp
   ·exact g1
   ·rcases mcm hp with rfl|hp
    ·exact (g2 _ (Ne.symm hne)).trans b2
    ·cases hp
  ·rcases mcm hp with rfl|hp
   ·exact ⟨(g2 _ hta).trans b3.1,b3.2⟩
   ·cases hp
theorem Abp{x:Con}{y:CR}{stz:SP}{P:Params}{need:List AO->Prop}{also:AL}(he:isLC (lcE stz P))(hc:x.code=coRL stz P y)(hr:∀ nw tk,x.res nw tk=.ok .next)(hd:1<=x.deep)
  (hx:Cm w st x (Uk y.it) need also):Ad w st x need also:=by
 intro A s R X hA hdep hst hpre hnod hX hXn hap hnd hR
 rw [hc]
 refine Ni he A s R ?_
 have z:=hx A s (λr s'=>match r with
  | .ok .next=>R (.ok .next) s'
  | _=>False) X hA hdep hst hpre hnod hX hXn hap hnd λnw tk h' t' L a1 a2 a3 a4 a5 a6=>?_
 ·rw [hc] at z
  refine So he (Aam z (λv s' h=>absurd h (by exact λz=>z)) (λs' h=>h) (λe s' h=>h))
 ·have:=hR nw tk h' t' L a1 a2 a3 a4 a5 a6
  rw [hr] at this ⊢
  exact this
end
noncomputable def Dy(t:T2):List T2->T2
 | []=>t
 | t::ts=>Dy t ts
theorem AtsL.mono{L L':List AO}(h:∀ p∈L,p∈L'):∀ {j:Int}{ks:List Tk},AtsL L j ks->AtsL L' j ks
 | _,[],_=>trivial
 | _,_::_,⟨⟨t,t',e⟩,r⟩=>⟨⟨t,t',h _ e⟩,AtsL.mono h r⟩
theorem Ab0{X:List AO}{vs:List Value}{j:Nat}{t:T2}{ts:List T2}(h:Ab X (vs.drop j) ((t::ts).map tokD)):∃ ia kt wt,vs[j]?=some (.ref ia)/\(ia,tupO [.str t.1 kt,.str t.2 wt])∈X/\Ab X (vs.drop (j+1)) (ts.map tokD):=by
 have h:Ab X (vs.drop j) (tokD t::ts.map tokD):=h
 cases hv:vs.drop j with
 | nil=>rw [hv] at h;cases h
 | cons v r=>
  rw [hv] at h
  cases h with
  | cons hd hr=>
   have e1:vs[j]?=some v:=by
    have:(vs.drop j)[0]?=some v:=by rw [hv];rfl
    rwa [List.getElem?_drop,Nat.add_zero] at this
   have e2:vs.drop (j+1)=r:=by rw [←List.drop_drop,hv];rfl
   unfold tokD at hd
   cases hd with
   | tup hm hl=>
    cases hl with
    | cons h1 hl=>
     cases h1
     cases hl with
     | cons h2 hl=>
      cases h2
      cases hl
      exact ⟨_,_,_,e1,hm,e2▸hr⟩
noncomputable abbrev Ago(cl j:Nat)(ts:List T2)(c:Nat):List AO->Prop:=λX=>(refs c).length+ts.length<=5000/\Ab X ((refs cl).drop j) (ts.map tokD)
section
variable {w:World}{b:B3}
theorem Afz(y:CR)(j:Nat)(o:Addr)(q:CK)(a:Int)(jt:Tok)(kd:Str)(kt:Tok)(wo:Str)(wt:Tok)(c n cl nl:Nat)(hl:(refs cl).length<=j) :
  OkF w b (cRL Aa w.params y j j o q a a jt kd kt wo wt kd wo c n cl nl) tT (Ke w.params ((j:Int)+1) (refs c) []):=by
 let Bx:List AO:=[(y.clo,cdO w.params q a jt kd kt wo wt 3),(y.acc,Ac (refs c) n)]
 have h:OkF w b (cEne Aa w.params y j nl (.ref o) (refs cl)) tT nL:=Abp (stz:=Aa) (P:=w.params) (Sr _) rfl (λ_ _=>rfl) (by show 1<=30;decide) (ene_r hl)
 refine Ie (Aa6 (B:=Bx) h) _ _ _ (λnw _=>nw) (λ_ _=>Agi o jt kt wt c n) (λ_ _=>[]) rfl rfl (by show 30<=60;decide) (λ_ _=>rfl) (λp hp=>?_) (λhnod nw tk p hp=>?_) (λ_ _=>rfl) (λ_ _=>trivial) λnw tk L hL=>⟨[],rfl,(List.append_nil _).symm,List.nil_sublist _,trivial⟩
 ·rcases mcm hp with rfl|hp
  ·exact .tail _ (.head _)
  ·cases hp
 ·have hnod:[y.it,y.li,y.l,y.clo,y.acc].Nodup:=hnod
  simp only [List.nodup_cons,List.mem_cons,List.not_mem_nil,or_false,not_or] at hnod
  have hp:p∈[(y.it,Es y.li j (.ref o)),(y.li,Jw j),(y.clo,cdO w.params q a jt kd kt wo wt 3),(y.acc,Ac (refs c) n)]:=hp
  simp only [List.mem_cons,List.not_mem_nil,or_false] at hp
  rcases hp with rfl|rfl|rfl|rfl
  ·refine .inr ⟨.head _,λq' hq=>?_⟩
   rcases mcm hq with rfl|hq
   ·exact λz=>hnod.1.1 z.symm
   ·cases hq
  ·exact .inl (.head _)
  ·refine .inr ⟨.tail _ (.tail _ (.tail _ (.head _))),λq' hq=>?_⟩
   rcases mcm hq with rfl|hq
   ·exact hnod.2.1.2.1
   ·cases hq
  ·refine .inr ⟨.tail _ (.tail _ (.tail _ (.tail _ (.head _)))),λq' hq=>?_⟩
   rcases mcm hq with rfl|hq
   ·exact hnod.2.1.2.2
   ·cases hq
theorem Zm{P:Params}{nw:Nat->Addr}{tk:Nat->Tok}{j:Nat}{t:T2}{ts:List T2}{kt wt:Tok}{pre:List Value}{L:List AO}(h:Nq P ((j:Int)+2) pre ts nw tk L) :
  Ke P ((j:Int)+1) pre (t::ts) nw tk (Rv P j t.1 kt t.2 wt nw tk++L):=by
 obtain ⟨ks,h1,h2,h3,h4⟩:=h
 refine ⟨mkTk nw tk t.1 kt t.2 wt::ks,by rw [List.map_cons,h1];rfl,h2,?_,⟨_,_,.tail _ (.tail _ (.head _))⟩,?_⟩
 ·exact .cons_cons _ (.cons_cons _ (.cons _ h3))
 ·have e:(j:Int)+1+1=(j:Int)+2:=by omega
  rw [e]
  exact h4.mono λp hp=>maj (hp)
theorem rl_all(y:CR)(cl nl:Nat):∀ (ts:List T2)(j:Nat)(o:Addr)(q:CK)(jt:Tok)(t:T2)(kt wt:Tok)(c n:Nat),
  OkF w b (cRL Aa w.params y j (j+ts.length) o q ((j:Int) - 1) (((j+ts.length:Nat):Int) - 1) jt t.1 kt t.2 wt (Dy t ts).1 (Dy t ts).2 c n cl nl) (Ago cl j ts c) (Ke w.params ((j:Int)+1) (refs c) ts):=by
 intro ts
 induction ts with
 | nil=>
  intro j o q jt t kt wt c n
  refine Ji λX hX=>⟨λ_=>True,trivial,?_⟩
  have hl:(refs cl).length<=j:=by
   have:=hX.2.get.1
   simp only [List.length_drop,List.map_nil,List.length_nil] at this
   omega
  exact Afz y j o q _ jt t.1 kt t.2 wt c n cl nl hl
 | cons t2 ts ih=>
  intro j o q jt t kt wt c n
  refine Ji λX hX=>?_
  obtain ⟨ia,kt2,wt2,hv,hm,hr⟩:=Ab0 hX.2
  let N:List AO->Prop:=λX=>Ab X ((refs cl).drop (j+1)) (ts.map tokD)
  have hN:∀ X Y:List AO,(∀ p∈X,p∈Y)->N X->N Y:=λX Y h z=>z.mono h
  let it:AO:=(ia,tupO [.str t2.1 kt2,.str t2.2 wt2])
  let M:List AO->Prop:=λX=>(refs c).length+(ts.length+1)<=5000/\N X
  refine ⟨λX=>it∈X/\M X,⟨hm,by have:=hX.1;simp only [List.length_cons] at this;exact this,hr⟩,?_⟩
  refine hide (M:=M) (B:=[it]) (λX Y h z=>⟨z.1,hN X Y h z.2⟩) (by simp) ?_ (λX hX=>⟨λp hp=>(by rcases mcm hp with rfl|hp<;>first|exact hX.1|cases hp),hX.2⟩)
  have ih:=ih (j+1)
  have e1:j+1+ts.length=j+(t2::ts).length:=by simp only [List.length_cons];omega
  have e2:((j+1:Nat):Int) - 1=(j:Int):=by omega
  have e3:((j+1:Nat):Int)+1=(j:Int)+2:=by omega
  rw [e1,e2,e3] at ih
  have hrest:∀ (jt2:Tok) q c n,OkF w b ((cRL Aa w.params y (j+1) (j+(t2::ts).length) ia q j (((j+(t2::ts).length:Nat):Int) - 1) jt2 t2.1 kt2 t2.2 wt2 (Dy t2 ts).1 (Dy t2 ts).2 c n cl nl).plus [it]) (λX=>(refs c).length+ts.length<=5000/\N (X++[it])) (Ke w.params ((j:Int)+2) (refs c) ts):=λjt2 q c n=>
   Gv (M:=Ago cl (j+1) ts c) (B:=[it]) (ih ia q jt2 t2 kt2 wt2 c n)
  have hturn:∀ (i:Addr × Tok),OkT w b (cRT Aa w.params y j (j+(t2::ts).length) ia i.1 q ((j:Int) - 1) (((j+(t2::ts).length:Nat):Int) - 1) jt i.2 t.1 kt t.2 wt t2.1 kt2 t2.2 wt2 (Dy t2 ts).1 (Dy t2 ts).2 c n cl nl)
    (Nj (lcE Aa w.params) (.ref y.it) (.ref y.acc) (.ref i.1) (Kx (Aa w.params) 558 y.lo y.clo (lcE Aa w.params))) (λX=>(refs c).length+(ts.length+1)<=5000/\N (X++[it])) (Nq w.params ((j:Int)+2) (refs c) ts):=λi=>ctn_in (hrest i.2)
  let y1:Con:={ cRT Aa w.params y j (j+(t2::ts).length) ia 0 q ((j:Int) - 1) (((j+(t2::ts).length:Nat):Int) - 1) jt 0 t.1 kt t.2 wt t2.1 kt2 t2.2 wt2 (Dy t2 ts).1 (Dy t2 ts).2 c n cl nl with
   pre:=[(y.it,Es y.li j (.ref o)),(y.li,Cd y.l j)]++((y.l,Ac (refs cl) nl)::[(y.clo,cdO w.params q ((j:Int) - 1) jt t.1 kt t.2 wt 3),(y.acc,Ac (refs c) n),it]) }
  have hadv:OkF w b y1 (λX=>(refs c).length+(ts.length+1)<=5000/\N (X++[it])) (Nq w.params ((j:Int)+2) (refs c) ts):=by
   refine Aca (c:=coRL Aa w.params y) (Mw (lcE Aa w.params) y.it) (λv=>Nj (lcE Aa w.params) (.ref y.it) (.ref y.acc) v (Kx (Aa w.params) 558 y.lo y.clo (lcE Aa w.params))) (λA s R₁ _ h=>Ni (Sr _) A s R₁ h)
    (C:=[(y.it,Es y.li j (.ref o)),(y.li,Cd y.l j)]) (P:=(y.l,Ac (refs cl) nl)::[(y.clo,cdO w.params q ((j:Int) - 1) jt t.1 kt t.2 wt 3),(y.acc,Ac (refs c) n),it]) (λi:Addr × Tok=>.ref i.1) (λ_=>[(y.it,Es y.li ((j+1:Nat):Int) (.ref ia)),(y.li,Cd y.l (j+1))]) (λi=>[(i.1,tupO [.int j i.2,.ref ia])]) 30 (λ_=>rfl)
    (λA s Q hA hdep hst hpre hnod hQ=>Ta (Sr _) (enx_r hv) A s Q hA hdep hst hpre hnod hQ)
    y1 (λi=>cRT Aa w.params y j (j+(t2::ts).length) ia i.1 q ((j:Int) - 1) (((j+(t2::ts).length:Nat):Int) - 1) jt i.2 t.1 kt t.2 wt t2.1 kt2 t2.2 wt2 (Dy t2 ts).1 (Dy t2 ts).2 c n cl nl) rfl (λ_=>rfl) rfl (λi=>?_) (λ_=>rfl) (λp hp=>?_) (by show 1<=60;decide) (by show 30<=60;decide) (λ_=>Nat.le_refl _) (λ_=>rfl) (λ_=>rfl) (λ_=>rfl) (λ_=>rfl) (λ_ _=>.next) (λ_ _=>rfl) hturn
   ·exact .cons _ (.cons _ (.swap _ _ _))
   ·rcases mcm hp with rfl|hp
    ·exact .head _
    ·rcases mcm hp with rfl|hp
     ·exact .tail _ (.head _)
     ·cases hp
  refine Ap hadv _ _ _ (λnw _=>nw) (λ_ tk=>tk) (Rv w.params j t2.1 kt2 t2.2 wt2) rfl rfl (Nat.le_refl _) (λ_ _=>rfl) (λp hp=>?_) (λnw tk p hp=>.inl hp) (λ_ _=>rfl) (λX h=>h) λnw tk L hL=>?_
  ·have hp:p∈(cRL Aa w.params y j (j+(t2::ts).length) o q ((j:Int) - 1) (((j+(t2::ts).length:Nat):Int) - 1) jt t.1 kt t.2 wt (Dy t (t2::ts)).1 (Dy t (t2::ts)).2 c n cl nl).upd:=hp
   exact List.mem_map_of_mem hp
  ·exact Zm hL
noncomputable def cRE(st:SP)(P:Params)(y:CR)(jF:Nat)(aF:Int)(kF wF:Str)(cl nl:Nat):Con:=
 ⟨coRL st P y,Pl y 0 nl .none (refs cl)++[(y.clo,Dq [] 0),(y.acc,Ac [] 0)],
  [(y.it,λtk=>Es y.li jF (.ref (tk 0))),(y.li,λ_=>Jw jF),(y.clo,λtk=>cdO P ⟨tk 6,tk 7,tk 8⟩ aF (tk 1) kF (tk 2) wF (tk 3) 3),(y.acc,λtk=>Ac (refs (tk 4)) (tk 5))],0,λ_ _=>[],9,λ_ _=>.ok .next,61⟩
theorem re_all(y:CR)(cl nl:Nat)(t2:T2)(ts:List T2) :
  OkF w b (cRE Aa w.params y (t2::ts).length (((t2::ts).length:Int) - 1) (Dy t2 ts).1 (Dy t2 ts).2 cl nl) (λX=>(t2::ts).length<=5000/\Ab X (refs cl) ((t2::ts).map tokD)) (Ke w.params 1 [] (t2::ts)):=by
 refine Ji λX hX=>?_
 obtain ⟨ia,kt2,wt2,hv,hm,hr⟩:=Ab0 (j:=0) (vs:=refs cl) (t:=t2) (ts:=ts) hX.2
 let N:List AO->Prop:=λX=>Ab X ((refs cl).drop (0+1)) (ts.map tokD)
 have hN:∀ X Y:List AO,(∀ p∈X,p∈Y)->N X->N Y:=λX Y h z=>z.mono h
 let it:AO:=(ia,tupO [.str t2.1 kt2,.str t2.2 wt2])
 let M:List AO->Prop:=λX=>([]:List Value).length+(ts.length+1)<=5000/\N X
 refine ⟨λX=>it∈X/\M X,⟨hm,by have:=hX.1;simpa using this,hr⟩,?_⟩
 refine hide (M:=M) (B:=[it]) (λX Y h z=>⟨z.1,hN X Y h z.2⟩) (by simp) ?_ (λX hX=>⟨λp hp=>(by rcases mcm hp with rfl|hp<;>first|exact hX.1|cases hp),hX.2⟩)
 have ih:=rl_all (w:=w) (b:=b) y cl nl ts (0+1)
 have e1:0+1+ts.length=(t2::ts).length:=by simp only [List.length_cons];omega
 have e2:((0+1:Nat):Int) - 1=((0:Nat):Int):=by omega
 have e3:((0+1:Nat):Int)+1=((0:Nat):Int)+2:=by omega
 rw [e1,e2,e3] at ih
 have hrest:∀ (jt2:Tok) q c n,OkF w b ((cRL Aa w.params y (0+1) (t2::ts).length ia q ((0:Nat):Int) (((t2::ts).length:Int) - 1) jt2 t2.1 kt2 t2.2 wt2 (Dy t2 ts).1 (Dy t2 ts).2 c n cl nl).plus [it]) (λX=>(refs c).length+ts.length<=5000/\N (X++[it])) (Ke w.params (((0:Nat):Int)+2) (refs c) ts):=λjt2 q c n=>
  Gv (M:=Ago cl (0+1) ts c) (B:=[it]) (ih ia q jt2 t2 kt2 wt2 c n)
 have hturn:∀ (i:Addr × Tok),OkT w b (cRF1 Aa w.params y 0 (t2::ts).length ia i.1 (((t2::ts).length:Int) - 1) i.2 t2.1 kt2 t2.2 wt2 (Dy t2 ts).1 (Dy t2 ts).2 cl nl)
   (Nj (lcE Aa w.params) (.ref y.it) (.ref y.acc) (.ref i.1) (Kx (Aa w.params) 558 y.lo y.clo (lcE Aa w.params))) (λX=>([]:List Value).length+(ts.length+1)<=5000/\N (X++[it])) (Nq w.params (((0:Nat):Int)+2) [] ts):=λi=>ctn_en (n:=0) (c:=0) (q:=⟨0,0,0⟩) (a:=0) (jt:=0) (kt:=0) (wt:=0) (kd:="") (wo:="") (hrest i.2)
 let y1:Con:={ cRF1 Aa w.params y 0 (t2::ts).length ia 0 (((t2::ts).length:Int) - 1) 0 t2.1 kt2 t2.2 wt2 (Dy t2 ts).1 (Dy t2 ts).2 cl nl with
  pre:=[(y.it,Es y.li ((0:Nat):Int) .none),(y.li,Cd y.l 0)]++((y.l,Ac (refs cl) nl)::[(y.clo,Dq [] 0),(y.acc,Ac [] 0),it]) }
 have hadv:OkF w b y1 (λX=>([]:List Value).length+(ts.length+1)<=5000/\N (X++[it])) (Nq w.params (((0:Nat):Int)+2) [] ts):=by
  refine Aca (c:=coRL Aa w.params y) (Mw (lcE Aa w.params) y.it) (λv=>Nj (lcE Aa w.params) (.ref y.it) (.ref y.acc) v (Kx (Aa w.params) 558 y.lo y.clo (lcE Aa w.params))) (λA s R₁ _ h=>Ni (Sr _) A s R₁ h)
   (C:=[(y.it,Es y.li ((0:Nat):Int) .none),(y.li,Cd y.l 0)]) (P:=(y.l,Ac (refs cl) nl)::[(y.clo,Dq [] 0),(y.acc,Ac [] 0),it]) (λi:Addr × Tok=>.ref i.1) (λ_=>[(y.it,Es y.li ((0+1:Nat):Int) (.ref ia)),(y.li,Cd y.l (0+1))]) (λi=>[(i.1,tupO [.int ((0:Nat):Int) i.2,.ref ia])]) 30 (λ_=>rfl)
   (λA s Q hA hdep hst hpre hnod hQ=>Ta (Sr _) (enx_n hv) A s Q hA hdep hst hpre hnod hQ)
   y1 (λi=>cRF1 Aa w.params y 0 (t2::ts).length ia i.1 (((t2::ts).length:Int) - 1) i.2 t2.1 kt2 t2.2 wt2 (Dy t2 ts).1 (Dy t2 ts).2 cl nl) rfl (λ_=>rfl) rfl (λi=>?_) (λ_=>rfl) (λp hp=>?_) (by show 1<=61;decide) (by show 30<=61;decide) (λ_=>Nat.le_refl _) (λ_=>rfl) (λ_=>rfl) (λ_=>rfl) (λ_=>rfl) (λ_ _=>.next) (λ_ _=>rfl) hturn
  ·exact .cons _ (.cons _ (.swap _ _ _))
  ·rcases mcm hp with rfl|hp
   ·exact .head _
   ·rcases mcm hp with rfl|hp
    ·exact .tail _ (.head _)
    ·cases hp
 refine Ap hadv _ _ _ (λnw _=>nw) (λ_ tk j=>if j < 6 then tk j else tk (j+6)) (Rv w.params 0 t2.1 kt2 t2.2 wt2) rfl rfl (Nat.le_refl _) (λ_ _=>rfl) (λp hp=>?_) (λnw tk p hp=>.inl hp) (λ_ _=>rfl) (λX h=>h) λnw tk L hL=>?_
 ·have hp:p∈[(y.it,λtk:Nat->Tok=>Es y.li ((t2::ts).length:Int) (.ref (tk 0))),(y.li,λ_=>Jw (t2::ts).length),(y.clo,λtk=>cdO w.params ⟨tk 12,tk 13,tk 14⟩ (((t2::ts).length:Int) - 1) (tk 1) (Dy t2 ts).1 (tk 2) (Dy t2 ts).2 (tk 3) 3),(y.acc,λtk=>Ac (refs (tk 4)) (tk 5))]:=hp
  simp only [List.mem_cons,List.not_mem_nil,or_false] at hp
  rcases hp with rfl|rfl|rfl|rfl<;>simp [cRE,Con.plus]
 ·exact Zm (j:=0) hL
end
noncomputable def Ww(cl n:Nat)(c:Code):Con:=
 ⟨.call (.builtin "enumerate.__new__") ⟨[.type "enumerate",.ref (Af c 1)],[]⟩,[(Af c 1,Ac (refs cl) n)],[],2,λnw _=>[(nw 0,Es (nw 1) 0 .none),(nw 1,Cd (Af c 1) 0)],0,λnw _=>.ok (.ret (.ref (nw 0))),3⟩
theorem Ql:plainId "enumerate.__new__"=true:=by kernel_rfl
theorem Ym{w:World}{st:Nat->Option Obj}(cl n:Nat)(c:Code):(Ww cl n c).Valid w st:=by
 intro A s R hA hdep hst hpre hnod hR
 have ho:s.heap.get? (Af c 1)=some (Ac (refs cl) n):=(hpre _ (.head _)).1
 refine codeAny_call_builtin Ql F.entry_enumerate_new (wpAny_of_eq (F.newCall_enumerate_1 _) ?_)
 refine meets_enumerate_newL (Af c 1) (refs cl).toArray n none #[] prog w _ _ s ⟨ho,?_⟩
 refine hR (two (s.heap.push (Cd (Af c 1) 0)).objs.size s.heap.objs.size) (λ_=>0) _ s.toks (.of_kept λb o e=>Heap.get?_push_of_some _ (Heap.get?_push_of_some _ e)) (λb o e _=>Heap.get?_push_of_some _ (Heap.get?_push_of_some _ e)) (λ_ hp=>(nomatch hp)) (λp hp=>?_) ?_
 ·have hp:p∈[((s.heap.push (Cd (Af c 1) 0)).objs.size,Es s.heap.objs.size 0 .none),(s.heap.objs.size,Cd (Af c 1) 0)]:=hp
  simp only [List.mem_cons,List.not_mem_nil,or_false] at hp
  rcases hp with rfl|rfl
  ·refine ⟨Heap.get?_push_size _ rfl,?_⟩
   cases q:s.heap.get? (s.heap.push (Cd (Af c 1) 0)).objs.size with
   | none=>rfl
   | some o'=>exact absurd (Heap.lt_size q) (by rw [Heap.size_push];exact Nat.not_lt_of_le (Nat.le_succ _))
  ·exact ⟨Heap.get?_push_of_some _ (Heap.get?_push_size _ rfl),get?_size _⟩
 ·show [(s.heap.push (Cd (Af c 1) 0)).objs.size,s.heap.objs.size].Nodup
  rw [Heap.size_push];simp
noncomputable def coRdr(l:Addr):Code:=.call (.ref 558) ⟨[.ref l],[]⟩
noncomputable def loC:Code->Addr
 | .compLoop _ _ _ _ e=>(match e.frame with
  | some a=>a
  | none=>0)
 | _=>0
noncomputable def cloC:Code->Addr
 | .compLoop _ _ _ _ e=>e.locals
 | _=>0
noncomputable def itC:Code->Addr
 | .compLoop _ _ v _ _=>(match v with
  | .ref i=>i
  | _=>0)
 | _=>0
noncomputable def accC:Code->Addr
 | .compLoop _ _ _ v _=>(match v with
  | .ref i=>i
  | _=>0)
 | _=>0
noncomputable def cRdr(P:Params)(l cl nl:Nat):Con:=
 ⟨coRdr l,[(l,Ac (refs cl) nl)],[],4,λnw tk=>[(nw 0,Lo (nw 1)),(nw 1,Dq [ent P "tokens" (tk 0) (.ref (nw 2)),ent P "at" (tk 1) (.int 0 659),ent P "named" (tk 2) (.ref (nw 3))] 3),(nw 2,Ac (refs (tk 3)) (tk 4))],5,λnw _=>.ok (.ret (.ref (nw 0))),80⟩
noncomputable abbrev Ac7(P:Params)(ts:List T2):AL:=λ_ tk L=>∃ ks:List Tk,ks.map Tk.pw=ts/\refs (tk 3)=ks.map (λk=>.ref k.a)/\(Do P ks).Sublist L/\AtsL L 1 ks

theorem Aa5{l cl nl:Nat}{t:T2}{ts:List T2}:OkF w b (cRdr w.params l cl nl) (λX=>(t::ts).length<=5000/\Ab X (refs cl) ((t::ts).map tokD)) (Ac7 w.params (t::ts)):=by
 let lZ:List (Fm w b):=[pl (Ww cl nl) (Ym _ _),⟨λA T c=>.full (cRE Aa w.params ⟨loC c,cloC c,itC c,(A 2),l,accC c⟩ ((t::ts).length) (((t::ts).length:Int) - 1) (Dy t ts).1 (Dy t ts).2 cl nl) (λX=>(t::ts).length<=5000/\Ab X (refs cl) ((t::ts).map tokD)) (Ke w.params 1 [] (t::ts)),λ_ _ _=>re_all _ _ _ _ _⟩]
 refine oFY lZ ([⟨l,Ac (refs cl) nl,false,false⟩]) 233 223 0x1430840c40030000030030000c00000030830830020000020020000800000020410c20c00800000800800020000000810400010010010000400000010010000000000000000000000000000000000000000000000000000410010400410400830401420c3100100104002002002082002002081080001000000001001 0x1430840c40030000030030000c00000030830830020000020020000800000020410c20c00800000800800020000000810400010010010000400000010010000000000000000000000000000000000000000000000000000410010400410400830401420c3002002002082002002081080001000000001001 [6,5,3,8] [14,16,18,5,6] (λal tk=>[(λX=>(t::ts).length<=5000/\Ab X (refs cl) ((t::ts).map tokD),Ke w.params 1 [] (t::ts) al (λz=>tk (1+z)))]) ?_ ?_ ?_ ?_ (λal tk X hX=>cS hX λL h=>cZ h)<;>intros<;>kernel_rfl
noncomputable def forW(target:Expr)(it:Addr)(body:List Stmt)(env:Env):Sem Fin:=R.bindR (Mm (.ref it)) λo=>match o with
 | none=>.pure (.done .next)
 | some v=>forB target (.ref it) v body [] env
noncomputable def Nc(env:Env)(it:Addr):Option Stmt->Sem Fin
 | some (.For t _ b _ _)=>forW t it b env
 | _=>.pure (.done .next)
noncomputable def Yh(n:Nat):Option Stmt->Option Stmt
 | some (.For _ _ b _ _)=>b[n]?
 | _=>none
theorem Cw{w:World}{st:Nat->Option Obj}{x:Con}{env:Env}{it:Addr}{sm:Option Stmt}{need:List AO->Prop}{also:AL}(hs:Uo sm)(hc:x.code=Jf env (.ref it) sm)(f:(Nat->Addr)->(Nat->Tok)->Flow)(hr:∀ nw tk,x.res nw tk=.ok (f nw tk))(hd:1<=x.deep)
  (hx:Cm w st x (Nc env it sm) need also):Ad w st x need also:=by
 intro A s R₁ X hA hdep hst hpre hnod hX hXn hap hnd hR
 have z:=hx A s (Gx R₁) X hA hdep hst hpre hnod hX hXn hap hnd λnw tk h' t' L a1 a2 a3 a4 a5 a6=>by
  have q:=hR nw tk h' t' L a1 a2 a3 a4 a5 a6
  rw [hr] at q ⊢
  exact q
 rw [hc] at z ⊢
 obtain ⟨target,iter,body,pos,rfl⟩:=hs
 ·skip
  have z:wpOwn (model prog w) A (.forLoop target (.ref it) body [] env) (forW target it body env) _ _ s:=z
  refine codeAny_of_own ?_
  intro Γ p hcc hΓ
  have hun:Γ.units < cLine:=Mq (p:=p) hcc hΓ (hdep.le hd)
  have z:=z Γ target.pos hcc hΓ
  unfold forW at z
  rw [Kh,←R.bindR_eq] at z
  show Sem.wp (model prog w) Γ ((forTurn target (.ref it) body [] env).onRaise _) _ _ p s
  rw [Sem.wp_onRaise]
  show Sem.wp (model prog w) Γ ((pyNext (.ref it)).onRaise _ >>= _) _ _ target.pos s
  have z:Sem.wp (model prog w) Γ (pyNext (.ref it) >>= _) _ _ target.pos s:=z
  rw [Sem.wp_bind'] at z
  rw [Sem.wp_bind',Sem.wp_onRaise]
  refine Sem.wp_mono (model prog w) Γ _ (λo p s h=>?_) (λe p s h=>absurd h (by exact λz=>z)) _ _ z
  cases o with
  | none=>exact ⟨rfl,codeAny_of_tree (wpAny_pure h.2)⟩
  | some v=>
   have h:Sem.wp (model prog w) Γ (forB target (.ref it) v body [] env) _ _ p s:=h
   unfold forB at h
   rw [Za,Hx] at h
   rw [←R.bindR_eq] at h
   have h:Sem.wp (model prog w) Γ (letOwnedTupleGo target (.ref it) v >>= _) _ _ p s:=h
   show Sem.wp (model prog w) Γ (letOwnedTupleGo target (.ref it) v >>= _) _ _ p s
   rw [Sem.wp_bind'] at h ⊢
   refine Sem.wp_mono (model prog w) Γ _ (λ_ p s h=>?_) (λe p s h=>absurd h (by exact λz=>z)) _ _ h
   have h:Sem.wp (model prog w) Γ (assign target env v >>= _) _ _ p s:=h
   show Sem.wp (model prog w) Γ (assign target env v >>= _) _ _ p s
   rw [Sem.wp_bind'] at h ⊢
   refine Sem.wp_mono (model prog w) Γ _ (λ_ p s h=>?_) (λe p s h=>absurd h (by exact λz=>z)) _ _ h
   have h:Sem.wp (model prog w) Γ (Jx body env >>= _) _ _ p s:=h
   show Sem.wp (model prog w) Γ (execs body env >>= _) _ _ p s
   rw [Sem.wp_bind'] at h ⊢
   have h:=Fz hun body env _ _ _ _ h
   refine Sem.wp_mono (model prog w) Γ _ (λf p s h=>?_) (λe p s h=>absurd h (by exact λz=>z)) _ _ h
   have key:∀ c',c'.quiet=true->codeAny (model prog w) A c' (Gx R₁) s->codeAny (model prog w) A c' R₁ s:=λc' _ h=>codeAny_mono h λr s h=>by
    cases r with
    | ok f=>exact h
    | error e=>exact absurd h (by exact λz=>z)
   cases f with
   | next=>exact ⟨h.2.1,key _ h.2.1 h.2.2⟩
   | cont=>exact ⟨h.2.1,key _ h.2.1 h.2.2⟩
   | brk=>exact h.2
   | ret v=>exact h.2
theorem Mf(P:Params):Uo (Ae (Aa P 591))[1]?:=⟨_,_,_,_,rfl⟩
theorem Me(P:Params):Uo (Yh 1 (Ae (Aa P 591))[1]?):=⟨_,_,_,_,rfl⟩
theorem Wj(P:Params):Uo (Ae (Aa P 591))[2]?:=⟨_,_,_,_,rfl⟩
theorem Yj{w:World}{st:Nat->Option Obj}{x:Con}{need:List AO->Prop}{also:AL}(h:Ad w st x need also):Ad w st x need (λnw tk L=>also nw tk L/\(L.map (·.1)).Nodup):=by
 intro A s R₁ X hA hdep hst hpre hnod hX hXn hap hnd hR
 refine h A s R₁ X hA hdep hst hpre hnod hX hXn hap hnd λnw tk h' t' L a1 a2 a3 a4 a5 a6=>hR nw tk h' t' L a1 a2 a3 a4 a5 ⟨a6,?_⟩
 rw [List.map_append,List.nodup_append] at a5
 exact a5.2.1
structure QK where
 k1:Tok
 k2:Tok
 k3:Tok
 k4:Tok
 k5:Tok
 k6:Tok
 k7:Tok
 k8:Tok
 k9:Tok
structure RS where
 lo:Addr
 ss:Addr
 bh:Addr
 rl:Addr
noncomputable def es5(P:Params)(q:QK)(y:RS)(ag on:Nat):List DictEntry:=[ent P "sorts" q.k1 (.ref y.ss),ent P "behind" q.k2 (.ref y.bh),ent P "rows" q.k3 (.ref y.rl),ent P "again" q.k4 (.ref ag),ent P "once" q.k5 (.ref on)]
noncomputable def es7(P:Params)(q:QK)(y:RS)(ag on:Nat)(wo:Str)(wt:Tok)(pl:Nat):List DictEntry:=es5 P q y ag on++[ent P "word" q.k6 (.str wo wt),ent P "parts" q.k7 (.ref pl)]
noncomputable def es9(P:Params)(q:QK)(y:RS)(ag on:Nat)(wo:Str)(wt:Tok)(pl tl ra:Nat):List DictEntry:=es7 P q y ag on wo wt pl++[ent P "tokens" q.k8 (.ref tl),ent P "row" q.k9 (.ref ra)]
noncomputable def fr5(P:Params)(q:QK)(y:RS)(ag on:Nat):Obj:=Ek (es5 P q y ag on) 5
noncomputable def fr7(P:Params)(q:QK)(y:RS)(ag on:Nat)(wo:Str)(wt:Tok)(pl:Nat):Obj:=Ek (es7 P q y ag on wo wt pl) 7
noncomputable def fr9(P:Params)(q:QK)(y:RS)(ag on:Nat)(wo:Str)(wt:Tok)(pl tl ra:Nat):Obj:=Ek (es9 P q y ag on wo wt pl tl ra) 9
structure PR where
 ia:Addr
 tl:Addr
 ra:Addr
 ct:Nat
 nt:Nat
noncomputable def PR.B(r:PR):List AO:=[(r.ia,tupO [.ref r.tl,.ref r.ra]),(r.tl,Ac (refs r.ct) r.nt)]
noncomputable def PR.K(r:PR):List Ent:=[⟨r.ia,tupO [.ref r.tl,.ref r.ra],false,false⟩,⟨r.tl,Ac (refs r.ct) r.nt,false,false⟩]
noncomputable def Aq:List PR->List Value
 | []=>[]
 | r::rs=>refs r.ct++Aq rs
noncomputable def AgV(L:List AO)(word:Str):List PR->List Value->Prop
 | [],va=>va=[]
 | r::rs,va=>∃ ws va',va=ws++(refs r.ct++va')/\Ab L ws [tokD (w2 word)]/\AgV L word rs va'
noncomputable def Iy:List PR->List Value
 | []=>[]
 | r::rs=>.ref r.ra::Iy rs
noncomputable def stmO(st:SP)(P:Params):Option Stmt:=(Ae (st P 591))[1]?
noncomputable def coIL(st:SP)(P:Params)(lo it:Addr):Code:=Jf (envF (st P) 591 lo) (.ref it) (Yh 1 (stmO st P))
structure IS where
 it:Addr
 pl:Addr
 cp:Nat
 np:Nat
 wo:Str
 wt:Tok
noncomputable def Aez(y:RS)(ag on ca na co no cr nr:Nat):List AO:=[(on,Ac (refs co) no),(ag,Ac (refs ca) na),(y.rl,Ac (refs cr) nr)]
noncomputable def Af0(y:RS)(ag on ca na co no cr nr:Nat):List Ent:=[⟨on,Ac (refs co) no,false,false⟩,⟨ag,Ac (refs ca) na,false,false⟩,⟨y.rl,Ac (refs cr) nr,true,false⟩]
noncomputable def cIL(st:SP)(P:Params)(y:RS)(x:IS)(j jF:Nat)(fo:Obj)(qf:(Nat->Tok)->QK)(k tF rF:Nat)(ag on ca na co no cr nr:Nat):Con:=
 ⟨coIL st P y.lo x.it,[(x.it,Cd x.pl j),(x.pl,Ac (refs x.cp) x.np),(y.lo,fo)]++Aez y ag on ca na co no cr nr,[(x.it,λ_=>Jw jF),(y.lo,λtk=>fr9 P (qf tk) y (tk 0) (tk 1) x.wo x.wt x.pl tF rF),(y.rl,λtk=>Ac (refs (tk 4)) (tk 5))],
  0,λ_ tk=>[(tk 0,Ac (refs (tk 6)) (tk 7)),(tk 1,Ac (refs (tk 8)) (tk 9))],k,λ_ _=>.ok .next,62⟩
noncomputable abbrev ilK(y:RS)(x:IS)(j:Nat)(fo:Obj)(ag on ca na co no cr nr:Nat)(r:PR):List Ent:=[⟨x.it,Cd x.pl j,true,false⟩,⟨x.pl,Ac (refs x.cp) x.np,false,false⟩,⟨y.lo,fo,true,false⟩]++Af0 y ag on ca na co no cr nr++r.K
noncomputable abbrev Dk(co ca cr r1 r2 r3:Nat)(N:List AO->Prop)(B:List AO):List AO->Prop:=λX=>(refs co).length+r1<=5000/\(refs ca).length+r2<=5000/\(refs cr).length+r3<=5000/\N (X++B)
noncomputable abbrev Ee(word:Str)(co ca cr:Nat)(rs:List PR):AL:=λ_ tk L=>∃ va,refs (tk 8)=refs co++Aq rs/\refs (tk 6)=refs ca++va/\AgV L word rs va/\refs (tk 4)=refs cr++Iy rs
theorem AgV.mono{L L':List AO}(h:∀ p∈L,p∈L'){word:Str}:∀ {rs:List PR}{va:List Value},AgV L word rs va->AgV L' word rs va
 | [],_,e=>e
 | _::_,_,⟨ws,va,e,d,r⟩=>⟨ws,va,e,d.mono h,AgV.mono h r⟩
theorem Ab4{co ca cr ct cw d0 d2 d3 d4:Nat}{ra:Addr}{r:PR}{word:Str}{X:List AO}{N:List AO->Prop}{B:List AO}{F:List AO->Prop}(hr:r.ct=ct)(hra:r.ra=ra)(hX:Dk co ca cr (refs ct).length (1+(refs ct).length) 1 N B X)
  (hF:∀ L,(∃ va,refs d0=refs co++Aq [r]/\refs d3=refs ca++va/\AgV L word [r] va/\refs d4=refs cr++Iy [r])->F L) :
  Ch F [(λ_=>Bm co ct,λL=>L=[]/\refs d0=refs co++refs ct),(λ_=>True,λL=>Ab L (refs cw) [tokD (w2 word)]),(λ_=>Bm ca cw,λL=>L=[]/\refs d2=refs ca++refs cw),(λ_=>Bm d2 ct,λL=>L=[]/\refs d3=refs d2++refs ct),(λ_=>(refs cr).length<=5000,λL=>L=[]/\refs d4=refs cr++[.ref ra])] X []:=by
 subst hr hra
 obtain ⟨h1,h2,h3,h4⟩:=hX
 refine cS h1 λL0 e0=>cS trivial λL1 e1=>?_
 have k1:=e1.get.1
 simp only [List.length_cons,List.length_nil] at k1
 refine cS (by show _+_<=5000;omega) λL2 e2=>?_
 refine cS (by show _+_<=5000;rw [e2.2,List.length_append];omega) λL3 e3=>cS (by omega) λL4 e4=>cZ (hF _ ?_)
 obtain ⟨rfl,e0⟩:=e0
 obtain ⟨rfl,e2⟩:=e2
 obtain ⟨rfl,e3⟩:=e3
 obtain ⟨rfl,e4⟩:=e4
 refine ⟨refs cw++(refs r.ct++[]),by rw [e0];simp [Aq],by rw [e3,e2];simp,⟨_,[],rfl,?_,rfl⟩,e4⟩
 simpa using e1
theorem Ab3{co ca cr ct cw d0 d2 d3 d4 f0 f1 f2 r1 r2 r3:Nat}{ra:Addr}{r:PR}{rs:List PR}{word:Str}{X:List AO}{N:List AO->Prop}{B:List AO}{F:List AO->Prop}(hN:∀ X Y:List AO,(∀ p∈X,p∈Y)->N X->N Y)(hr:r.ct=ct)(hra:r.ra=ra)(hX:Dk co ca cr ((refs ct).length+r1) (1+(refs ct).length+r2) (1+r3) N B X)
  (hF:∀ L,(∃ va,refs f0=refs co++Aq (r::rs)/\refs f1=refs ca++va/\AgV L word (r::rs) va/\refs f2=refs cr++Iy (r::rs))->F L) :
  Ch F [(λ_=>Bm co ct,λL=>L=[]/\refs d0=refs co++refs ct),(λ_=>True,λL=>Ab L (refs cw) [tokD (w2 word)]),(λ_=>Bm ca cw,λL=>L=[]/\refs d2=refs ca++refs cw),(λ_=>Bm d2 ct,λL=>L=[]/\refs d3=refs d2++refs ct),(λ_=>(refs cr).length<=5000,λL=>L=[]/\refs d4=refs cr++[.ref ra]),
   (Dk d0 d3 d4 r1 r2 r3 N B,λL=>∃ va,refs f0=refs d0++Aq rs/\refs f1=refs d3++va/\AgV L word rs va/\refs f2=refs d4++Iy rs)] X []:=by
 subst hr hra
 obtain ⟨h1,h2,h3,h4⟩:=hX
 refine cS (by show _+_<=5000;omega) λL0 e0=>cS trivial λL1 e1=>?_
 have k1:=e1.get.1
 simp only [List.length_cons,List.length_nil] at k1
 refine cS (by show _+_<=5000;omega) λL2 e2=>?_
 refine cS (by show _+_<=5000;rw [e2.2,List.length_append];omega) λL3 e3=>cS (by omega) λL4 e4=>?_
 obtain ⟨rfl,e0⟩:=e0
 obtain ⟨rfl,e2⟩:=e2
 obtain ⟨rfl,e3⟩:=e3
 obtain ⟨rfl,e4⟩:=e4
 refine cS ⟨by rw [e0,List.length_append];omega,by rw [e3,e2,List.length_append,List.length_append];omega,by rw [e4,List.length_append];simp only [List.length_cons,List.length_nil];omega,hN _ _ (λp hp=>?_) h4⟩ λL5 e5=>cZ (hF _ ?_)
 ·rcases List.mem_append.mp hp with hp|hp<;>simp [hp]
 obtain ⟨va,a1,a2,a3,a4⟩:=e5
 refine ⟨refs cw++(refs r.ct++va),by rw [a1,e0];simp [Aq],by rw [a2,e3,e2];simp,⟨_,va,rfl,?_,a3.mono λp hp=>by simp [hp]⟩,by rw [a4,e4];simp [Iy]⟩
 have e1:Ab L1 (refs cw) [tokD (w2 word)]:=e1
 exact e1.mono λp hp=>by simp [hp]

theorem il_im{y:RS}{x:IS}{j jF:Nat}{q:QK}{ag on ca na co no cr nr tl0 ra0 tF rF:Nat}{r:PR}{N:List AO->Prop}(hw:∀ c,OkF w b (cWL x.wo c) tT (Cu [w2 x.wo]))(hv:(refs x.cp)[j]?=some (.ref r.ia)){r1 r2 r3:Nat}{rs:List PR}(hN:∀ X Y:List AO,(∀ p∈X,p∈Y)->N X->N Y)(hr:∀ q ag on ca na co no cr nr,OkF w b ((cIL Aa w.params y x (j+1) jF (fr9 w.params q y ag on x.wo x.wt x.pl r.tl r.ra) (λ_=>q) 10 tF rF ag on ca na co no cr nr).plus r.B) (Dk co ca cr r1 r2 r3 N r.B) (Ee x.wo co ca cr rs)):OkT w b ((cIL Aa w.params y x j jF (fr9 w.params q y ag on x.wo x.wt x.pl tl0 ra0) (λ_=>q) 10 tF rF ag on ca na co no cr nr).plus r.B) (Nc (envF (Aa w.params) 591 y.lo) x.it (Yh 1 (stmO Aa w.params))) (Dk co ca cr ((refs r.ct).length+r1) (1+(refs r.ct).length+r2) (1+r3) N r.B) (Ee x.wo co ca cr (r::rs)):=by
 let lZ:List (Fm w b):=[pl (λ_=>Df x.it x.pl j x.np (refs x.cp) (.ref r.ia)) λ_=>Bo hv,fl (cWL x.wo) tT (Cu [w2 x.wo]) hw,fl (cAdd co no r.ct r.nt) (λ_=>Bm co r.ct) (λ_ tk L=>L=[]/\refs (tk 0)=refs co++refs r.ct) (Ay _ _ _ _),⟨λA T c=>.full (cAdd ca na (T 4) (T 5) c) (λ_=>Bm ca (T 4)) (λ_ tk L=>L=[]/\refs (tk 0)=refs ca++refs (T 4)),λ_ _ c=>Ay _ _ _ _ c⟩,⟨λA T c=>.full (cAdd (T 6) (T 7) r.ct r.nt c) (λ_=>Bm (T 6) r.ct) (λ_ tk L=>L=[]/\refs (tk 0)=refs (T 6)++refs r.ct),λ_ _ c=>Ay _ _ _ _ c⟩,⟨λ_ _ cd=>.full (cApp cr nr cd) (λ_=>(refs cr).length<=5000) (λ_ tk L=>L=[]/\refs (tk 0)=refs cr++[Value.ref (Af cd 1)]),λ_ _ cd=>Kd cr nr cd⟩,⟨λA T c=>.full ((cIL Aa w.params y x (j+1) jF (fr9 w.params q y (A 6) (A 3) x.wo x.wt x.pl r.tl r.ra) (λ_=>q) 10 tF rF (A 6) (A 3) (T 8) (T 9) (T 2) (T 3) (T 12) (T 13)).plus r.B) (Dk (T 2) (T 8) (T 12) r1 r2 r3 N r.B) (Ee x.wo (T 2) (T 8) (T 12) rs),λ_ _ _=>hr _ _ _ _ _ _ _ _ _⟩]
 refine oTX lZ (ilK y x j (fr9 w.params q y ag on x.wo x.wt x.pl tl0 ra0) ag on ca na co no cr nr r) 186 g34N [] [14,15,0,0,18,19,20,21,22,23] (λal tk=>[eA (tk 2) co r.ct,eW (tk 4) [tokD (w2 x.wo)],eA (tk 6) ca (tk 4),eA (tk 8) (tk 6) r.ct,(λ_=>(refs cr).length<=5000,λL=>L=[]/\refs (tk 12)=refs cr++[Value.ref r.ra]),(Dk (tk 2) (tk 8) (tk 12) r1 r2 r3 N r.B,Ee x.wo (tk 2) (tk 8) (tk 12) rs al (λz=>tk (14+z)))]) ?_ ?_ (λal tk X hX=>Ab3 (ct:=r.ct) (cw:=tk 4) (d0:=tk 2) (d2:=tk 6) (d3:=tk 8) (d4:=tk 12) (f0:=tk (14+8)) (f1:=tk (14+6)) (f2:=tk (14+4)) (ra:=r.ra) hN rfl rfl hX (λL h=>h))<;>intros<;>kernel_rfl
theorem il_il{y:RS}{x:IS}{j jF:Nat}{q:QK}{ag on ca na co no cr nr tl0 ra0 tF rF:Nat}{r:PR}{N:List AO->Prop}(hw:∀ c,OkF w b (cWL x.wo c) tT (Cu [w2 x.wo]))(hv:(refs x.cp)[j]?=some (.ref r.ia))(hl:(refs x.cp).length<=j+1):OkT w b ((cIL Aa w.params y x j (j+1) (fr9 w.params q y ag on x.wo x.wt x.pl tl0 ra0) (λ_=>q) 10 r.tl r.ra ag on ca na co no cr nr).plus r.B) (Nc (envF (Aa w.params) 591 y.lo) x.it (Yh 1 (stmO Aa w.params))) (Dk co ca cr (refs r.ct).length (1+(refs r.ct).length) 1 N r.B) (Ee x.wo co ca cr [r]):=by
 let lZ:List (Fm w b):=[pl (λ_=>Df x.it x.pl j x.np (refs x.cp) (.ref r.ia)) λ_=>Bo hv,fl (cWL x.wo) tT (Cu [w2 x.wo]) hw,fl (cAdd co no r.ct r.nt) (λ_=>Bm co r.ct) (λ_ tk L=>L=[]/\refs (tk 0)=refs co++refs r.ct) (Ay _ _ _ _),⟨λA T c=>.full (cAdd ca na (T 4) (T 5) c) (λ_=>Bm ca (T 4)) (λ_ tk L=>L=[]/\refs (tk 0)=refs ca++refs (T 4)),λ_ _ c=>Ay _ _ _ _ c⟩,⟨λA T c=>.full (cAdd (T 6) (T 7) r.ct r.nt c) (λ_=>Bm (T 6) r.ct) (λ_ tk L=>L=[]/\refs (tk 0)=refs (T 6)++refs r.ct),λ_ _ c=>Ay _ _ _ _ c⟩,⟨λ_ _ cd=>.full (cApp cr nr cd) (λ_=>(refs cr).length<=5000) (λ_ tk L=>L=[]/\refs (tk 0)=refs cr++[Value.ref (Af cd 1)]),λ_ _ cd=>Kd cr nr cd⟩,pl (λ_=>Lg x.it x.pl (j+1) x.np (refs x.cp)) λ_=>Gk hl]
 refine oTX lZ (ilK y x j (fr9 w.params q y ag on x.wo x.wt x.pl tl0 ra0) ag on ca na co no cr nr r) 192 g35N [] [518,515,0,0,12,13,8,9,2,3] (λal tk=>[eA (tk 2) co r.ct,eW (tk 4) [tokD (w2 x.wo)],eA (tk 6) ca (tk 4),eA (tk 8) (tk 6) r.ct,(λ_=>(refs cr).length<=5000,λL=>L=[]/\refs (tk 12)=refs cr++[Value.ref r.ra])]) ?_ ?_ (λal tk X hX=>Ab4 (ct:=r.ct) (cw:=tk 4) (d0:=tk 2) (d2:=tk 6) (d3:=tk 8) (d4:=tk 12) (ra:=r.ra) rfl rfl hX (λL h=>h))<;>intros<;>kernel_rfl
theorem il_em{y:RS}{x:IS}{j jF:Nat}{q:QK}{ag on ca na co no cr nr tl0 ra0 tF rF:Nat}{r:PR}{N:List AO->Prop}(hw:∀ c,OkF w b (cWL x.wo c) tT (Cu [w2 x.wo]))(hv:(refs x.cp)[j]?=some (.ref r.ia)){r1 r2 r3:Nat}{rs:List PR}(hN:∀ X Y:List AO,(∀ p∈X,p∈Y)->N X->N Y)(hr:∀ q ag on ca na co no cr nr,OkF w b ((cIL Aa w.params y x (j+1) jF (fr9 w.params q y ag on x.wo x.wt x.pl r.tl r.ra) (λ_=>q) 10 tF rF ag on ca na co no cr nr).plus r.B) (Dk co ca cr r1 r2 r3 N r.B) (Ee x.wo co ca cr rs)):OkT w b ((cIL Aa w.params y x j jF (fr7 w.params q y ag on x.wo x.wt x.pl) (λtk=>{ q with k8:=tk 10,k9:=tk 11 }) 12 tF rF ag on ca na co no cr nr).plus r.B) (Nc (envF (Aa w.params) 591 y.lo) x.it (Yh 1 (stmO Aa w.params))) (Dk co ca cr ((refs r.ct).length+r1) (1+(refs r.ct).length+r2) (1+r3) N r.B) (Ee x.wo co ca cr (r::rs)):=by
 let lZ:List (Fm w b):=[pl (λ_=>Df x.it x.pl j x.np (refs x.cp) (.ref r.ia)) λ_=>Bo hv,fl (cWL x.wo) tT (Cu [w2 x.wo]) hw,fl (cAdd co no r.ct r.nt) (λ_=>Bm co r.ct) (λ_ tk L=>L=[]/\refs (tk 0)=refs co++refs r.ct) (Ay _ _ _ _),⟨λA T c=>.full (cAdd ca na (T 4) (T 5) c) (λ_=>Bm ca (T 4)) (λ_ tk L=>L=[]/\refs (tk 0)=refs ca++refs (T 4)),λ_ _ c=>Ay _ _ _ _ c⟩,⟨λA T c=>.full (cAdd (T 6) (T 7) r.ct r.nt c) (λ_=>Bm (T 6) r.ct) (λ_ tk L=>L=[]/\refs (tk 0)=refs (T 6)++refs r.ct),λ_ _ c=>Ay _ _ _ _ c⟩,⟨λ_ _ cd=>.full (cApp cr nr cd) (λ_=>(refs cr).length<=5000) (λ_ tk L=>L=[]/\refs (tk 0)=refs cr++[Value.ref (Af cd 1)]),λ_ _ cd=>Kd cr nr cd⟩,⟨λA T c=>.full ((cIL Aa w.params y x (j+1) jF (fr9 w.params { q with k8:=(T 0),k9:=(T 1) } y (A 6) (A 3) x.wo x.wt x.pl r.tl r.ra) (λ_=>{ q with k8:=(T 0),k9:=(T 1) }) 10 tF rF (A 6) (A 3) (T 8) (T 9) (T 2) (T 3) (T 12) (T 13)).plus r.B) (Dk (T 2) (T 8) (T 12) r1 r2 r3 N r.B) (Ee x.wo (T 2) (T 8) (T 12) rs),λ_ _ _=>hr _ _ _ _ _ _ _ _ _⟩]
 refine oTX lZ (ilK y x j (fr7 w.params q y ag on x.wo x.wt x.pl) ag on ca na co no cr nr r) 186 g34N [] [14,15,0,0,18,19,20,21,22,23,0,1] (λal tk=>[eA (tk 2) co r.ct,eW (tk 4) [tokD (w2 x.wo)],eA (tk 6) ca (tk 4),eA (tk 8) (tk 6) r.ct,(λ_=>(refs cr).length<=5000,λL=>L=[]/\refs (tk 12)=refs cr++[Value.ref r.ra]),(Dk (tk 2) (tk 8) (tk 12) r1 r2 r3 N r.B,Ee x.wo (tk 2) (tk 8) (tk 12) rs al (λz=>tk (14+z)))]) ?_ ?_ (λal tk X hX=>Ab3 (ct:=r.ct) (cw:=tk 4) (d0:=tk 2) (d2:=tk 6) (d3:=tk 8) (d4:=tk 12) (f0:=tk (14+8)) (f1:=tk (14+6)) (f2:=tk (14+4)) (ra:=r.ra) hN rfl rfl hX (λL h=>h))<;>intros<;>kernel_rfl
theorem il_el{y:RS}{x:IS}{j jF:Nat}{q:QK}{ag on ca na co no cr nr tl0 ra0 tF rF:Nat}{r:PR}{N:List AO->Prop}(hw:∀ c,OkF w b (cWL x.wo c) tT (Cu [w2 x.wo]))(hv:(refs x.cp)[j]?=some (.ref r.ia))(hl:(refs x.cp).length<=j+1):OkT w b ((cIL Aa w.params y x j (j+1) (fr7 w.params q y ag on x.wo x.wt x.pl) (λtk=>{ q with k8:=tk 10,k9:=tk 11 }) 12 r.tl r.ra ag on ca na co no cr nr).plus r.B) (Nc (envF (Aa w.params) 591 y.lo) x.it (Yh 1 (stmO Aa w.params))) (Dk co ca cr (refs r.ct).length (1+(refs r.ct).length) 1 N r.B) (Ee x.wo co ca cr [r]):=by
 let lZ:List (Fm w b):=[pl (λ_=>Df x.it x.pl j x.np (refs x.cp) (.ref r.ia)) λ_=>Bo hv,fl (cWL x.wo) tT (Cu [w2 x.wo]) hw,fl (cAdd co no r.ct r.nt) (λ_=>Bm co r.ct) (λ_ tk L=>L=[]/\refs (tk 0)=refs co++refs r.ct) (Ay _ _ _ _),⟨λA T c=>.full (cAdd ca na (T 4) (T 5) c) (λ_=>Bm ca (T 4)) (λ_ tk L=>L=[]/\refs (tk 0)=refs ca++refs (T 4)),λ_ _ c=>Ay _ _ _ _ c⟩,⟨λA T c=>.full (cAdd (T 6) (T 7) r.ct r.nt c) (λ_=>Bm (T 6) r.ct) (λ_ tk L=>L=[]/\refs (tk 0)=refs (T 6)++refs r.ct),λ_ _ c=>Ay _ _ _ _ c⟩,⟨λ_ _ cd=>.full (cApp cr nr cd) (λ_=>(refs cr).length<=5000) (λ_ tk L=>L=[]/\refs (tk 0)=refs cr++[Value.ref (Af cd 1)]),λ_ _ cd=>Kd cr nr cd⟩,pl (λ_=>Lg x.it x.pl (j+1) x.np (refs x.cp)) λ_=>Gk hl]
 refine oTX lZ (ilK y x j (fr7 w.params q y ag on x.wo x.wt x.pl) ag on ca na co no cr nr r) 192 g35N [] [518,515,0,0,12,13,8,9,2,3,0,1] (λal tk=>[eA (tk 2) co r.ct,eW (tk 4) [tokD (w2 x.wo)],eA (tk 6) ca (tk 4),eA (tk 8) (tk 6) r.ct,(λ_=>(refs cr).length<=5000,λL=>L=[]/\refs (tk 12)=refs cr++[Value.ref r.ra])]) ?_ ?_ (λal tk X hX=>Ab4 (ct:=r.ct) (cw:=tk 4) (d0:=tk 2) (d2:=tk 6) (d3:=tk 8) (d4:=tk 12) (ra:=r.ra) rfl rfl hX (λL h=>h))<;>intros<;>kernel_rfl
noncomputable def q89(q:QK)(a b:Tok):QK:={ q with k8:=a,k9:=b }
noncomputable def q67(q:QK)(a b:Tok):QK:={ q with k6:=a,k7:=b }
structure SRc where
 ia:Addr
 pl:Addr
 cp:Nat
 np:Nat
 wo:Str
 wt:Tok
 rs:List PR
noncomputable def SRc.Bi(s:SRc):List AO:=[(s.ia,tupO [.str s.wo s.wt,.ref s.pl])]
noncomputable def SRc.B(s:SRc):List AO:=[(s.ia,tupO [.str s.wo s.wt,.ref s.pl]),(s.pl,Ac (refs s.cp) s.np)]
noncomputable def SRc.K(s:SRc):List Ent:=[⟨s.ia,tupO [.str s.wo s.wt,.ref s.pl],false,false⟩,⟨s.pl,Ac (refs s.cp) s.np,false,false⟩]
noncomputable def SRc.is(s:SRc)(it:Addr):IS:=⟨it,s.pl,s.cp,s.np,s.wo,s.wt⟩
noncomputable def Nt(L:List AO):List SRc->List Value->Prop
 | [],v=>v=[]
 | s::r,v=>∃ ws v',v=ws++(Aq s.rs++v')/\Ab L ws [tokD (w2 s.wo)]/\Nt L r v'
noncomputable def AgVV(L:List AO):List SRc->List Value->Prop
 | [],v=>v=[]
 | s::r,v=>∃ va v',v=va++v'/\AgV L s.wo s.rs va/\AgVV L r v'
noncomputable def Qk:List SRc->List Value
 | []=>[]
 | s::r=>Iy s.rs++Qk r
noncomputable def coOL(st:SP)(P:Params)(lo it:Addr):Code:=Jf (envF (st P) 591 lo) (.ref it) (stmO st P)
structure FL where
 wo:Str
 wt:Tok
 pl:Nat
 tl:Nat
 ra:Nat
noncomputable def cOL(st:SP)(P:Params)(y:RS)(it cs ns j jF:Nat)(fo:Obj)(qf:(Nat->Tok)->QK)(k:Nat)(z:FL)(ag on ca na co no cr nr:Nat):Con:=
 ⟨coOL st P y.lo it,[(it,Cd y.ss j),(y.ss,Ac (refs cs) ns),(y.lo,fo)]++Aez y ag on ca na co no cr nr,[(it,λ_=>Jw jF),(y.lo,λtk=>fr9 P (qf tk) y (tk 0) (tk 1) z.wo z.wt z.pl z.tl z.ra),(y.rl,λtk=>Ac (refs (tk 4)) (tk 5))],
  0,λ_ tk=>[(tk 0,Ac (refs (tk 6)) (tk 7)),(tk 1,Ac (refs (tk 8)) (tk 9))],k,λ_ _=>.ok .next,66⟩
noncomputable abbrev olK(y:RS)(it cs ns j:Nat)(fo:Obj)(ag on ca na co no cr nr:Nat)(s:SRc):List Ent:=[⟨it,Cd y.ss j,true,false⟩,⟨y.ss,Ac (refs cs) ns,false,false⟩,⟨y.lo,fo,true,false⟩]++Af0 y ag on ca na co no cr nr++s.K
noncomputable abbrev Yd(co ca cr r1 r2 r3:Nat)(N N1:List AO->Prop)(s:SRc):List AO->Prop:=λX=>(refs co).length+r1<=5000/\(refs ca).length+r2<=5000/\(refs cr).length+r3<=5000/\N (X++s.B)/\N1 (X++s.Bi)
noncomputable abbrev Ul(co ca cr r1 r2 r3:Nat)(N:List AO->Prop)(B:List AO):List AO->Prop:=Dk co ca cr r1 r2 r3 N B
noncomputable abbrev Jj(co ca cr:Nat)(ss:List SRc):AL:=λ_ tk L=>∃ vo va,refs (tk 8)=refs co++vo/\Nt L ss vo/\refs (tk 6)=refs ca++va/\AgVV L ss va/\refs (tk 4)=refs cr++Qk ss
theorem Nt.mono{L L':List AO}(h:∀ p∈L,p∈L'):∀ {ss:List SRc}{v:List Value},Nt L ss v->Nt L' ss v
 | [],_,e=>e
 | _::_,_,⟨ws,v,e,d,r⟩=>⟨ws,v,e,d.mono h,Nt.mono h r⟩
theorem AgVV.mono{L L':List AO}(h:∀ p∈L,p∈L'):∀ {ss:List SRc}{v:List Value},AgVV L ss v->AgVV L' ss v
 | [],_,e=>e
 | _::_,_,⟨va,v,e,d,r⟩=>⟨va,v,e,d.mono h,AgVV.mono h r⟩
theorem Aak{co ca cr cw d1 f0 f1 f2:Nat}{s:SRc}{X:List AO}{N N1:List AO->Prop}{F:List AO->Prop}(hN1:∀ X Y:List AO,(∀ p∈X,p∈Y)->N1 X->N1 Y)(hX:Yd co ca cr (1+(Aq s.rs).length) ((Aq s.rs).length+s.rs.length) s.rs.length N N1 s X)
  (hF:∀ L,(∃ vo va,refs f0=refs co++vo/\Nt L [s] vo/\refs f1=refs ca++va/\AgVV L [s] va/\refs f2=refs cr++Qk [s])->F L) :
  Ch F [(λ_=>True,λL=>Ab L (refs cw) [tokD (w2 s.wo)]),(λ_=>Bm co cw,λL=>L=[]/\refs d1=refs co++refs cw),(Dk d1 ca cr (Aq s.rs).length ((Aq s.rs).length+s.rs.length) s.rs.length N1 s.Bi,λL=>∃ va,refs f0=refs d1++Aq s.rs/\refs f1=refs ca++va/\AgV L s.wo s.rs va/\refs f2=refs cr++Iy s.rs)] X []:=by
 obtain ⟨h1,h2,h3,_,h5⟩:=hX
 refine cS trivial λL1 e1=>?_
 have k1:=e1.get.1
 simp only [List.length_cons,List.length_nil] at k1
 refine cS (by show _+_<=5000;omega) λL2 e2=>?_
 obtain ⟨rfl,e2⟩:=e2
 refine cS ⟨by rw [e2,List.length_append];omega,h2,h3,hN1 _ _ (λp hp=>by rcases List.mem_append.mp hp with hp|hp<;>simp [hp]) h5⟩ λL3 e3=>cZ (hF _ ?_)
 obtain ⟨va,a1,a2,a3,a4⟩:=e3
 have e1:Ab L1 (refs cw) [tokD (w2 s.wo)]:=e1
 exact ⟨refs cw++(Aq s.rs++[]),va++[],by rw [a1,e2];simp,⟨_,[],rfl,e1.mono λp hp=>by simp [hp],rfl⟩,by rw [a2];simp,⟨va,[],rfl,a3.mono λp hp=>by simp [hp],rfl⟩,by rw [a4];simp [Qk]⟩
theorem Aaj{co ca cr cw d1 f0 f1 f2 g0 g1 g2 r1 r2 r3:Nat}{s:SRc}{ss:List SRc}{X:List AO}{N N1:List AO->Prop}{F:List AO->Prop}(hN:∀ X Y:List AO,(∀ p∈X,p∈Y)->N X->N Y)(hN1:∀ X Y:List AO,(∀ p∈X,p∈Y)->N1 X->N1 Y)
  (hlen:∀ L va,AgV L s.wo s.rs va->va.length=(Aq s.rs).length+s.rs.length)(hX:Yd co ca cr (1+(Aq s.rs).length+r1) ((Aq s.rs).length+s.rs.length+r2) (s.rs.length+r3) N N1 s X)
  (hF:∀ L,(∃ vo va,refs g0=refs co++vo/\Nt L (s::ss) vo/\refs g1=refs ca++va/\AgVV L (s::ss) va/\refs g2=refs cr++Qk (s::ss))->F L)(hras:(Iy s.rs).length=s.rs.length) :
  Ch F [(λ_=>True,λL=>Ab L (refs cw) [tokD (w2 s.wo)]),(λ_=>Bm co cw,λL=>L=[]/\refs d1=refs co++refs cw),(Dk d1 ca cr (Aq s.rs).length ((Aq s.rs).length+s.rs.length) s.rs.length N1 s.Bi,λL=>∃ va,refs f0=refs d1++Aq s.rs/\refs f1=refs ca++va/\AgV L s.wo s.rs va/\refs f2=refs cr++Iy s.rs),
   (Ul f0 f1 f2 r1 r2 r3 N s.B,λL=>∃ vo va,refs g0=refs f0++vo/\Nt L ss vo/\refs g1=refs f1++va/\AgVV L ss va/\refs g2=refs f2++Qk ss)] X []:=by
 obtain ⟨h1,h2,h3,h4,h5⟩:=hX
 refine cS trivial λL1 e1=>?_
 have k1:=e1.get.1
 simp only [List.length_cons,List.length_nil] at k1
 refine cS (by show _+_<=5000;omega) λL2 e2=>?_
 obtain ⟨rfl,e2⟩:=e2
 refine cS ⟨by rw [e2,List.length_append];omega,by omega,by omega,hN1 _ _ (λp hp=>by rcases List.mem_append.mp hp with hp|hp<;>simp [hp]) h5⟩ λL3 e3=>?_
 obtain ⟨va,a1,a2,a3,a4⟩:=e3
 have k2:=hlen _ _ a3
 refine cS ⟨by rw [a1,e2,List.length_append,List.length_append];omega,by rw [a2,List.length_append];omega,by rw [a4,List.length_append];omega,hN _ _ (λp hp=>by rcases List.mem_append.mp hp with hp|hp<;>simp [hp]) h4⟩ λL4 e4=>cZ (hF _ ?_)
 obtain ⟨vo,vb,b1,b2,b3,b4,b5⟩:=e4
 have e1:Ab L1 (refs cw) [tokD (w2 s.wo)]:=e1
 exact ⟨refs cw++(Aq s.rs++vo),va++vb,by rw [b1,a1,e2];simp,⟨_,vo,rfl,e1.mono λp hp=>by simp [hp],b2.mono λp hp=>by simp [hp]⟩,by rw [b3,a2];simp,⟨va,vb,rfl,a3.mono λp hp=>by simp [hp],b4.mono λp hp=>by simp [hp]⟩,by rw [b5,a4];simp [Qk]⟩

theorem ol_im{y:RS}{it cs ns j jF:Nat}{q:QK}{w0:Str}{t0 p0 tl0 ra0:Nat}{z:FL}{ag on ca na co no cr nr tI rI jI:Nat}{s:SRc}{N N1:List AO->Prop}(hw:∀ c,OkF w b (cWL s.wo c) tT (Cu [w2 s.wo]))(hv:(refs cs)[j]?=some (.ref s.ia))(hN1:∀ X Y:List AO,(∀ p∈X,p∈Y)->N1 X->N1 Y)(hI:∀ q it on co no,OkF w b ((cIL Aa w.params y (s.is it) 0 jI (fr9 w.params q y ag on s.wo s.wt s.pl tl0 ra0) (λ_=>q) 10 tI rI ag on ca na co no cr nr).plus s.Bi) (Dk co ca cr (Aq s.rs).length ((Aq s.rs).length+s.rs.length) s.rs.length N1 s.Bi) (Ee s.wo co ca cr s.rs)){r1 r2 r3:Nat}{ss:List SRc}(hN:∀ X Y:List AO,(∀ p∈X,p∈Y)->N X->N Y)(hlen:∀ L va,AgV L s.wo s.rs va->va.length=(Aq s.rs).length+s.rs.length)(hras:(Iy s.rs).length=s.rs.length)(hr:∀ q ag on ca na co no cr nr,OkF w b ((cOL Aa w.params y it cs ns (j+1) jF (fr9 w.params q y ag on s.wo s.wt s.pl tI rI) (λ_=>q) 10 z ag on ca na co no cr nr).plus s.B) (Ul co ca cr r1 r2 r3 N s.B) (Jj co ca cr ss)):OkT w b ((cOL Aa w.params y it cs ns j jF (fr9 w.params q y ag on w0 t0 p0 tl0 ra0) (λ_=>q) 10 z ag on ca na co no cr nr).plus s.B) (Nc (envF (Aa w.params) 591 y.lo) it (stmO Aa w.params)) (Yd co ca cr (1+(Aq s.rs).length+r1) ((Aq s.rs).length+s.rs.length+r2) (s.rs.length+r3) N N1 s) (Jj co ca cr (s::ss)):=by
 let lZ:List (Fm w b):=[pl (λ_=>Df it y.ss j ns (refs cs) (.ref s.ia)) λ_=>Bo hv,fl (cWL s.wo) tT (Cu [w2 s.wo]) hw,⟨λA T c=>.full (cAdd co no (T 2) (T 3) c) (λ_=>Bm co (T 2)) (λ_ tk L=>L=[]/\refs (tk 0)=refs co++refs (T 2)),λ_ _ c=>Ay _ _ _ _ c⟩,⟨λA T c=>.full ((cIL Aa w.params y (s.is (itL c)) 0 jI (fr9 w.params q y ag (A 4) s.wo s.wt s.pl tl0 ra0) (λ_=>q) 10 tI rI ag (A 4) ca na (T 4) (T 5) cr nr).plus s.Bi) (Dk (T 4) ca cr (Aq s.rs).length ((Aq s.rs).length+s.rs.length) s.rs.length N1 s.Bi) (Ee s.wo (T 4) ca cr s.rs),λ_ _ _=>hI _ _ _ _ _⟩,⟨λA T c=>.full ((cOL Aa w.params y it cs ns (j+1) jF (fr9 w.params q y (T 7) (T 8) s.wo s.wt s.pl tI rI) (λ_=>q) 10 z (T 7) (T 8) (T 13) (T 14) (T 15) (T 16) (T 11) (T 12)).plus s.B) (Ul (T 15) (T 13) (T 11) r1 r2 r3 N s.B) (Jj (T 15) (T 13) (T 11) ss),λ_ _ _=>hr _ _ _ _ _ _ _ _ _⟩]
 refine oTX lZ (olK y it cs ns j (fr9 w.params q y ag on w0 t0 p0 tl0 ra0) ag on ca na co no cr nr s) 113 g36N [] [17,18,0,0,21,22,23,24,25,26] (λal tk=>[eW (tk 2) [tokD (w2 s.wo)],eA (tk 4) co (tk 2),(Dk (tk 4) ca cr (Aq s.rs).length ((Aq s.rs).length+s.rs.length) s.rs.length N1 s.Bi,Ee s.wo (tk 4) ca cr s.rs al (λz=>tk (7+z))),(Ul (tk (7+8)) (tk (7+6)) (tk (7+4)) r1 r2 r3 N s.B,Jj (tk (7+8)) (tk (7+6)) (tk (7+4)) ss al (λz=>tk (17+z)))]) ?_ ?_ (λal tk X hX=>Aaj (cw:=tk 2) (d1:=tk 4) (f0:=tk (7+8)) (f1:=tk (7+6)) (f2:=tk (7+4)) (g0:=tk (17+8)) (g1:=tk (17+6)) (g2:=tk (17+4)) hN hN1 hlen hX (λL h=>h) hras)<;>intros<;>kernel_rfl
theorem ol_il{y:RS}{it cs ns j jF:Nat}{q:QK}{w0:Str}{t0 p0 tl0 ra0:Nat}{z:FL}{ag on ca na co no cr nr tI rI jI:Nat}{s:SRc}{N N1:List AO->Prop}(hw:∀ c,OkF w b (cWL s.wo c) tT (Cu [w2 s.wo]))(hv:(refs cs)[j]?=some (.ref s.ia))(hN1:∀ X Y:List AO,(∀ p∈X,p∈Y)->N1 X->N1 Y)(hI:∀ q it on co no,OkF w b ((cIL Aa w.params y (s.is it) 0 jI (fr9 w.params q y ag on s.wo s.wt s.pl tl0 ra0) (λ_=>q) 10 tI rI ag on ca na co no cr nr).plus s.Bi) (Dk co ca cr (Aq s.rs).length ((Aq s.rs).length+s.rs.length) s.rs.length N1 s.Bi) (Ee s.wo co ca cr s.rs))(hl:(refs cs).length<=j+1):OkT w b ((cOL Aa w.params y it cs ns j (j+1) (fr9 w.params q y ag on w0 t0 p0 tl0 ra0) (λ_=>q) 10 ⟨s.wo,s.wt,s.pl,tI,rI⟩ ag on ca na co no cr nr).plus s.B) (Nc (envF (Aa w.params) 591 y.lo) it (stmO Aa w.params)) (Yd co ca cr (1+(Aq s.rs).length) ((Aq s.rs).length+s.rs.length) s.rs.length N N1 s) (Jj co ca cr [s]):=by
 let lZ:List (Fm w b):=[pl (λ_=>Df it y.ss j ns (refs cs) (.ref s.ia)) λ_=>Bo hv,fl (cWL s.wo) tT (Cu [w2 s.wo]) hw,⟨λA T c=>.full (cAdd co no (T 2) (T 3) c) (λ_=>Bm co (T 2)) (λ_ tk L=>L=[]/\refs (tk 0)=refs co++refs (T 2)),λ_ _ c=>Ay _ _ _ _ c⟩,⟨λA T c=>.full ((cIL Aa w.params y (s.is (itL c)) 0 jI (fr9 w.params q y ag (A 4) s.wo s.wt s.pl tl0 ra0) (λ_=>q) 10 tI rI ag (A 4) ca na (T 4) (T 5) cr nr).plus s.Bi) (Dk (T 4) ca cr (Aq s.rs).length ((Aq s.rs).length+s.rs.length) s.rs.length N1 s.Bi) (Ee s.wo (T 4) ca cr s.rs),λ_ _ _=>hI _ _ _ _ _⟩,pl (λ_=>Lg it y.ss (j+1) ns (refs cs)) λ_=>Gk hl]
 refine oTX lZ (olK y it cs ns j (fr9 w.params q y ag on w0 t0 p0 tl0 ra0) ag on ca na co no cr nr s) 119 g37N [] [7,8,0,0,11,12,13,14,15,16] (λal tk=>[eW (tk 2) [tokD (w2 s.wo)],eA (tk 4) co (tk 2),(Dk (tk 4) ca cr (Aq s.rs).length ((Aq s.rs).length+s.rs.length) s.rs.length N1 s.Bi,Ee s.wo (tk 4) ca cr s.rs al (λz=>tk (7+z)))]) ?_ ?_ (λal tk X hX=>Aak (cw:=tk 2) (d1:=tk 4) (f0:=tk (7+8)) (f1:=tk (7+6)) (f2:=tk (7+4)) hN1 hX (λL h=>h))<;>intros<;>kernel_rfl
theorem ol_em{y:RS}{it cs ns j jF:Nat}{q:QK}{w0:Str}{t0 p0 tl0 ra0:Nat}{z:FL}{ag on ca na co no cr nr tI rI jI:Nat}{s:SRc}{N N1:List AO->Prop}(hw:∀ c,OkF w b (cWL s.wo c) tT (Cu [w2 s.wo]))(hv:(refs cs)[j]?=some (.ref s.ia))(hN1:∀ X Y:List AO,(∀ p∈X,p∈Y)->N1 X->N1 Y)(hI:∀ q it on co no,OkF w b ((cIL Aa w.params y (s.is it) 0 jI (fr7 w.params q y ag on s.wo s.wt s.pl) (λtk=>q89 q (tk 10) (tk 11)) 12 tI rI ag on ca na co no cr nr).plus s.Bi) (Dk co ca cr (Aq s.rs).length ((Aq s.rs).length+s.rs.length) s.rs.length N1 s.Bi) (Ee s.wo co ca cr s.rs)){r1 r2 r3:Nat}{ss:List SRc}(hN:∀ X Y:List AO,(∀ p∈X,p∈Y)->N X->N Y)(hlen:∀ L va,AgV L s.wo s.rs va->va.length=(Aq s.rs).length+s.rs.length)(hras:(Iy s.rs).length=s.rs.length)(hr:∀ q ag on ca na co no cr nr,OkF w b ((cOL Aa w.params y it cs ns (j+1) jF (fr9 w.params q y ag on s.wo s.wt s.pl tI rI) (λ_=>q) 10 z ag on ca na co no cr nr).plus s.B) (Ul co ca cr r1 r2 r3 N s.B) (Jj co ca cr ss)):OkT w b ((cOL Aa w.params y it cs ns j jF (fr5 w.params q y ag on) (λtk=>q89 (q67 q (tk 10) (tk 11)) (tk 12) (tk 13)) 14 z ag on ca na co no cr nr).plus s.B) (Nc (envF (Aa w.params) 591 y.lo) it (stmO Aa w.params)) (Yd co ca cr (1+(Aq s.rs).length+r1) ((Aq s.rs).length+s.rs.length+r2) (s.rs.length+r3) N N1 s) (Jj co ca cr (s::ss)):=by
 let lZ:List (Fm w b):=[pl (λ_=>Df it y.ss j ns (refs cs) (.ref s.ia)) λ_=>Bo hv,fl (cWL s.wo) tT (Cu [w2 s.wo]) hw,⟨λA T c=>.full (cAdd co no (T 2) (T 3) c) (λ_=>Bm co (T 2)) (λ_ tk L=>L=[]/\refs (tk 0)=refs co++refs (T 2)),λ_ _ c=>Ay _ _ _ _ c⟩,⟨λA T c=>.full ((cIL Aa w.params y (s.is (itL c)) 0 jI (fr7 w.params (q67 q (T 0) (T 1)) y ag (A 4) s.wo s.wt s.pl) (λtk=>q89 (q67 q (T 0) (T 1)) (tk 10) (tk 11)) 12 tI rI ag (A 4) ca na (T 4) (T 5) cr nr).plus s.Bi) (Dk (T 4) ca cr (Aq s.rs).length ((Aq s.rs).length+s.rs.length) s.rs.length N1 s.Bi) (Ee s.wo (T 4) ca cr s.rs),λ_ _ _=>hI _ _ _ _ _⟩,⟨λA T c=>.full ((cOL Aa w.params y it cs ns (j+1) jF (fr9 w.params (q89 (q67 q (T 0) (T 1)) (T 17) (T 18)) y (T 7) (T 8) s.wo s.wt s.pl tI rI) (λ_=>(q89 (q67 q (T 0) (T 1)) (T 17) (T 18))) 10 z (T 7) (T 8) (T 13) (T 14) (T 15) (T 16) (T 11) (T 12)).plus s.B) (Ul (T 15) (T 13) (T 11) r1 r2 r3 N s.B) (Jj (T 15) (T 13) (T 11) ss),λ_ _ _=>hr _ _ _ _ _ _ _ _ _⟩]
 refine oTX lZ (olK y it cs ns j (fr5 w.params q y ag on) ag on ca na co no cr nr s) 113 g36N [] [19,20,0,0,23,24,25,26,27,28,0,1,17,18] (λal tk=>[eW (tk 2) [tokD (w2 s.wo)],eA (tk 4) co (tk 2),(Dk (tk 4) ca cr (Aq s.rs).length ((Aq s.rs).length+s.rs.length) s.rs.length N1 s.Bi,Ee s.wo (tk 4) ca cr s.rs al (λz=>tk (7+z))),(Ul (tk (7+8)) (tk (7+6)) (tk (7+4)) r1 r2 r3 N s.B,Jj (tk (7+8)) (tk (7+6)) (tk (7+4)) ss al (λz=>tk (19+z)))]) ?_ ?_ (λal tk X hX=>Aaj (cw:=tk 2) (d1:=tk 4) (f0:=tk (7+8)) (f1:=tk (7+6)) (f2:=tk (7+4)) (g0:=tk (19+8)) (g1:=tk (19+6)) (g2:=tk (19+4)) hN hN1 hlen hX (λL h=>h) hras)<;>intros<;>kernel_rfl
theorem ol_el{y:RS}{it cs ns j jF:Nat}{q:QK}{w0:Str}{t0 p0 tl0 ra0:Nat}{z:FL}{ag on ca na co no cr nr tI rI jI:Nat}{s:SRc}{N N1:List AO->Prop}(hw:∀ c,OkF w b (cWL s.wo c) tT (Cu [w2 s.wo]))(hv:(refs cs)[j]?=some (.ref s.ia))(hN1:∀ X Y:List AO,(∀ p∈X,p∈Y)->N1 X->N1 Y)(hI:∀ q it on co no,OkF w b ((cIL Aa w.params y (s.is it) 0 jI (fr7 w.params q y ag on s.wo s.wt s.pl) (λtk=>q89 q (tk 10) (tk 11)) 12 tI rI ag on ca na co no cr nr).plus s.Bi) (Dk co ca cr (Aq s.rs).length ((Aq s.rs).length+s.rs.length) s.rs.length N1 s.Bi) (Ee s.wo co ca cr s.rs))(hl:(refs cs).length<=j+1):OkT w b ((cOL Aa w.params y it cs ns j (j+1) (fr5 w.params q y ag on) (λtk=>q89 (q67 q (tk 10) (tk 11)) (tk 12) (tk 13)) 14 ⟨s.wo,s.wt,s.pl,tI,rI⟩ ag on ca na co no cr nr).plus s.B) (Nc (envF (Aa w.params) 591 y.lo) it (stmO Aa w.params)) (Yd co ca cr (1+(Aq s.rs).length) ((Aq s.rs).length+s.rs.length) s.rs.length N N1 s) (Jj co ca cr [s]):=by
 let lZ:List (Fm w b):=[pl (λ_=>Df it y.ss j ns (refs cs) (.ref s.ia)) λ_=>Bo hv,fl (cWL s.wo) tT (Cu [w2 s.wo]) hw,⟨λA T c=>.full (cAdd co no (T 2) (T 3) c) (λ_=>Bm co (T 2)) (λ_ tk L=>L=[]/\refs (tk 0)=refs co++refs (T 2)),λ_ _ c=>Ay _ _ _ _ c⟩,⟨λA T c=>.full ((cIL Aa w.params y (s.is (itL c)) 0 jI (fr7 w.params (q67 q (T 0) (T 1)) y ag (A 4) s.wo s.wt s.pl) (λtk=>q89 (q67 q (T 0) (T 1)) (tk 10) (tk 11)) 12 tI rI ag (A 4) ca na (T 4) (T 5) cr nr).plus s.Bi) (Dk (T 4) ca cr (Aq s.rs).length ((Aq s.rs).length+s.rs.length) s.rs.length N1 s.Bi) (Ee s.wo (T 4) ca cr s.rs),λ_ _ _=>hI _ _ _ _ _⟩,pl (λ_=>Lg it y.ss (j+1) ns (refs cs)) λ_=>Gk hl]
 refine oTX lZ (olK y it cs ns j (fr5 w.params q y ag on) ag on ca na co no cr nr s) 119 g37N [] [7,8,0,0,11,12,13,14,15,16,0,1,17,18] (λal tk=>[eW (tk 2) [tokD (w2 s.wo)],eA (tk 4) co (tk 2),(Dk (tk 4) ca cr (Aq s.rs).length ((Aq s.rs).length+s.rs.length) s.rs.length N1 s.Bi,Ee s.wo (tk 4) ca cr s.rs al (λz=>tk (7+z)))]) ?_ ?_ (λal tk X hX=>Aak (cw:=tk 2) (d1:=tk 4) (f0:=tk (7+8)) (f1:=tk (7+6)) (f2:=tk (7+4)) hN1 hX (λL h=>h))<;>intros<;>kernel_rfl
theorem Cc{w:World}{st:Nat->Option Obj}{x:Con}{need need':List AO->Prop}{also:AL}(h:Ad w st x need' also)(hn:∀ X,need X->need' X):Ad w st x need also:=by
 intro A s R X hA hdep hst hpre hnod hX hXn hap hnd hR
 exact h A s R X hA hdep hst hpre hnod hX hXn hap (hn X hnd) hR
noncomputable def Adp(rs:List PR):List Value:=rs.map λr=>.ref r.ia
noncomputable def allB(rs:List PR):List AO->Prop:=λX=>∀ r∈rs,∀ p∈r.B,p∈X
theorem Cr{rs:List PR}:∀ X Y:List AO,(∀ p∈X,p∈Y)->allB rs X->allB rs Y:=λX Y h a r hr p hp=>h p (a r hr p hp)
noncomputable def Ye(r:PR):List PR->PR
 | []=>r
 | r::rs=>Ye r rs
theorem Qy{vs:List Value}{j:Nat}{v:Value}{r:List Value}(h:vs.drop j=v::r):vs[j]?=some v/\vs.drop (j+1)=r:=by
 have e1:vs[j]?=some v:=by
  have:(vs.drop j)[0]?=some v:=by rw [h];rfl
  rwa [List.getElem?_drop,Nat.add_zero] at this
 exact ⟨e1,by rw [←List.drop_drop,h];rfl⟩
theorem Eu(r:PR)(rs:List PR):(Aq (r::rs)).length=(refs r.ct).length+(Aq rs).length:=by simp [Aq]
theorem Mu:∀ rs:List PR,(Iy rs).length=rs.length
 | []=>rfl
 | _::rs=>by simp [Iy,Mu rs]
theorem Vd{L:List AO}{word:Str}:∀ {rs:List PR}{va:List Value},AgV L word rs va->va.length=(Aq rs).length+rs.length
 | [],_,e=>by rw [show _=[] from e];rfl
 | r::rs,_,⟨ws,va,e,d,h⟩=>by
  have k:=d.get.1
  simp only [List.length_cons,List.length_nil] at k
  rw [e,List.length_append,List.length_append,Vd h,Eu,List.length_cons]
  omega
noncomputable abbrev Ks(co ca cr r1 r2 r3:Nat)(N:List AO->Prop):List AO->Prop:=λX=>(refs co).length+r1<=5000/\(refs ca).length+r2<=5000/\(refs cr).length+r3<=5000/\N X
section
variable {w:World}{b:B3}{y:RS}{x:IS}
theorem Af1(hw:∀ c,OkF w b (cWL x.wo c) tT (Cu [w2 x.wo])):∀ (rs:List PR)(r:PR)(j:Nat),(refs x.cp).drop j=Adp (r::rs)->(∀ r'∈r::rs,r'.ia≠r'.tl)->∀ (q:QK)(tl0 ra0 ag on ca na co no cr nr:Nat),
  OkF w b (cIL Aa w.params y x j (j+(r::rs).length) (fr9 w.params q y ag on x.wo x.wt x.pl tl0 ra0) (λ_=>q) 10 (Ye r rs).tl (Ye r rs).ra ag on ca na co no cr nr) (Ks co ca cr (Aq (r::rs)).length ((Aq (r::rs)).length+(r::rs).length) (r::rs).length (allB (r::rs))) (Ee x.wo co ca cr (r::rs)):=by
 intro rs
 induction rs with
 | nil=>
  intro r j hd hne q tl0 ra0 ag on ca na co no cr nr
  obtain ⟨hv,hl⟩:=Qy hd
  have hl:(refs x.cp).length<=j+1:=List.drop_eq_nil_iff.mp hl
  have h:=Cw (Me w.params) rfl (λ_ _=>.next) (λ_ _=>rfl) (by show 1<=62;decide) (il_il (w:=w) (b:=b) (y:=y) (q:=q) (tl0:=tl0) (ra0:=ra0) (ag:=ag) (on:=on) (ca:=ca) (na:=na) (co:=co) (no:=no) (cr:=cr) (nr:=nr) (N:=λ_=>True) (tF:=0) (rF:=0) (jF:=0) hw hv hl)
  refine hide (M:=Ks co ca cr (Aq [r]).length ((Aq [r]).length+[r].length) [r].length (allB [r])) (B:=r.B) (λX Y h z=>⟨z.1,z.2.1,z.2.2.1,Cr X Y h z.2.2.2⟩) (by simpa [PR.B] using hne r (.head _)) (Cc h λX z=>?_) (λX hX=>⟨λp hp=>hX.2.2.2 r (.head _) p hp,hX⟩)
  obtain ⟨z1,z2,z3,z4⟩:=z
  rw [Eu] at z1 z2
  simp only [Aq,List.length_nil,List.length_cons] at z1 z2 z3
  exact ⟨by omega,by omega,by omega,trivial⟩
 | cons r2 rs ih=>
  intro r j hd hne q tl0 ra0 ag on ca na co no cr nr
  obtain ⟨hv,hd2⟩:=Qy hd
  have ih:=ih r2 (j+1) hd2 (λr' hr=>hne r' (.tail _ hr))
  have e1:j+1+(r2::rs).length=j+(r::r2::rs).length:=by simp only [List.length_cons];omega
  rw [e1] at ih
  have hr:=λq (ag on ca na co no cr nr:Nat)=>Gv (B:=r.B) (ih q r.tl r.ra ag on ca na co no cr nr)
  have h:=Cw (Me w.params) rfl (λ_ _=>.next) (λ_ _=>rfl) (by show 1<=62;decide) (il_im (w:=w) (b:=b) (y:=y) (q:=q) (tl0:=tl0) (ra0:=ra0) (ag:=ag) (on:=on) (ca:=ca) (na:=na) (co:=co) (no:=no) (cr:=cr) (nr:=nr) (r:=r) (rs:=r2::rs) (N:=allB (r2::rs)) hw hv Cr hr)
  refine hide (M:=Ks co ca cr (Aq (r::r2::rs)).length ((Aq (r::r2::rs)).length+(r::r2::rs).length) (r::r2::rs).length (allB (r::r2::rs))) (B:=r.B) (λX Y h z=>⟨z.1,z.2.1,z.2.2.1,Cr X Y h z.2.2.2⟩) (by simpa [PR.B] using hne r (.head _)) (Cc h λX z=>?_) (λX hX=>⟨λp hp=>hX.2.2.2 r (.head _) p hp,hX⟩)
  obtain ⟨z1,z2,z3,z4⟩:=z
  rw [Eu] at z1 z2
  rw [List.length_cons] at z2 z3
  exact ⟨by omega,by omega,by omega,λr' hr=>z4 r' (.tail _ hr)⟩
theorem Agy(hw:∀ c,OkF w b (cWL x.wo c) tT (Cu [w2 x.wo])):∀ (rs:List PR)(r:PR)(j:Nat),(refs x.cp).drop j=Adp (r::rs)->(∀ r'∈r::rs,r'.ia≠r'.tl)->∀ (q:QK)(ag on ca na co no cr nr:Nat),
  OkF w b (cIL Aa w.params y x j (j+(r::rs).length) (fr7 w.params q y ag on x.wo x.wt x.pl) (λtk=>q89 q (tk 10) (tk 11)) 12 (Ye r rs).tl (Ye r rs).ra ag on ca na co no cr nr) (Ks co ca cr (Aq (r::rs)).length ((Aq (r::rs)).length+(r::rs).length) (r::rs).length (allB (r::rs))) (Ee x.wo co ca cr (r::rs))
 | [],r,j,hd,hne,q,ag,on,ca,na,co,no,cr,nr=>by
  obtain ⟨hv,hl⟩:=Qy hd
  have hl:(refs x.cp).length<=j+1:=List.drop_eq_nil_iff.mp hl
  have h:=Cw (Me w.params) rfl (λ_ _=>.next) (λ_ _=>rfl) (by show 1<=62;decide) (il_el (w:=w) (b:=b) (y:=y) (q:=q) (ag:=ag) (on:=on) (ca:=ca) (na:=na) (co:=co) (no:=no) (cr:=cr) (nr:=nr) (N:=λ_=>True) (tl0:=0) (ra0:=0) (tF:=0) (rF:=0) (jF:=0) hw hv hl)
  refine hide (M:=Ks co ca cr (Aq [r]).length ((Aq [r]).length+[r].length) [r].length (allB [r])) (B:=r.B) (λX Y h z=>⟨z.1,z.2.1,z.2.2.1,Cr X Y h z.2.2.2⟩) (by simpa [PR.B] using hne r (.head _)) (Cc h λX z=>?_) (λX hX=>⟨λp hp=>hX.2.2.2 r (.head _) p hp,hX⟩)
  obtain ⟨z1,z2,z3,z4⟩:=z
  rw [Eu] at z1 z2
  simp only [Aq,List.length_nil,List.length_cons] at z1 z2 z3
  exact ⟨by omega,by omega,by omega,trivial⟩
 | r2::rs,r,j,hd,hne,q,ag,on,ca,na,co,no,cr,nr=>by
  obtain ⟨hv,hd2⟩:=Qy hd
  have ih:=Af1 (y:=y) hw rs r2 (j+1) hd2 (λr' hr=>hne r' (.tail _ hr))
  have e1:j+1+(r2::rs).length=j+(r::r2::rs).length:=by simp only [List.length_cons];omega
  rw [e1] at ih
  have hr:=λq (ag on ca na co no cr nr:Nat)=>Gv (B:=r.B) (ih q r.tl r.ra ag on ca na co no cr nr)
  have h:=Cw (Me w.params) rfl (λ_ _=>.next) (λ_ _=>rfl) (by show 1<=62;decide) (il_em (w:=w) (b:=b) (y:=y) (q:=q) (ag:=ag) (on:=on) (ca:=ca) (na:=na) (co:=co) (no:=no) (cr:=cr) (nr:=nr) (r:=r) (rs:=r2::rs) (N:=allB (r2::rs)) (tl0:=0) (ra0:=0) hw hv Cr hr)
  refine hide (M:=Ks co ca cr (Aq (r::r2::rs)).length ((Aq (r::r2::rs)).length+(r::r2::rs).length) (r::r2::rs).length (allB (r::r2::rs))) (B:=r.B) (λX Y h z=>⟨z.1,z.2.1,z.2.2.1,Cr X Y h z.2.2.2⟩) (by simpa [PR.B] using hne r (.head _)) (Cc h λX z=>?_) (λX hX=>⟨λp hp=>hX.2.2.2 r (.head _) p hp,hX⟩)
  obtain ⟨z1,z2,z3,z4⟩:=z
  rw [Eu] at z1 z2
  rw [List.length_cons] at z2 z3
  exact ⟨by omega,by omega,by omega,λr' hr=>z4 r' (.tail _ hr)⟩
end
noncomputable def Oi:List PR->PR
 | []=>⟨0,0,0,0,0⟩
 | r::rs=>Ye r rs
noncomputable def Zs(ss:List SRc):List Value:=ss.map λs=>.ref s.ia
structure SOk (s:SRc):Prop where
 w:Pi s.wo
 ne:s.ia≠s.pl
 cp:refs s.cp=Adp s.rs
 rs:s.rs≠[]
 rne:∀ r∈s.rs,r.ia≠r.tl
 far:∀ r∈s.rs,∀ p∈r.B,p.1≠s.pl
noncomputable def allS(ss:List SRc):List AO->Prop:=λX=>∀ s∈ss,(∀ p∈s.B,p∈X)/\allB s.rs X
theorem Gg{ss:List SRc}:∀ X Y:List AO,(∀ p∈X,p∈Y)->allS ss X->allS ss Y:=λX Y h a s hs=>⟨λp hp=>h p ((a s hs).1 p hp),Cr X Y h (a s hs).2⟩
noncomputable def fl1(s:SRc):FL:=⟨s.wo,s.wt,s.pl,(Oi s.rs).tl,(Oi s.rs).ra⟩
noncomputable def Aaw(s:SRc):List SRc->SRc
 | []=>s
 | s::ss=>Aaw s ss
noncomputable def Ju:List SRc->Nat
 | []=>0
 | s::r=>1+(Aq s.rs).length+Ju r
noncomputable def agN:List SRc->Nat
 | []=>0
 | s::r=>(Aq s.rs).length+s.rs.length+agN r
noncomputable def rowN:List SRc->Nat
 | []=>0
 | s::r=>s.rs.length+rowN r
theorem Fp{k:Str}(h:Pi k)(c:Code):OkF w b (cWL k c) tT (Cu [w2 k]):=by
 rcases h with rfl|rfl|rfl|rfl
 ·exact Fq Ln c
 ·exact Fq Rs c
 ·exact Fq Py c
 ·exact Fq Mp c
theorem Aef{s:SRc}(h:SOk s){X:List AO}(a:allB s.rs (X++s.B)):allB s.rs (X++s.Bi):=by
 intro r hr p hp
 rcases List.mem_append.mp (a r hr p hp) with z|z
 ·exact mai (z)
 ·rcases mcm z with rfl|z
  ·exact maj ((.head _))
  ·rcases mcm z with rfl|z
   ·exact absurd rfl (h.far r hr _ hp)
   ·cases z
section
variable {w:World}{b:B3}{y:RS}
theorem hI_in{s:SRc}(h:SOk s)(tl0 ra0 ag ca na cr nr:Nat)(q:QK)(it on co no:Nat):OkF w b ((cIL Aa w.params y (s.is it) 0 s.rs.length (fr9 w.params q y ag on s.wo s.wt s.pl tl0 ra0) (λ_=>q) 10 (Oi s.rs).tl (Oi s.rs).ra ag on ca na co no cr nr).plus s.Bi) (Dk co ca cr (Aq s.rs).length ((Aq s.rs).length+s.rs.length) s.rs.length (allB s.rs) s.Bi) (Ee s.wo co ca cr s.rs):=by
 cases e:s.rs with
 | nil=>exact absurd e h.rs
 | cons r rs=>
  have z:=Af1 (w:=w) (b:=b) (y:=y) (x:=s.is it) (λc=>Fp h.w c) rs r 0 (by show (refs s.cp).drop 0=_;rw [h.cp,e];rfl) (λr' hr=>h.rne r' (by rw [e];exact hr)) q tl0 ra0 ag on ca na co no cr nr
  rw [Nat.zero_add] at z
  exact Gv (B:=s.Bi) z
theorem hI_en{s:SRc}(h:SOk s)(ag ca na cr nr:Nat)(q:QK)(it on co no:Nat):OkF w b ((cIL Aa w.params y (s.is it) 0 s.rs.length (fr7 w.params q y ag on s.wo s.wt s.pl) (λtk=>q89 q (tk 10) (tk 11)) 12 (Oi s.rs).tl (Oi s.rs).ra ag on ca na co no cr nr).plus s.Bi) (Dk co ca cr (Aq s.rs).length ((Aq s.rs).length+s.rs.length) s.rs.length (allB s.rs) s.Bi) (Ee s.wo co ca cr s.rs):=by
 cases e:s.rs with
 | nil=>exact absurd e h.rs
 | cons r rs=>
  have z:=Agy (w:=w) (b:=b) (y:=y) (x:=s.is it) (λc=>Fp h.w c) rs r 0 (by show (refs s.cp).drop 0=_;rw [h.cp,e];rfl) (λr' hr=>h.rne r' (by rw [e];exact hr)) q ag on ca na co no cr nr
  rw [Nat.zero_add] at z
  exact Gv (B:=s.Bi) z
theorem ol_all{it cs ns:Nat}:∀ (ss:List SRc)(s:SRc)(j:Nat),(refs cs).drop j=Zs (s::ss)->(∀ s'∈s::ss,SOk s')->∀ (q:QK)(w0:Str)(t0 p0 tl0 ra0 ag on ca na co no cr nr:Nat),
  OkF w b (cOL Aa w.params y it cs ns j (j+(s::ss).length) (fr9 w.params q y ag on w0 t0 p0 tl0 ra0) (λ_=>q) 10 (fl1 (Aaw s ss)) ag on ca na co no cr nr) (Ks co ca cr (Ju (s::ss)) (agN (s::ss)) (rowN (s::ss)) (allS (s::ss))) (Jj co ca cr (s::ss)):=by
 intro ss
 induction ss with
 | nil=>
  intro s j hd ho q w0 t0 p0 tl0 ra0 ag on ca na co no cr nr
  obtain ⟨hv,hl⟩:=Qy hd
  have hl:(refs cs).length<=j+1:=List.drop_eq_nil_iff.mp hl
  have hs:=ho s (.head _)
  have h:=Cw (Mf w.params) rfl (λ_ _=>.next) (λ_ _=>rfl) (by show 1<=66;decide) (ol_il (w:=w) (b:=b) (y:=y) (it:=it) (ns:=ns) (q:=q) (w0:=w0) (t0:=t0) (p0:=p0) (tl0:=tl0) (ra0:=ra0) (ag:=ag) (on:=on) (ca:=ca) (na:=na) (co:=co) (no:=no) (cr:=cr) (nr:=nr) (N:=λ_=>True) (N1:=allB s.rs) (jF:=0) (z:=fl1 s) (λc=>Fp hs.w c) hv Cr (hI_in hs tl0 ra0 ag ca na cr nr) hl)
  refine hide (M:=Ks co ca cr (Ju [s]) (agN [s]) (rowN [s]) (allS [s])) (B:=s.B) (λX Y h z=>⟨z.1,z.2.1,z.2.2.1,Gg X Y h z.2.2.2⟩) (by simpa [SRc.B] using hs.ne) (Cc h λX z=>?_) (λX hX=>⟨λp hp=>(hX.2.2.2 s (.head _)).1 p hp,hX⟩)
  obtain ⟨z1,z2,z3,z4⟩:=z
  simp only [Ju,agN,rowN] at z1 z2 z3
  exact ⟨by omega,by omega,by omega,trivial,Aef hs (z4 s (.head _)).2⟩
 | cons s2 ss ih=>
  intro s j hd ho q w0 t0 p0 tl0 ra0 ag on ca na co no cr nr
  obtain ⟨hv,hd2⟩:=Qy hd
  have hs:=ho s (.head _)
  have ih:=ih s2 (j+1) hd2 (λs' hr=>ho s' (.tail _ hr))
  have e1:j+1+(s2::ss).length=j+(s::s2::ss).length:=by simp only [List.length_cons];omega
  rw [e1] at ih
  have hr:=λq (ag on ca na co no cr nr:Nat)=>Gv (B:=s.B) (ih q s.wo s.wt s.pl (Oi s.rs).tl (Oi s.rs).ra ag on ca na co no cr nr)
  have h:=Cw (Mf w.params) rfl (λ_ _=>.next) (λ_ _=>rfl) (by show 1<=66;decide) (ol_im (w:=w) (b:=b) (y:=y) (it:=it) (ns:=ns) (q:=q) (w0:=w0) (t0:=t0) (p0:=p0) (tl0:=tl0) (ra0:=ra0) (ag:=ag) (on:=on) (ca:=ca) (na:=na) (co:=co) (no:=no) (cr:=cr) (nr:=nr) (ss:=s2::ss) (N:=allS (s2::ss)) (N1:=allB s.rs) (λc=>Fp hs.w c) hv Cr (hI_in hs tl0 ra0 ag ca na cr nr) Gg (λL va h=>Vd h) (Mu _) hr)
  refine hide (M:=Ks co ca cr (Ju (s::s2::ss)) (agN (s::s2::ss)) (rowN (s::s2::ss)) (allS (s::s2::ss))) (B:=s.B) (λX Y h z=>⟨z.1,z.2.1,z.2.2.1,Gg X Y h z.2.2.2⟩) (by simpa [SRc.B] using hs.ne) (Cc h λX z=>?_) (λX hX=>⟨λp hp=>(hX.2.2.2 s (.head _)).1 p hp,hX⟩)
  obtain ⟨z1,z2,z3,z4⟩:=z
  rw [Ju] at z1
  rw [agN] at z2
  rw [rowN] at z3
  exact ⟨by omega,by omega,by omega,λs' hr=>z4 s' (.tail _ hr),Aef hs (z4 s (.head _)).2⟩
theorem Agl{it cs ns:Nat}:∀ (ss:List SRc)(s:SRc)(j:Nat),(refs cs).drop j=Zs (s::ss)->(∀ s'∈s::ss,SOk s')->∀ (q:QK)(ag on ca na co no cr nr:Nat),
  OkF w b (cOL Aa w.params y it cs ns j (j+(s::ss).length) (fr5 w.params q y ag on) (λtk=>q89 (q67 q (tk 10) (tk 11)) (tk 12) (tk 13)) 14 (fl1 (Aaw s ss)) ag on ca na co no cr nr) (Ks co ca cr (Ju (s::ss)) (agN (s::ss)) (rowN (s::ss)) (allS (s::ss))) (Jj co ca cr (s::ss))
 | [],s,j,hd,ho,q,ag,on,ca,na,co,no,cr,nr=>by
  obtain ⟨hv,hl⟩:=Qy hd
  have hl:(refs cs).length<=j+1:=List.drop_eq_nil_iff.mp hl
  have hs:=ho s (.head _)
  have h:=Cw (Mf w.params) rfl (λ_ _=>.next) (λ_ _=>rfl) (by show 1<=66;decide) (ol_el (w:=w) (b:=b) (y:=y) (it:=it) (ns:=ns) (q:=q) (w0:="") (t0:=0) (p0:=0) (tl0:=0) (ra0:=0) (ag:=ag) (on:=on) (ca:=ca) (na:=na) (co:=co) (no:=no) (cr:=cr) (nr:=nr) (N:=λ_=>True) (N1:=allB s.rs) (jF:=0) (z:=fl1 s) (λc=>Fp hs.w c) hv Cr (hI_en hs ag ca na cr nr) hl)
  refine hide (M:=Ks co ca cr (Ju [s]) (agN [s]) (rowN [s]) (allS [s])) (B:=s.B) (λX Y h z=>⟨z.1,z.2.1,z.2.2.1,Gg X Y h z.2.2.2⟩) (by simpa [SRc.B] using hs.ne) (Cc h λX z=>?_) (λX hX=>⟨λp hp=>(hX.2.2.2 s (.head _)).1 p hp,hX⟩)
  obtain ⟨z1,z2,z3,z4⟩:=z
  simp only [Ju,agN,rowN] at z1 z2 z3
  exact ⟨by omega,by omega,by omega,trivial,Aef hs (z4 s (.head _)).2⟩
 | s2::ss,s,j,hd,ho,q,ag,on,ca,na,co,no,cr,nr=>by
  obtain ⟨hv,hd2⟩:=Qy hd
  have hs:=ho s (.head _)
  have ih:=ol_all (w:=w) (b:=b) (y:=y) (it:=it) (cs:=cs) (ns:=ns) ss s2 (j+1) hd2 (λs' hr=>ho s' (.tail _ hr))
  have e1:j+1+(s2::ss).length=j+(s::s2::ss).length:=by simp only [List.length_cons];omega
  rw [e1] at ih
  have hr:=λq (ag on ca na co no cr nr:Nat)=>Gv (B:=s.B) (ih q s.wo s.wt s.pl (Oi s.rs).tl (Oi s.rs).ra ag on ca na co no cr nr)
  have h:=Cw (Mf w.params) rfl (λ_ _=>.next) (λ_ _=>rfl) (by show 1<=66;decide) (ol_em (w:=w) (b:=b) (y:=y) (it:=it) (ns:=ns) (q:=q) (w0:="") (t0:=0) (p0:=0) (tl0:=0) (ra0:=0) (ag:=ag) (on:=on) (ca:=ca) (na:=na) (co:=co) (no:=no) (cr:=cr) (nr:=nr) (ss:=s2::ss) (N:=allS (s2::ss)) (N1:=allB s.rs) (λc=>Fp hs.w c) hv Cr (hI_en hs ag ca na cr nr) Gg (λL va h=>Vd h) (Mu _) hr)
  refine hide (M:=Ks co ca cr (Ju (s::s2::ss)) (agN (s::s2::ss)) (rowN (s::s2::ss)) (allS (s::s2::ss))) (B:=s.B) (λX Y h z=>⟨z.1,z.2.1,z.2.2.1,Gg X Y h z.2.2.2⟩) (by simpa [SRc.B] using hs.ne) (Cc h λX z=>?_) (λX hX=>⟨λp hp=>(hX.2.2.2 s (.head _)).1 p hp,hX⟩)
  obtain ⟨z1,z2,z3,z4⟩:=z
  rw [Ju] at z1
  rw [agN] at z2
  rw [rowN] at z3
  exact ⟨by omega,by omega,by omega,λs' hr=>z4 s' (.tail _ hr),Aef hs (z4 s (.head _)).2⟩
end
noncomputable def Ahp(c n:Nat)(cd:Code):Con:=⟨.call (.builtin "len") ⟨[.ref (Af cd 0)],[]⟩,[(Af cd 0,Ac (refs c) n)],[],0,λ_ _=>[],1,λ_ tk=>.ok (.ret (.int (refs c).length (tk 0))),0⟩
noncomputable def cNeN(cd:Code):Con:=⟨.call (.builtin "int.__ne__") ⟨[.int (As cd 0) (Aj cd 0),.int (As cd 1) (Aj cd 1)],[]⟩,[],[],0,λ_ _=>[],0,λ_ _=>.ok (.ret (.bool false)),0⟩
section
variable {w:World}{st:Nat->Option Obj}
theorem Aav(c n:Nat)(cd:Code):Ad w st (Ahp c n cd) (λ_=>(refs c).length<=5000) nL:=by
 refine Ji λX hX=>⟨λ_=>True,trivial,?_⟩
 exact Er (Ht (l:=Af cd 0) (vs:=refs c) (k:=n) (by omega))
theorem Aex(cd:Code):Ad w st (cNeN cd) (λ_=>As cd 0=As cd 1) nL:=by
 refine Ji λX hX=>⟨λ_=>True,trivial,?_⟩
 exact Er (ne_ok (x:=As cd 0) (y:=As cd 1) (r:=false) (by rw [hX];exact bne_self_eq_false _) cd)
end
noncomputable def Pt(P:Params)(c:Nat)(rows:List PyD)(N:Nat):List AO->Prop:=λX=>∃ ks ls:List Tk,refs c=ks.map (λk=>.ref k.a)/\Fo ks ls rows/\ks.length=ls.length+N/\ks.length<=5000/\ledK P ks X
theorem Zt{rd d tl nd:Addr}{t1 t2 t3:Tok}{nn kl c N:Nat}{rows:List PyD}(hne:rows≠[])(hlen:rows.length<=5000)(t:Tok) :
  OkF w b (cRR w.params ⟨rd,d,tl,nd,t1,t2,t3,nn,kl,refs c⟩ 0 N t) (Pt w.params c rows N) (λnw tk L=>Ab L (refs (tk 1)) rows):=by
 refine Ji λX hX=>?_
 obtain ⟨ks,ls,e1,ho,e2,e3,hl⟩:=hX
 refine ⟨ledK w.params ks,hl,?_⟩
 have hr:RdP ⟨rd,d,tl,nd,t1,t2,t3,nn,kl,refs c⟩ 0 ks:=by
  refine ⟨by decide,?_,e1⟩
  show (refs c).length < 2 ^ 62
  rw [e1,List.length_map];omega
 have h:=Afx (w:=w) (b:=b) (t:=t) hr ho hne hlen
 have e:Mine.far 0 ks ls=(N:Int):=by unfold Mine.far;omega
 rw [e] at h
 exact h
theorem Vn{w:World}{st:Nat->Option Obj}{l:List PyD}(hd:PyD.depL l<=50)(c1 c2:Nat)(c:Code):Ad w st ((Wr c).plus [(Af c 0,tupO (refs c1)),(Af c 1,tupO (refs c2))]) (λX=>Ab X (refs c1) l/\Ab X (refs c2) l) nL:=
 Cc (Gv (Acw hd c)) λX h=>⟨.tup (maj ((.head _))) (h.1.mono λp hp=>mai (hp)),.tup (maj ((.tail _ (.head _)))) (h.2.mono λp hp=>mai (hp))⟩
noncomputable abbrev Ac6(P:Params)(ts:List T2):AL:=λnw tk L=>Ac7 P ts nw tk L/\(L.map (·.1)).Nodup
theorem Aes{t:T2}{ts:List T2}(l cl nl:Nat):OkF w b (cRdr w.params l cl nl) (λX=>(t::ts).length<=5000/\Ab X (refs cl) ((t::ts).map tokD)) (Ac6 w.params (t::ts)):=Yj Aa5
theorem t_fin{P:Params}{c cb cr d e f g N:Nat}{a1 a2:Addr}{t:T2}{ts ta tb:List T2}{rows:List PyD}{X Nn:List AO}{F:List AO->Prop}{E:List Ev}(ht:ta++tb=t::ts)(hlen:(t::ts).length<=5000)(hN:N=ta.length)(hr5:rows.length<=5000)
  (hout:∀ ks:List Tk,ks.map Tk.pw=t::ts->∃ ls,Fo ks ls rows/\ks.length=ls.length+N)(h1:Ab X (refs c) (ta.map tokD))(h2:Ab X (refs cb) (tb.map tokD))(h3:Ab X (refs cr) rows)
  (hF:∀ L,Ch F E (X++L) (Nn++L)) :
  Ch F ((λ_=>Bm c cb,λL=>L=[]/\refs d=refs c++refs cb)::(λX=>(t::ts).length<=5000/\Ab X (refs d) ((t::ts).map tokD),λL=>(∃ ks:List Tk,ks.map Tk.pw=t::ts/\refs e=ks.map (λk=>.ref k.a)/\(Do P ks).Sublist L/\AtsL L 1 ks)/\(L.map (·.1)).Nodup)::
   (Pt P e rows N,λL=>Ab L (refs f) rows)::(λ_=>(refs cr).length<=5000,λL=>L=[]/\refs g=refs cr)::(λX=>Ab X (refs f) rows/\Ab X (refs g) rows,λL=>L=[])::(λ_=>(refs c).length<=5000,λL=>L=[])::(λ_=>(N:Int)=((refs c).length:Int),λL=>L=[])::E) X Nn:=by
 have k1:=h1.get.1
 have k2:=h2.get.1
 have k3:=h3.get.1
 rw [List.length_map] at k1 k2
 have kt:ta.length+tb.length=(t::ts).length:=by rw [←ht,List.length_append]
 refine cS (by show _+_<=5000;omega) λL0 e0=>?_
 obtain ⟨rfl,e0⟩:=e0
 refine cS ⟨hlen,by rw [e0,←ht,List.map_append,List.append_nil];exact Ab.app h1 h2⟩ λL1 e1=>?_
 obtain ⟨⟨ks,b1,b2,b3,b4⟩,b5⟩:=e1
 obtain ⟨ls,c1,c2⟩:=hout ks b1
 have kk:ks.length=(t::ts).length:=by rw [←b1,List.length_map]
 refine cS ⟨ks,ls,b2,c1,c2,by omega,λp hp=>by simp [b3.subset hp],b5.sublist (b3.map _)⟩ λL2 e2=>?_
 refine cS (by omega) λL3 e3=>?_
 obtain ⟨rfl,e3⟩:=e3
 have e2:Ab L2 (refs f) rows:=e2
 refine cS ⟨e2.mono λp hp=>by simp [hp],by rw [e3];exact h3.mono λp hp=>by simp [hp]⟩ λL4 e4=>?_
 have e4:L4=[]:=e4
 subst e4
 refine cS (by omega) λL5 e5=>?_
 have e5:L5=[]:=e5
 subst e5
 refine cS (by omega) λL6 e6=>?_
 have e6:L6=[]:=e6
 subst e6
 have z:=hF (L1++L2)
 simpa only [List.append_nil,List.append_assoc] using z
noncomputable def Afm(tp:Addr)(i:Nat):Obj:={ cls:=.type "tuple_iterator",data:=.fields #[.ref tp,rawInt i] }
noncomputable def Aeo:Obj:={ cls:=.type "tuple_iterator",data:=.fields #[.none,rawInt 2] }
noncomputable def fr10(P:Params)(q:QK)(k:Tok)(y:RS)(ag on:Nat)(z:FL)(tl rd:Nat):Obj:=Ek (es9 P q y ag on z.wo z.wt z.pl tl z.ra++[ent P "reader" k (.ref rd)]) 10
noncomputable def coTL(st:SP)(P:Params)(lo it:Addr):Code:=Jf (envF (st P) 591 lo) (.ref it) (Ae (st P 591))[2]?
structure TS where
 it:Addr
 tp:Addr
 ag:Addr
 on:Addr
 ca:Nat
 na:Nat
 co:Nat
 no:Nat
 cb:Nat
 nb:Nat
 cr:Nat
 nr:Nat
noncomputable def cT2(st:SP)(P:Params)(y:RS)(q:QK)(k:Tok)(z:FL)(x:TS)(tl rd:Nat):Con:=
 ⟨coTL st P y.lo x.it,[(x.it,Afm x.tp 1),(x.tp,tupO [.ref x.on,.ref x.ag]),(y.lo,fr10 P q k y x.ag x.on z tl rd),(x.ag,Ac (refs x.ca) x.na),(y.bh,Ac (refs x.cb) x.nb),(y.rl,Ac (refs x.cr) x.nr)],
  [(x.it,λ_=>Aeo),(y.lo,λtk=>fr10 P q k y x.ag x.on z x.ag (tk 0))],0,λ_ _=>[],1,λ_ _=>.ok .next,130⟩
noncomputable def cT1(st:SP)(P:Params)(y:RS)(q:QK)(z:FL)(x:TS):Con:=
 ⟨coTL st P y.lo x.it,[(x.it,Afm x.tp 0),(x.tp,tupO [.ref x.on,.ref x.ag]),(y.lo,fr9 P q y x.ag x.on z.wo z.wt z.pl z.tl z.ra),(x.ag,Ac (refs x.ca) x.na),(x.on,Ac (refs x.co) x.no),(y.bh,Ac (refs x.cb) x.nb),(y.rl,Ac (refs x.cr) x.nr)],
  [(x.it,λ_=>Aeo),(y.lo,λtk=>fr10 P q (tk 1) y x.ag x.on z x.ag (tk 0))],0,λ_ _=>[],2,λ_ _=>.ok .next,135⟩
noncomputable abbrev tK(y:RS)(x:TS)(i:Nat)(fo:Obj):List Ent:=[⟨x.it,Afm x.tp i,true,false⟩,⟨x.tp,tupO [.ref x.on,.ref x.ag],false,false⟩,⟨y.lo,fo,true,false⟩,⟨x.ag,Ac (refs x.ca) x.na,false,false⟩]
noncomputable abbrev tK2(y:RS)(x:TS):List Ent:=[⟨y.bh,Ac (refs x.cb) x.nb,false,false⟩,⟨y.rl,Ac (refs x.cr) x.nr,false,false⟩]

theorem rt_t2{y:RS}{q:QK}{k:Tok}{z:FL}{x:TS}{tl rd:Nat}{rows:List PyD}(hne:rows≠[])(hr5:rows.length<=5000)(hdep:PyD.depL rows<=50){ta tb ts:List T2}{t:T2}(ht:ta++tb=t::ts)(hlen:(t::ts).length<=5000)(hout:∀ ks:List Tk,ks.map Tk.pw=t::ts->∃ ls,Fo ks ls rows/\ks.length=ls.length+ta.length):OkT w b (cT2 Aa w.params y q k z x tl rd) (Nc (envF (Aa w.params) 591 y.lo) x.it (Ae (Aa w.params 591))[2]?) (λX=>Ab X (refs x.ca) (ta.map tokD)/\Ab X (refs x.cb) (tb.map tokD)/\Ab X (refs x.cr) rows/\True) (λ_ _ _=>True):=by
 let lZ:List (Fm w b):=[fl (cAdd x.ca x.na x.cb x.nb) (λ_=>Bm x.ca x.cb) (λ_ tk L=>L=[]/\refs (tk 0)=refs x.ca++refs x.cb) (Ay _ _ _ _),⟨λA T c=>.full (cRdr w.params (Af c 0) (T 1) (T 2)) (λX=>(t::ts).length<=5000/\Ab X (refs (T 1)) ((t::ts).map tokD)) (Ac6 w.params (t::ts)),λ_ _ _=>Aes _ _ _⟩,⟨λA T c=>.full (cRR w.params ⟨Af c 0,(A 2),(A 3),(A 4),(T 3),(T 4),(T 5),3,(T 7),refs (T 6)⟩ 0 (ta.length:Nat) 659) (Pt w.params (T 6) rows ta.length) (λnw tk L=>Ab L (refs (tk 1)) rows),λ_ _ _=>Zt hne hr5 _⟩,fl (Hr x.cr x.nr) (λ_=>(refs x.cr).length<=5000) (λ_ tk L=>L=[]/\refs (tk 0)=refs x.cr) (Ft _ _),⟨λA T c=>.full ((Wr c).plus [(Af c 0,tupO (refs (T 10))),(Af c 1,tupO (refs (T 11)))]) (λX=>Ab X (refs (T 10)) rows/\Ab X (refs (T 11)) rows) nL,λ_ _ c=>Vn hdep _ _ c⟩,fl (Ahp x.ca x.na) (λ_=>(refs x.ca).length<=5000) nL (Aav _ _),⟨λ_ _ c=>.full (cNeN c) (λ_=>As c 0=As c 1) nL,λ_ _ c=>Aex c⟩]
 refine oTX lZ (tK y x 1 (fr10 w.params q k y x.ag x.on z tl rd)++tK2 y x) 134 0x2880011872071c01c01c02091c90001001450000050000001490011820420400400412850002000010010840070061c00c01030841440c30020c0042041001001 [] [513] (λal tk=>[eA (tk 1) x.ca x.cb,(λX=>(t::ts).length<=5000/\Ab X (refs (tk 1)) ((t::ts).map tokD),λL=>(∃ ks:List Tk,ks.map Tk.pw=t::ts/\refs (tk (3+3))=ks.map (λk=>.ref k.a)/\(Do w.params ks).Sublist L/\AtsL L 1 ks)/\(L.map (·.1)).Nodup),(Pt w.params (tk (3+3)) rows ta.length,λL=>Ab L (refs (tk (9+1))) rows),(λ_=>(refs x.cr).length<=5000,λL=>L=[]/\refs (tk 11)=refs x.cr),(λX=>Ab X (refs (tk (9+1))) rows/\Ab X (refs (tk 11)) rows,λL=>L=[]),(λ_=>(refs x.ca).length<=5000,λL=>L=[]),(λ_=>((ta.length:Nat):Int)=((refs x.ca).length:Int),λL=>L=[])]) ?_ ?_ (λal tk X hX=>by refine t_fin (c:=x.ca) (cb:=x.cb) (cr:=x.cr) (d:=tk 1) (e:=tk (3+3)) (f:=tk (9+1)) (g:=tk 11) (N:=ta.length) (a1:=0) (a2:=0) (t:=t) (ts:=ts) (ta:=ta) (tb:=tb) (rows:=rows) ht hlen rfl hr5 hout hX.1 hX.2.1 hX.2.2.1 (λL=>?_);exact cZ trivial)<;>intros<;>kernel_rfl
theorem rt_t1{y:RS}{q:QK}{z:FL}{x:TS}{rows:List PyD}(hne:rows≠[])(hr5:rows.length<=5000)(hdep:PyD.depL rows<=50){ta tb ts:List T2}{t:T2}(ht:ta++tb=t::ts)(hlen:(t::ts).length<=5000)(hout:∀ ks:List Tk,ks.map Tk.pw=t::ts->∃ ls,Fo ks ls rows/\ks.length=ls.length+ta.length){N2:List AO->Prop}(hN:∀ X Y:List AO,(∀ p∈X,p∈Y)->N2 X->N2 Y)(h2:∀ k rd,OkF w b (cT2 Aa w.params y q k z x x.on rd) (λX=>N2 X) (λ_ _ _=>True)):OkT w b (cT1 Aa w.params y q z x) (Nc (envF (Aa w.params) 591 y.lo) x.it (Ae (Aa w.params 591))[2]?) (λX=>Ab X (refs x.co) (ta.map tokD)/\Ab X (refs x.cb) (tb.map tokD)/\Ab X (refs x.cr) rows/\N2 X) (λ_ _ _=>True):=by
 let lZ:List (Fm w b):=[fl (cAdd x.co x.no x.cb x.nb) (λ_=>Bm x.co x.cb) (λ_ tk L=>L=[]/\refs (tk 0)=refs x.co++refs x.cb) (Ay _ _ _ _),⟨λA T c=>.full (cRdr w.params (Af c 0) (T 1) (T 2)) (λX=>(t::ts).length<=5000/\Ab X (refs (T 1)) ((t::ts).map tokD)) (Ac6 w.params (t::ts)),λ_ _ _=>Aes _ _ _⟩,⟨λA T c=>.full (cRR w.params ⟨Af c 0,(A 2),(A 3),(A 4),(T 3),(T 4),(T 5),3,(T 7),refs (T 6)⟩ 0 (ta.length:Nat) 659) (Pt w.params (T 6) rows ta.length) (λnw tk L=>Ab L (refs (tk 1)) rows),λ_ _ _=>Zt hne hr5 _⟩,fl (Hr x.cr x.nr) (λ_=>(refs x.cr).length<=5000) (λ_ tk L=>L=[]/\refs (tk 0)=refs x.cr) (Ft _ _),⟨λA T c=>.full ((Wr c).plus [(Af c 0,tupO (refs (T 10))),(Af c 1,tupO (refs (T 11)))]) (λX=>Ab X (refs (T 10)) rows/\Ab X (refs (T 11)) rows) nL,λ_ _ c=>Vn hdep _ _ c⟩,fl (Ahp x.co x.no) (λ_=>(refs x.co).length<=5000) nL (Aav _ _),⟨λ_ _ c=>.full (cNeN c) (λ_=>As c 0=As c 1) nL,λ_ _ c=>Aex c⟩,⟨λA T c=>.full (cT2 Aa w.params y q (T 8) z x x.on (A 1)) (λX=>N2 X) (λ_ _ _=>True),λ_ _ _=>h2 _ _⟩]
 refine oTX lZ (tK y x 0 (fr9 w.params q y x.ag x.on z.wo z.wt z.pl z.tl z.ra)++⟨x.on,Ac (refs x.co) x.no,false,false⟩::tK2 y x) 116 0x818818c2c920718920a1c90001001450000050000001490011820420400400412c50002000010010840070061c00c01440851850c30020c0042041001001 [] [14,8] (λal tk=>[eA (tk 1) x.co x.cb,(λX=>(t::ts).length<=5000/\Ab X (refs (tk 1)) ((t::ts).map tokD),λL=>(∃ ks:List Tk,ks.map Tk.pw=t::ts/\refs (tk (3+3))=ks.map (λk=>.ref k.a)/\(Do w.params ks).Sublist L/\AtsL L 1 ks)/\(L.map (·.1)).Nodup),(Pt w.params (tk (3+3)) rows ta.length,λL=>Ab L (refs (tk (9+1))) rows),(λ_=>(refs x.cr).length<=5000,λL=>L=[]/\refs (tk 11)=refs x.cr),(λX=>Ab X (refs (tk (9+1))) rows/\Ab X (refs (tk 11)) rows,λL=>L=[]),(λ_=>(refs x.co).length<=5000,λL=>L=[]),(λ_=>((ta.length:Nat):Int)=((refs x.co).length:Int),λL=>L=[]),(λX=>N2 X,λL=>True)]) ?_ ?_ (λal tk X hX=>by refine t_fin (c:=x.co) (cb:=x.cb) (cr:=x.cr) (d:=tk 1) (e:=tk (3+3)) (f:=tk (9+1)) (g:=tk 11) (N:=ta.length) (a1:=0) (a2:=0) (t:=t) (ts:=ts) (ta:=ta) (tb:=tb) (rows:=rows) ht hlen rfl hr5 hout hX.1 hX.2.1 hX.2.2.1 (λL=>?_);exact cS (hN _ _ (λp hp=>mai (hp)) hX.2.2.2) (λL2 _=>cZ trivial))<;>intros<;>kernel_rfl
noncomputable def coRt(ss bh:Addr):Code:=.call (.ref 591) ⟨[.ref ss,.ref bh],[]⟩
noncomputable def cRt(ss bh cs ns cb nb:Nat):Con:=⟨coRt ss bh,[(ss,Ac (refs cs) ns),(bh,Ac (refs cb) nb)],[],0,λ_ _=>[],0,λ_ _=>.ok (.ret (.bool true)),145⟩

theorem Zw{ss bh cs ns cb nb jF:Nat}{z:FL}{sr:List SRc}{NM NA:List AO->Prop}{NB:Nat->Nat->Nat->List AO->Prop}(h1:∀ lo rl q it p,OkF w b (cOL Aa w.params ⟨lo,ss,bh,rl⟩ it cs ns 0 jF (fr5 w.params q ⟨lo,ss,bh,rl⟩ p.1 p.2) (λtk=>q89 (q67 q (tk 10) (tk 11)) (tk 12) (tk 13)) 14 z (p:Nat × Nat).1 p.2 10000000 0 10000000 0 10000000 0) NA (Jj 10000000 10000000 10000000 sr))(h2:∀ y q x,x.cb=cb->x.nb=nb->OkF w b (cT1 Aa w.params y q z x) (NB x.co x.ca x.cr) (λ_ _ _=>True))(hA:∀ X,NM X->NA X)(hB:∀ X L co ca cr,NM X->(∃ vo va,refs co=refs 10000000++vo/\Nt L sr vo/\refs ca=refs 10000000++va/\AgVV L sr va/\refs cr=refs 10000000++Qk sr)->NB co ca cr (X++L)):OkF w b (cRt ss bh cs ns cb nb) (NM) (λ_ _ _=>True):=by
 let lZ:List (Fm w b):=[⟨λA T c=>.full (cOL Aa w.params ⟨loL c,ss,bh,(A 3)⟩ (itL c) cs ns 0 jF (fr5 w.params ⟨(T 0),(T 1),(T 2),(T 3),(T 4),0,0,0,0⟩ ⟨loL c,ss,bh,(A 3)⟩ (A 2) (A 1)) (λtk=>q89 (q67 ⟨(T 0),(T 1),(T 2),(T 3),(T 4),0,0,0,0⟩ (tk 10) (tk 11)) (tk 12) (tk 13)) 14 z (A 2) (A 1) 10000000 0 10000000 0 10000000 0) NA (Jj 10000000 10000000 10000000 sr),λ_ _ _=>h1 _ _ _ _ (_,_)⟩,⟨λA T c=>.full (cT1 Aa w.params ⟨loL c,ss,bh,(A 3)⟩ (q89 (q67 ⟨(T 0),(T 1),(T 2),(T 3),(T 4),0,0,0,0⟩ (T 15) (T 16)) (T 17) (T 18)) z ⟨itL c,(A 9),(T 5),(T 6),(T 11),(T 12),(T 13),(T 14),cb,nb,(T 9),(T 10)⟩) (NB (T 13) (T 11) (T 9)) (λ_ _ _=>True),λ_ _ _=>h2 _ _ _ rfl rfl⟩]
 refine oFX lZ ([⟨ss,Ac (refs cs) ns,false,false⟩,⟨bh,Ac (refs cb) nb,false,false⟩]) 139 0x30024e0833010030400400412cb148005187209002040240249207207207201001081040040040042041001001001081040040040042041001001040040041040001001001 [] [] (λal tk=>[(NA,Jj 10000000 10000000 10000000 sr al (λz=>tk (5+z))),(NB (tk (5+8)) (tk (5+6)) (tk (5+4)),λL=>True)]) ?_ ?_ (λal tk X hX=>cS (hA X hX) λL h=>cS (hB X L _ _ _ hX h) λL2 _=>cZ trivial)<;>intros<;>kernel_rfl
theorem Aee{w:World}{st:Nat->Option Obj}{y:Con}{need:List AO->Prop}{also:AL}(h:∀ X,(X.map (·.1)).Nodup->need X->∃ need',need' X/\Ad w st y need' also):Ad w st y need also:=by
 intro A s R X hA hdep hst hpre hnod hX hXn hap hnd hR
 obtain ⟨n',a1,a2⟩:=h X hXn hnd
 exact a2 A s R X hA hdep hst hpre hnod hX hXn hap a1 hR
theorem Iz:∀ {X:List AO},(X.map (·.1)).Nodup->∀ {a:Addr}{o o':Obj},(a,o)∈X->(a,o')∈X->o=o'
 | [],_,_,_,_,h,_=>by cases h
 | x::X,hn,a,o,o',h,h'=>by
  rw [List.map_cons,List.nodup_cons] at hn
  rcases mcm h with e|h1<;>rcases mcm h' with e'|h2
  ·exact (Prod.mk.inj (e.trans e'.symm)).2
  ·exact absurd (by rw [←e];exact List.mem_map_of_mem (f:=(·.1)) h2) hn.1
  ·exact absurd (by rw [←e'];exact List.mem_map_of_mem (f:=(·.1)) h1) hn.1
  ·exact Iz hn.2 h1 h2
noncomputable def Qx(o:Obj):List Value:=match o.data with
 | .seq a _=>a.toList
 | _=>[]
theorem Acv{vs vs':List Value}(h:tupO vs=tupO vs'):vs=vs':=by
 have:=congrArg Qx h
 simpa [Qx,tupO] using this
theorem Aau{vs vs':List Value}{n n':Nat}(h:Ac vs n=Ac vs' n'):vs=vs':=by
 have:=congrArg Qx h
 simpa [Qx,Ac] using this
theorem Lq{vs vs':List Value}{n:Nat}(h:tupO vs=Ac vs' n):False:=by
 have:=congrArg (λo:Obj=>o.cls) h
 simp [tupO,Ac] at this
theorem DatV.uniq{X:List AO}(hn:(X.map (·.1)).Nodup){v:Value}{d d':PyD}(h:DatV X v d):DatV X v d'->d=d':=by
 refine DatV.rec (motive_1:=λv d _=>∀ {d'},DatV X v d'->d=d') (motive_2:=λv d _=>∀ {d'},Ab X v d'->d=d') ?_ ?_ ?_ (λhm _ ih d' h=>?_) (λhm _ ih d' h=>?_) ?_ ?_ h
 iterate 3 intros;rename_i h;cases h;rfl
 ·cases h with
  | tup hm' hs'=>rw [ih (Acv (Iz hn hm hm')▸hs')]
  | lst hm' hs'=>exact (Lq (Iz hn hm hm')).elim
 ·cases h with
  | tup hm' hs'=>exact (Lq (Iz hn hm' hm)).elim
  | lst hm' hs'=>rw [ih (Aau (Iz hn hm hm')▸hs')]
 ·intro _ h;cases h;rfl
 ·intro _ _ _ _ _ _ a b _ h
  cases h with
  | cons h1 h2=>rw [a h1,b h2]
theorem Ug{kind:Str}{toks:List T2}{row:PyD}(h:Ff kind toks row):toks≠[]/\(∃ l,row=.tup l)/\row.dep<=10:=by
 let ks:List Tk:=toks.map λt=>⟨0,0,0,t.1,t.2,0,0,0,0,0,0,0⟩
 have hk:ks.map Tk.pw=toks:=by
  show (toks.map _).map Tk.pw=toks
  rw [List.map_map]
  exact List.map_id toks
 have hh:Hard []:=⟨⟨rfl,rfl,rfl⟩,rfl,rfl⟩
 have e:=h.ex ks [] hk hh
 refine ⟨λz=>?_,?_,?_⟩
 ·have:=e.len
  rw [List.append_nil] at this
  rw [z] at hk
  have:ks=[]:=List.map_eq_nil_iff.mp hk
  rw [this] at e
  exact absurd e.len (by simp)
 ·rw [List.append_nil] at e
  clear_value ks
  cases e<;>exact ⟨_,rfl⟩
 ·have od:∀ o:Op,o.dat.dep<=3:=λo=>by cases o<;>simp [Op.dat,PyD.dep,PyD.depL]
  have oo:∀ o:Option Op,(optD o).dep<=3:=λo=>by cases o with
   | none=>simp [optD,PyD.dep]
   | some o=>exact od o
  have rd:∀ (k:Str)(o:Option Op)(b:Op)(o1 o2:Option Op),(rowD k o b o1 o2).dep<=10:=λk o b o1 o2=>by
   have h1:=oo o
   have h2:=od b
   have h3:=oo o1
   have h4:=oo o2
   simp only [rowD,PyD.dep,PyD.depL]
   omega
  rw [List.append_nil] at e
  clear_value ks
  cases e<;>exact rd _ _ _ _ _
theorem Vt{X:List AO}:∀ {vs:List Value}{l:List PyD},Ab X vs l->(∀ d∈l,∃ l',d=.tup l')->∃ c,refs c=vs:=by
 have key:∀ {vs:List Value}{l:List PyD},Ab X vs l->(∀ d∈l,∃ l',d=.tup l')->∃ as:List Addr,vs=Fw as:=by
  intro vs
  induction vs with
  | nil=>intro l _ _;exact ⟨[],rfl⟩
  | cons v vs ih=>
   intro l h hl
   cases h with
   | @cons _ d _ l h1 h2=>
    obtain ⟨as,e⟩:=ih h2 (λd hd=>hl d (.tail _ hd))
    obtain ⟨l',e'⟩:=hl d (.head _)
    subst e'
    cases h1
    exact ⟨_::as,by rw [e];rfl⟩
 intro vs l h hl
 obtain ⟨as,e⟩:=key h hl
 obtain ⟨c,hc⟩:=Dm as
 exact ⟨c,by rw [hc,e]⟩
structure PBe (X:List AO)(r:PR)(p:Part):Prop where
 toks:Ab X (refs r.ct) (p.1.map tokD)
 row:DatV X (.ref r.ra) p.2
theorem PBe.mono{X Y:List AO}(h:∀ p∈X,p∈Y){r:PR}{p:Part}(a:PBe X r p):PBe Y r p:=⟨a.toks.mono h,a.row.mono h⟩
inductive PsBe (X:List AO):List PR->List Part->Prop where
 | nil:PsBe X [] []
 | cons {r:PR}{p:Part}{rs:List PR}{ps:List Part}:PBe X r p->PsBe X rs ps->PsBe X (r::rs) (p::ps)
theorem PsBe.mono{X Y:List AO}(h:∀ p∈X,p∈Y):∀ {rs:List PR}{ps:List Part},PsBe X rs ps->PsBe Y rs ps:=PsBe.rec .nil λa _ r=>.cons (a.mono h) r
inductive SsBe (X:List AO):List SRc->List Cl->Prop where
 | nil:SsBe X [] []
 | cons {s:SRc}{o:Cl}{ss:List SRc}{os:List Cl}:s.wo=o.1->PsBe X s.rs o.2->SsBe X ss os->SsBe X (s::ss) (o::os)
theorem SsBe.mono{X Y:List AO}(h:∀ p∈X,p∈Y):∀ {ss:List SRc}{os:List Cl},SsBe X ss os->SsBe Y ss os:=SsBe.rec .nil λe a _ r=>.cons e (a.mono h) r
theorem Acy{l:List T2}:∀ d∈l.map tokD,∃ l',d=.tup l':=λd hd=>by
 obtain ⟨t,_,rfl⟩:=mmp hd
 exact ⟨_,rfl⟩
theorem rec_of{X:List AO}(hn:(X.map (·.1)).Nodup){v:Value}{p:Part}{kind:Str}(hp:Ff kind p.1 p.2)(h:DatV X v (Bp p)):∃ r:PR,v=.ref r.ia/\(∀ q∈r.B,q∈X)/\PBe X r p/\r.ia≠r.tl/\DatV X (.ref r.ia) (Bp p)/\DatV X (.ref r.tl) (.lst (p.1.map tokD)):=by
 have h0:=h
 unfold Bp at h
 cases h with
 | @tup ia _ _ hm hs=>
  cases hs with
  | cons h1 hs=>
   cases hs with
   | cons h2 hs=>
    cases hs
    have h1':=h1
    cases h1 with
    | @lst tl nl _ _ hl hls=>
     obtain ⟨ct,hc⟩:=Vt hls Acy
     obtain ⟨l,hrow⟩:=(Ug hp).2.1
     have h2':=h2
     rw [hrow] at h2
     cases h2 with
     | @tup ra _ _ hr hrs=>
      refine ⟨⟨ia,tl,ra,ct,nl⟩,rfl,λq hq=>?_,⟨by rw [hc];exact hls,h2'⟩,λz=>?_,h0,h1'⟩
      ·rcases mcm hq with rfl|hq
       ·exact hm
       ·rcases mcm hq with rfl|hq
        ·show (_,Ac (refs ct) _)∈X
         rw [hc];exact hl
        ·cases hq
      ·have z:ia=tl:=z
       rw [z] at hm
       exact Lq (Iz hn hm hl)
theorem Aga{X:List AO}(hn:(X.map (·.1)).Nodup){kind:Str}:∀ {ps:List Part}{vs:List Value},(∀ p∈ps,Ff kind p.1 p.2)->Ab X vs (ps.map Bp)->
  ∃ rs:List PR,vs=Adp rs/\allB rs X/\PsBe X rs ps/\(∀ r∈rs,r.ia≠r.tl)/\(∀ r∈rs,∃ p∈ps,DatV X (.ref r.ia) (Bp p)/\DatV X (.ref r.tl) (.lst (p.1.map tokD))):=by
 intro ps
 induction ps with
 | nil=>
  intro _ _ h
  cases h
  exact ⟨[],rfl,λ_ hr=>(nomatch hr),.nil,λ_ hr=>(nomatch hr),λ_ hr=>(nomatch hr)⟩
 | cons p ps ih=>
  intro _ hp h
  cases h with
  | cons h1 h2=>
   obtain ⟨r,e1,e2,e3,e4,e5,e6⟩:=rec_of hn (hp p (.head _)) h1
   obtain ⟨rs,f1,f2,f3,f4,f5⟩:=ih (λq hq=>hp q (.tail _ hq)) h2
   refine ⟨r::rs,by rw [e1,f1];rfl,λr' hr=>?_,.cons e3 f3,λr' hr=>?_,λr' hr=>?_⟩
   ·rcases mcm hr with rfl|hr
    ·exact e2
    ·exact f2 r' hr
   ·rcases mcm hr with rfl|hr
    ·exact e4
    ·exact f4 r' hr
   ·rcases mcm hr with rfl|hr
    ·exact ⟨p,.head _,e5,e6⟩
    ·obtain ⟨q,g1,g2⟩:=f5 r' hr
     exact ⟨q,.tail _ g1,g2⟩
theorem src_of{X:List AO}(hn:(X.map (·.1)).Nodup){v:Value}{o:Cl}(ho:Ps o.1 o.2)(h:DatV X v (Az o)) :
  ∃ s:SRc,v=.ref s.ia/\s.wo=o.1/\(∀ q∈s.B,q∈X)/\allB s.rs X/\PsBe X s.rs o.2/\SOk s:=by
 unfold Az at h
 cases h with
 | @tup ia _ _ hm hs=>
  cases hs with
  | cons h1 hs=>
   cases h1 with
   | @str _ wt=>
   cases hs with
   | cons h2 hs=>
    cases hs
    have h2':=h2
    cases h2 with
    | @lst pl np vs _ hl hls=>
     obtain ⟨rs,f1,f2,f3,f4,f5⟩:=Aga hn ho.ok hls
     obtain ⟨cp,hc⟩:=Vt hls (λd hd=>by
      obtain ⟨p,_,rfl⟩:=mmp hd
      exact ⟨_,rfl⟩)
     refine ⟨⟨ia,pl,cp,np,o.1,wt,rs⟩,rfl,rfl,λq hq=>?_,f2,f3,⟨ho.k,λz=>?_,by rw [←f1,←hc],λz=>?_,f4,λr hr q hq z=>?_⟩⟩
     ·rcases mcm hq with rfl|hq
      ·exact hm
      ·rcases mcm hq with rfl|hq
       ·show (pl,Ac (refs cp) np)∈X
        rw [hc];exact hl
       ·cases hq
     ·have z:ia=pl:=z
      rw [z] at hm
      exact Lq (Iz hn hm hl)
     ·have z:rs=[]:=z
      subst z
      have hne:=ho.ne
      cases hop:o.2 with
      | nil=>exact hne hop
      | cons p ps=>rw [hop] at f3;cases f3
     ·obtain ⟨p,hp,g1,g2⟩:=f5 r hr
      have z:q.1=pl:=z
      rcases mcm hq with rfl|hq
      ·have z:r.ia=pl:=z
       rw [z] at g1
       have:=DatV.uniq hn g1 h2'
       unfold Bp at this
       cases this
      ·rcases mcm hq with rfl|hq
       ·have z:r.tl=pl:=z
        rw [z] at g2
        have e:=DatV.uniq hn g2 h2'
        injection e with e
        have ht:=(Ug (ho.ok p hp)).1
        cases hp1:p.1 with
        | nil=>exact ht hp1
        | cons t ts=>
         rw [hp1] at e
         cases hop:o.2 with
         | nil=>exact ho.ne hop
         | cons p' ps=>
          rw [hop] at e
          have e:=(List.cons.inj (show tokD t::ts.map tokD=Bp p'::ps.map Bp from e)).1
          unfold tokD Bp at e
          injection e with e
          have e:=(List.cons.inj e).1
          cases e
       ·cases hq
theorem Afq{X:List AO}(hn:(X.map (·.1)).Nodup):∀ {os:List Cl}{vs:List Value},(∀ o∈os,Ps o.1 o.2)->Ab X vs (os.map Az)->
  ∃ ss:List SRc,vs=Zs ss/\allS ss X/\SsBe X ss os/\(∀ s∈ss,SOk s):=by
 intro os
 induction os with
 | nil=>
  intro _ _ h
  cases h
  exact ⟨[],rfl,λ_ hr=>(nomatch hr),.nil,λ_ hr=>(nomatch hr)⟩
 | cons o os ih=>
  intro _ ho h
  cases h with
  | cons h1 h2=>
   obtain ⟨s,e1,e2,e3,e4,e5,e6⟩:=src_of hn (ho o (.head _)) h1
   obtain ⟨ss,f1,f2,f3,f4⟩:=ih (λq hq=>ho q (.tail _ hq)) h2
   refine ⟨s::ss,by rw [e1,f1];rfl,λr' hr=>?_,.cons e2 e5 f3,λr' hr=>?_⟩
   ·rcases mcm hr with rfl|hr
    ·exact ⟨e3,e4⟩
    ·exact f2 r' hr
   ·rcases mcm hr with rfl|hr
    ·exact e6
    ·exact f4 r' hr
section
variable {X L:List AO}
theorem Adw{rs:List PR}{ps:List Part}(h:PsBe X rs ps):Ab X (Aq rs) ((Lp ps).map tokD):=by
 induction h with
 | nil=>exact .nil
 | @cons _ p _ ps a _ r=>
  show Ab X (_++_) ((p.1++Lp ps).map tokD)
  rw [List.map_append]
  exact Ab.app a.toks r
theorem Adg{ss:List SRc}{os:List Cl}{v:List Value}(h:SsBe X ss os):Nt L ss v->Ab (X++L) v ((Qp os).map tokD):=by
 induction h generalizing v with
 | nil=>intro e;rw [show v=[] from e];exact .nil
 | @cons _ o _ os e a _ r=>
  rintro ⟨ws,v',rfl,d,h⟩
  show Ab _ (ws++(_++v')) (tokD (w2 o.1)::(Lp o.2++Qp os).map tokD)
  rw [List.map_append]
  rw [e] at d
  exact Ab.app (l:=[tokD (w2 o.1)]) d.right (Ab.app (Adw a).left (r h))
theorem ag_dat{word:Str}{rs:List PR}{ps:List Part}{v:List Value}(h:PsBe X rs ps):AgV L word rs v->Ab (X++L) v ((Ir word ps).map tokD):=by
 induction h generalizing v with
 | nil=>intro e;rw [show v=[] from e];exact .nil
 | @cons _ p _ ps a _ r=>
  rintro ⟨ws,v',rfl,d,h⟩
  show Ab _ (ws++(_++v')) (tokD (w2 word)::(p.1++Ir word ps).map tokD)
  rw [List.map_append]
  exact Ab.app (l:=[tokD (w2 word)]) d.right (Ab.app a.toks.left (r h))
theorem Ac9{ss:List SRc}{os:List Cl}{v:List Value}(h:SsBe X ss os):AgVV L ss v->Ab (X++L) v ((Iq os).map tokD):=by
 induction h generalizing v with
 | nil=>intro e;rw [show v=[] from e];exact .nil
 | @cons _ o _ os e a _ r=>
  rintro ⟨va,v',rfl,d,h⟩
  show Ab _ (va++v') ((Ir o.1 o.2++Iq os).map tokD)
  rw [List.map_append]
  rw [e] at d
  exact Ab.app (ag_dat a d) (r h)
theorem Agb:∀ {rs:List PR}{ps:List Part},PsBe X rs ps->Ab X (Iy rs) (ps.map (·.2)):=PsBe.rec .nil λa _ r=>.cons a.row r
theorem Ad5:∀ {ss:List SRc}{os:List Cl},SsBe X ss os->Ab X (Qk ss) (Ei os):=SsBe.rec .nil λ_ a _ r=>Ab.app (Agb a) r
end
theorem Ag9:refs 10000000=[]:=by kernel_rfl
theorem Pe(p:Part)(ps:List Part):Lp (p::ps)=p.1++Lp ps:=rfl
theorem Sl:∀ {ps:List Part},(∀ p∈ps,p.1.length<=30)->(Lp ps).length<=30 * ps.length
 | [],_=>Nat.le_refl _
 | p::ps,h=>by
  have h1:=h p (.head _)
  have h2:=Sl (λq hq=>h q (.tail _ hq))
  rw [Pe,List.length_append,List.length_cons]
  omega
theorem Pq{k:Str}:∀ {ps:List Part},(∀ p∈ps,p.1.length<=30)->(Ir k ps).length<=31 * ps.length
 | [],_=>Nat.le_refl _
 | p::ps,h=>by
  have h1:=h p (.head _)
  have h2:=Pq (k:=k) (λq hq=>h q (.tail _ hq))
  show (w2 k::(p.1++Ir k ps)).length<=_
  simp only [List.length_cons,List.length_append]
  omega
theorem PsBe.len{X:List AO}{rs:List PR}{ps:List Part}(h:PsBe X rs ps):rs.length=ps.length/\(Aq rs).length=(Lp ps).length:=by
 induction h with
 | nil=>exact ⟨rfl,rfl⟩
 | cons a _ r=>
  have k:=a.toks.get.1
  rw [List.length_map] at k
  refine ⟨congrArg (·+1) r.1,?_⟩
  rw [Eu,Pe,List.length_append,k,r.2]
theorem lens{X:List AO}{ss:List SRc}{os:List Cl}(h:SsBe X ss os):(∀ o∈os,Et o)->(Qp os).length<=91 * os.length/\(Iq os).length<=93 * os.length/\(Ei os).length<=3 * os.length/\Ju ss<=91 * os.length/\agN ss<=93 * os.length/\rowN ss<=3 * os.length:=by
 induction h with
 | nil=>exact λ_=>⟨Nat.le_refl 0,Nat.le_refl 0,Nat.le_refl 0,Nat.le_refl 0,Nat.le_refl 0,Nat.le_refl 0⟩
 | @cons s o _ os e a _ r=>
  intro h
  have f:=h o (.head _)
  obtain ⟨h1,h2,h3,h4,h5,h6⟩:=r (λq hq=>h q (.tail _ hq))
  have k1:=Sl f.len
  have k2:=Pq (k:=o.1) f.len
  have k3:=f.few
  obtain ⟨k4,k5⟩:=a.len
  refine ⟨?_,?_,?_,?_,?_,?_⟩
  ·show (w2 o.1::(Lp o.2++Qp os)).length<=_
   simp only [List.length_cons,List.length_append];omega
  ·show (Ir o.1 o.2++Iq os).length<=_
   simp only [List.length_cons,List.length_append];omega
  ·show (o.2.map (·.2)++Ei os).length<=_
   simp only [List.length_cons,List.length_append,List.length_map];omega
  ·show 1+(Aq s.rs).length+Ju _<=_
   simp only [List.length_cons];omega
  ·show (Aq s.rs).length+s.rs.length+agN _<=_
   simp only [List.length_cons];omega
  ·show s.rs.length+rowN _<=_
   simp only [List.length_cons];omega
theorem Vr:∀ {os:List Cl},(∀ o∈os,Et o)->PyD.depL (Ei os)<=50
 | [],_=>by simp [Ei,PyD.depL]
 | o::os,h=>by
  have key:∀ (l l':List PyD),(∀ d∈l,d.dep<=10)->PyD.depL l'<=50->PyD.depL (l++l')<=50:=by
   intro l
   induction l with
   | nil=>intro l' _ h;exact h
   | cons d l ih=>
    intro l' h1 h2
    have:=h1 d (.head _)
    have:=ih l' (λd hd=>h1 d (.tail _ hd)) h2
    simp only [List.cons_append,PyD.depL]
    omega
  refine key _ _ (λd hd=>?_) (Vr λq hq=>h q (.tail _ hq))
  obtain ⟨p,hp,rfl⟩:=mmp hd
  exact (Ug ((h o (.head _)).ok.ok p hp)).2.2
theorem t1_ok{y:RS}{q:QK}{z:FL}{x:TS}{rows:List PyD}(hne:rows≠[])(hr5:rows.length<=5000)(hdep:PyD.depL rows<=50){ta ta2 tb ts ts2:List T2}{t t2:T2}(ht:ta++tb=t::ts)(hlen:(t::ts).length<=5000)(hout:∀ ks:List Tk,ks.map Tk.pw=t::ts->∃ ls,Fo ks ls rows/\ks.length=ls.length+ta.length)
  (ht2:ta2++tb=t2::ts2)(hlen2:(t2::ts2).length<=5000)(hout2:∀ ks:List Tk,ks.map Tk.pw=t2::ts2->∃ ls,Fo ks ls rows/\ks.length=ls.length+ta2.length) :
  OkF w b (cT1 Aa w.params y q z x) (λX=>Ab X (refs x.co) (ta.map tokD)/\Ab X (refs x.cb) (tb.map tokD)/\Ab X (refs x.cr) rows/\(Ab X (refs x.ca) (ta2.map tokD)/\Ab X (refs x.cb) (tb.map tokD)/\Ab X (refs x.cr) rows/\True)) (λ_ _ _=>True):=by
 have h2:∀ k rd,OkF w b (cT2 Aa w.params y q k z x x.on rd) (λX=>Ab X (refs x.ca) (ta2.map tokD)/\Ab X (refs x.cb) (tb.map tokD)/\Ab X (refs x.cr) rows/\True) (λ_ _ _=>True):=λk rd=>
  Cw (Wj w.params) rfl (λ_ _=>.next) (λ_ _=>rfl) (by show 1<=130;decide) (rt_t2 hne hr5 hdep ht2 hlen2 hout2)
 exact Cw (Wj w.params) rfl (λ_ _=>.next) (λ_ _=>rfl) (by show 1<=135;decide) (rt_t1 hne hr5 hdep ht hlen hout (N2:=λX=>Ab X (refs x.ca) (ta2.map tokD)/\Ab X (refs x.cb) (tb.map tokD)/\Ab X (refs x.cr) rows/\True) (λX Y h a=>⟨a.1.mono h,a.2.1.mono h,a.2.2.1.mono h,trivial⟩) h2)
theorem Ad6{sorts:List Cl}{behind:List T2}{hch:Bool}(hs:∀ o∈sorts,Et o)(hne:sorts≠[])(few:sorts.length<=3)(hend:∀ ls:List Tk,ls.map Tk.pw=behind->Nv hch ls)(hc:hch=true->∀ s∈sorts,sEqB s.1 "CHARACTERS"=true)(hb:behind.length<=10)(ss bh cs ns cb nb:Nat) :
  OkF w b (cRt ss bh cs ns cb nb) (λX=>Ab X (refs cs) (sorts.map Az)/\Ab X (refs cb) (behind.map tokD)) (λ_ _ _=>True):=by
 refine Aee λX hn hX=>?_
 obtain ⟨hX1,hX2⟩:=hX
 obtain ⟨srs,e1,e2,e3,e4⟩:=Afq hn (λo ho=>(hs o ho).ok) hX1
 obtain ⟨l1,l2,l3,l4,l5,l6⟩:=lens e3 hs
 cases hsr:srs with
 | nil=>
  rw [hsr] at e3
  cases e3
  exact absurd rfl hne
 | cons s sr=>
  rw [hsr] at e1 e2 e3 e4 l4 l5 l6
  -- the tokens' heads
  have hso:∀ o∈sorts,Ps o.1 o.2:=λo ho=>(hs o ho).ok
  cases hso0:sorts with
  | nil=>exact absurd hso0 hne
  | cons o os=>
   have hone:∃ t ts,Qp sorts++behind=t::ts:=by rw [hso0];exact ⟨_,_,rfl⟩
   have hag:∃ t ts,Iq sorts++behind=t::ts:=by
    rw [hso0]
    cases ho2:o.2 with
    | nil=>exact absurd ho2 (hso o (by rw [hso0];exact .head _)).ne
    | cons p ps=>
     show ∃ t ts,(Ir o.1 o.2++Iq os)++behind=t::ts
     rw [ho2]
     exact ⟨_,_,rfl⟩
   have hrows:Ei sorts≠[]:=by
    rw [hso0]
    cases ho2:o.2 with
    | nil=>exact absurd ho2 (hso o (by rw [hso0];exact .head _)).ne
    | cons p ps=>
     show o.2.map (·.2)++Ei os≠[]
     rw [ho2]
     exact λz=>by cases z
   obtain ⟨t,ts,ht⟩:=hone
   obtain ⟨t2,ts2,ht2⟩:=hag
   have k1:(t::ts).length<=5000:=by rw [←ht,List.length_append];omega
   have k2:(t2::ts2).length<=5000:=by rw [←ht2,List.length_append];omega
   have out1:∀ ks:List Tk,ks.map Tk.pw=t::ts->∃ ls,Fo ks ls (Ei sorts)/\ks.length=ls.length+(Qp sorts).length:=λks hk=>by
    rw [←ht] at hk
    obtain ⟨k1,ls,rfl,g1,g2⟩:=List.map_eq_append_iff.mp hk
    refine ⟨ls,(Ade hch sorts k1 ls hso hc g1 (hend ls g2)).1,?_⟩
    rw [List.length_append,←g1,List.length_map];omega
   have out2:∀ ks:List Tk,ks.map Tk.pw=t2::ts2->∃ ls,Fo ks ls (Ei sorts)/\ks.length=ls.length+(Iq sorts).length:=λks hk=>by
    rw [←ht2] at hk
    obtain ⟨k1,ls,rfl,g1,g2⟩:=List.map_eq_append_iff.mp hk
    refine ⟨ls,(Aag hch sorts k1 ls hso hc g1 (hend ls g2)).1,?_⟩
    rw [List.length_append,←g1,List.length_map];omega
   have z0:(refs 10000000).length=0:=by rw [Ag9];rfl
   refine ⟨λX=>allS (s::sr) X/\SsBe X (s::sr) sorts/\Ab X (refs cb) (behind.map tokD),⟨e2,e3,hX2⟩,?_⟩
   refine Zw (jF:=0+(s::sr).length) (z:=fl1 (Aaw s sr)) (sr:=s::sr) (NA:=Ks 10000000 10000000 10000000 (Ju (s::sr)) (agN (s::sr)) (rowN (s::sr)) (allS (s::sr)))
    (NB:=λco ca cr X=>Ab X (refs co) ((Qp sorts).map tokD)/\Ab X (refs cb) (behind.map tokD)/\Ab X (refs cr) (Ei sorts)/\(Ab X (refs ca) ((Iq sorts).map tokD)/\Ab X (refs cb) (behind.map tokD)/\Ab X (refs cr) (Ei sorts)/\True))
    (λlo rl q it p=>?_) (λy q x hx1 hx2=>?_) (λX hX=>?_) (λX L co ca cr hX hL=>?_)
   ·exact Agl (y:=⟨lo,ss,bh,rl⟩) sr s 0 (by rw [List.drop_zero];exact e1) e4 q p.1 p.2 10000000 0 10000000 0 10000000 0
   ·have z:=t1_ok (w:=w) (b:=b) (y:=y) (q:=q) (z:=fl1 (Aaw s sr)) (x:=x) hrows (by omega) (Vr hs) ht k1 out1 ht2 k2 out2
    rw [hx1] at z
    exact z
   ·exact ⟨by omega,by omega,by omega,hX.1⟩
   ·obtain ⟨vo,va,a1,a2,a3,a4,a5⟩:=hL
    rw [Ag9,List.nil_append] at a1 a3 a5
    obtain ⟨b1,b2,b3⟩:=hX
    have r:=Ad5 b2
    refine ⟨by rw [a1];exact Adg b2 a2,b3.left,by rw [a5];exact r.left,by rw [a3];exact Ac9 b2 a4,b3.left,by rw [a5];exact r.left,trivial⟩
noncomputable def isLN(e:Expr):Prop:=∃ elt nm np iter scope pos,e=.ListComp elt [⟨.Name nm np,iter,[],0⟩] scope pos
noncomputable def Uu(e:Expr)(it:Addr)(acc:Value)(env:Env):Sem Fin:=R.bindR (Mm (.ref it)) λo=>match o with
 | none=>.pure (.done .next)
 | some v=>Nj e (.ref it) acc v env
theorem Ge{w:World}{st:Nat->Option Obj}{x:Con}{e:Expr}{it:Addr}{acc:Value}{env:Env}{need:List AO->Prop}{also:AL}(he:isLN e)(hc:x.code=.compLoop e 0 (.ref it) acc env)(f:(Nat->Addr)->(Nat->Tok)->Flow)(hr:∀ nw tk,x.res nw tk=.ok (f nw tk))(hd:1<=x.deep)
  (hx:Cm w st x (Uu e it acc env) need also):Ad w st x need also:=by
 intro A s R₁ X hA hdep hst hpre hnod hX hXn hap hnd hR
 have z:=hx A s (Gx R₁) X hA hdep hst hpre hnod hX hXn hap hnd λnw tk h' t' L a1 a2 a3 a4 a5 a6=>by
  have q:=hR nw tk h' t' L a1 a2 a3 a4 a5 a6
  rw [hr] at q ⊢
  exact q
 rw [hc] at z ⊢
 obtain ⟨elt,nm,np,iter,scope,pos,rfl⟩:=he
 ·skip
  refine codeAny_of_own ?_
  intro Γ p hcc hΓ
  have z:=z Γ iter.pos hcc hΓ
  unfold Uu at z
  rw [Kh,←R.bindR_eq] at z
  show Sem.wp (model prog w) Γ ((compTurn (.ListComp elt [⟨.Name nm np,iter,[],0⟩] scope pos) 0 (.ref it) acc env).onRaise (λx=>do noteFrame x env;theTreesLotGoes x)) _ _ p s
  rw [Sem.wp_onRaise,compTurn_list1]
  show Sem.wp (model prog w) Γ (pyNext (.ref it) >>= _) _ _ iter.pos s
  have z:Sem.wp (model prog w) Γ (pyNext (.ref it) >>= _) _ _ iter.pos s:=z
  rw [Sem.wp_bind'] at z ⊢
  refine Sem.wp_mono (model prog w) Γ _ (λo p s h=>?_) (λe p s h=>absurd h (by exact λz=>z)) _ _ z
  cases o with
  | none=>exact h.2
  | some v=>
   have h:Sem.wp (model prog w) Γ (Nj (.ListComp elt [⟨.Name nm np,iter,[],0⟩] scope pos) (.ref it) acc v env) _ _ p s:=h
   unfold Nj at h
   rw [Hx,Hw] at h
   simp only [←R.bindR_eq] at h
   have h:Sem.wp (model prog w) Γ (assign (.Name nm np) env v >>= _) _ _ p s:=h
   show Sem.wp (model prog w) Γ (assign (.Name nm np) env v >>= _) _ _ p s
   rw [Sem.wp_bind'] at h ⊢
   refine Sem.wp_mono (model prog w) Γ _ (λ_ p s h=>?_) (λe p s h=>absurd h (by exact λz=>z)) _ _ h
   have h:Sem.wp (model prog w) Γ (eval elt env >>= _) _ _ p s:=h
   show Sem.wp (model prog w) Γ ((eval elt env >>= _) >>= _) _ _ p s
   rw [Sem.wp_bind'] at h
   rw [Sem.wp_bind',Sem.wp_bind']
   refine Sem.wp_mono (model prog w) Γ _ (λx p s h=>?_) (λe p s h=>absurd h (by exact λz=>z)) _ _ h
   have h:Sem.wp (model prog w) Γ (call (.builtin "list.append") [acc,x] >>= _) _ _ p s:=h
   show Sem.wp (model prog w) Γ (call (.builtin "list.append") [acc,x] >>= _) _ _ p s
   rw [Sem.wp_bind'] at h ⊢
   refine Sem.wp_mono (model prog w) Γ _ (λx p s h=>?_) (λe p s h=>absurd h (by exact λz=>z)) _ _ h
   refine ⟨h.2.1,codeAny_mono h.2.2 λr s h=>?_⟩
   cases r with
   | ok f=>exact h
   | error e=>exact absurd h (by exact λz=>z)
noncomputable def mkP:List Nat->List (Int × Tok)
 | a::t::r=>((a:Int),t)::mkP r
 | _=>[]
noncomputable def xsN(c:Nat):Array (Int × Tok):=match Nat.blt c 10000000 with
 | true=>#[(0,c)]
 | false=>(mkP (decG (c - 10000000))).toArray
theorem xsN_ge(n:Nat):xsN (10000000+n)=(mkP (decG n)).toArray:=by
 unfold xsN
 have:Nat.blt (10000000+n) 10000000=false:=by
  rw [←Bool.not_eq_true];intro h;have:=Nat.le_of_ble_eq_true h;omega
 rw [this]
 show (mkP (decG (10000000+n - 10000000))).toArray=_
 rw [Nat.add_sub_cancel_left]
noncomputable def unP:List (Int × Tok)->List Nat
 | []=>[]
 | p::r=>p.1.toNat::p.2::unP r
theorem Aar:∀ {l:List (Int × Tok)},(∀ p∈l,0<=p.1)->mkP (unP l)=l
 | [],_=>rfl
 | p::r,h=>by
  have h1:=h p (.head _)
  show ((p.1.toNat:Int),p.2)::mkP (unP r)=p::r
  rw [Aar λq hq=>h q (.tail _ hq),Int.toNat_of_nonneg h1]
theorem Acl{l:List (Int × Tok)}(h:∀ p∈l,0<=p.1):∃ c,xsN c=l.toArray:=by
 obtain ⟨n,e⟩:=Tb (unP l)
 exact ⟨10000000+n,by rw [xsN_ge,e,Aar h]⟩
theorem Aff(c:Nat):∀ p∈(xsN c).toList,0<=p.1:=by
 have key:∀ (n:Nat)(l:List Nat),l.length<=n->∀ p∈mkP l,(0:Int)<=p.1:=by
  intro n
  induction n with
  | zero=>intro l hl p hp;cases l with
   | nil=>cases hp
   | cons a r=>simp at hl
  | succ n ih=>
   intro l hl p hp
   match l,hl,hp with
   | [],_,hp=>cases hp
   | [_],_,hp=>cases hp
   | a::t::r,hl,hp=>
    rcases mcm hp with rfl|hp
    ·exact Int.natCast_nonneg _
    ·exact ih r (by simp at hl;omega) p hp
 intro p hp
 unfold xsN at hp
 split at hp
 ·have hp:p∈[((0:Int),c)]:=hp
  rcases mcm hp with rfl|hp
  ·exact Int.le_refl _
  ·cases hp
 ·generalize decG (c - 10000000)=l at hp
  exact key l.length l (Nat.le_refl _) p hp
noncomputable abbrev Cx(c:Nat):List Value:=(intItems (xsN c)).toList
noncomputable def Ac1(c n:Nat)(cd:Code):Con:=
 ⟨.call (.builtin "list.append") ⟨[.ref (Af cd 0),.int (As cd 1) (Aj cd 1)],[]⟩,[(Af cd 0,Ac (Cx c) n)],[(Af cd 0,λtk=>Ac (Cx (tk 0)) (tk 1))],0,λ_ _=>[],2,λ_ _=>.ok (.ret .none),0⟩
theorem Rl{w:World}{st:Nat->Option Obj}(c n:Nat)(cd:Code):Ad w st (Ac1 c n cd) (λ_=>(xsN c).size<=5000/\0<=As cd 1) (λ_ tk L=>L=[]/\xsN (tk 0)=(xsN c).push (As cd 1,Aj cd 1)):=by
 intro A s R X hA hdep hst hpre hnod hX hXn hap hnd hR
 have ho:s.heap.get? (Af cd 0)=some (Ac (Cx c) n):=(hpre _ (.head _)).1
 obtain ⟨c',hc'⟩:=Acl (l:=(xsN c).toList++[(As cd 1,Aj cd 1)]) (λp hp=>by
  rcases List.mem_append.mp hp with hp|hp
  ·exact Aff c p hp
  ·rcases mcm hp with rfl|hp
   ·exact hnd.2
   ·cases hp)
 have hc2:xsN c'=(xsN c).push (As cd 1,Aj cd 1):=by
  rw [hc']
  apply Array.ext'
  simp
 have hv:Cx c'=Cx c++[.int (As cd 1) (Aj cd 1)]:=by
  unfold Cx
  rw [hc2]
  simp [intItems]
 refine Bj slot_list_append ⟨_,ho,rfl⟩ entry_list_append (args_list_append _ _) ?_
 show wpAny _ _ (updateSeq (Af cd 0) (·.push (.int (As cd 1) (Aj cd 1))) >>= λ_=>ret .none) _ _ s
 refine wpAny_bind ?_
 have hsz:(Cx c).toArray.size<=sizeLine:=by
  have h5:(xsN c).size<=5000:=hnd.1
  simp only [List.size_toArray,Cx,intItems,Array.length_toList,Array.size_map]
  rw [sizeLine_eq];omega
 refine wpAny_updateSeq ho rfl (hz:=hsz) (wpAny_pure ⟨.none,rfl,?_⟩)
 have hs:Heap.SameBut (Af cd 0) s.heap (s.heap.update (Af cd 0) (Obj.mapSeq (·.push (.int (As cd 1) (Aj cd 1))))):=Heap.SameBut.update ..
 have ho':(s.heap.update (Af cd 0) (Obj.mapSeq (·.push (.int (As cd 1) (Aj cd 1))))).get? (Af cd 0)=some (Ac (Cx c') (n+1)):=by
  have e:Obj.mapSeq (·.push (Value.int (As cd 1) (Aj cd 1))) (Ac (Cx c) n)=Ac (Cx c') (n+1):=by
   rw [hv]
   show Obj.mapSeq (·.push (Value.int (As cd 1) (Aj cd 1))) { cls:=.type "list",data:=.seq (Cx c).toArray n }=_
   rw [Obj.mapSeq_push_plain,List.push_toArray]
   rfl
  rw [←e]
  exact Heap.get?_update_self _ ho rfl
 refine hR (λ_=>0) (two c' (n+1)) _ s.toks [] (Be.sameBut hs ho') (λb o e hne=>(hs.2 b λz=>hne _ (.head _) z.symm).trans e) (λp hp=>?_) (λ_ hp=>(nomatch hp)) List.nodup_nil ⟨rfl,hc2⟩
 rcases mcm hp with rfl|hp
 ·exact ho'
 ·cases hp
noncomputable def Im(id:String)(f:Int->Int->Int)(a b:Int)(c:Code):Con:=
 ⟨.call (.builtin id) ⟨[.int a (Aj c 0),.int b (Aj c 1)],[]⟩,[],[],0,λ_ _=>[],1,λ_ tk=>.ok (.ret (.int (f a b) (tk 0))),0⟩
theorem Up{w:World}{st:Nat->Option Obj}{id:String}{f:Int->Int->Int}{name:Str}{b:Builtin}{c:Code}{x y:Int}(h:Slot "int" name id)(hb:entryFor table id=some b)(ha:∀ x y:Value,argsOk id ⟨[x,y],[]⟩)
  (g:Gives (b ⟨[.int x (Aj c 0),.int y (Aj c 1)],[]⟩) (.int (f x y))):(Im id f x y c).Valid w st:=by
 intro A s R hA hdep hst hpre hnod hR
 refine Kw h (typeIs_int _ _ _) hb (ha _ _) g ?_
 exact hR (λ_=>0) (λ_=>s.toks) s.heap (s.toks+1) (Be.refl _) (λ_ _ e _=>e) (λ_ hp=>(nomatch hp)) (λ_ hp=>(nomatch hp)) List.nodup_nil
theorem Ly{w:World}{st:Nat->Option Obj}(c:Code):(Im "int.__pow__" powF 10 40 c).Valid w st:=
 Up F.slot_int_pow F.entry_int_pow F.args_int_pow_2 (AutoIntG2.int___pow___int_int_4 _ _ _ _ (by omega) (by simp) (by simp) (by simp) (by decide))
theorem Mc{w:World}{st:Nat->Option Obj}{a:Int}(c:Code):(Im "int.__mod__" Int.fmod a (powF 10 40) c).Valid w st:=
 Up F.slot_int_mod F.entry_int_mod F.args_int_mod_2 (AutoIntG6.int___mod___int_int_1 _ _ _ _ (by decide))
theorem Mb{w:World}{st:Nat->Option Obj}{b:Int}(hb:b=0\/b=1)(c:Code):(Im "int.__mul__" (· * ·) (powF 10 40) b c).Valid w st:=
 Up F.slot_int_mul F.entry_int_mul F.args_int_mul_2 (gives_int_mul _ _ _ _ (IntMulOk.of_right (by rcases hb with rfl|rfl<;>decide)))
noncomputable def Ahs(v:Int)(c:Code):Con:=⟨.call (.builtin "int.__abs__") ⟨[.int v (Aj c 0)],[]⟩,[],[],0,λ_ _=>[],0,λ_ _=>.ok (.ret (.int v (Aj c 0))),0⟩
noncomputable def Aht(v:Int)(c:Code):Con:=⟨.call (.builtin "int.__abs__") ⟨[.int v (Aj c 0)],[]⟩,[],[],0,λ_ _=>[],1,λ_ tk=>.ok (.ret (.int (-v) (tk 0))),0⟩
theorem Acc{w:World}{st:Nat->Option Obj}{v:Int}(hv:¬ v < 0)(c:Code):(Ahs v c).Valid w st:=by
 intro A s R hA hdep hst hpre hnod hR
 refine Bj slot_int_abs (typeIs_int _ _ _) entry_int_abs (args_int_abs _) ?_
 show wpAny _ _ (if v < 0 then _ else _) _ _ s
 rw [if_neg hv]
 exact wpAny_pure ⟨_,rfl,hR (λ_=>0) (λ_=>0) s.heap s.toks (Be.refl _) (λ_ _ e _=>e) (λ_ hp=>(nomatch hp)) (λ_ hp=>(nomatch hp)) List.nodup_nil⟩
theorem Acd{w:World}{st:Nat->Option Obj}{v:Int}(hv:v < 0)(c:Code):(Aht v c).Valid w st:=by
 intro A s R hA hdep hst hpre hnod hR
 refine Bj slot_int_abs (typeIs_int _ _ _) entry_int_abs (args_int_abs _) ?_
 show wpAny _ _ (if v < 0 then _ else _) _ _ s
 rw [if_pos hv]
 exact wpAny_ret_mkInt (hR (λ_=>0) (λ_=>s.toks) s.heap (s.toks+1) (Be.refl _) (λ_ _ e _=>e) (λ_ hp=>(nomatch hp)) (λ_ hp=>(nomatch hp)) List.nodup_nil)
noncomputable def asgV:Option Stmt->Expr
 | some (.Assign _ v _)=>v
 | _=>default
noncomputable abbrev lcP(st:SP)(P:Params):Expr:=asgV (Ae (st P 534))[0]?
structure YR where
 lo:Addr
 clo:Addr
 it:Addr
 l:Addr
 acc:Addr
noncomputable def coPL(st:SP)(P:Params)(y:YR):Code:=.compLoop (lcP st P) 0 (.ref y.it) (.ref y.acc) (Kx (st P) 534 y.lo y.clo (lcP st P))
noncomputable def penD(P:Params)(q:Tok)(v:Int)(t:Tok):Obj:=Dq [ent P "cell" q (.int v t)] 1
noncomputable def cPL(st:SP)(P:Params)(y:YR)(j jF:Nat)(vs:List Value)(n:Nat)(fo:Obj)(qf:(Nat->Tok)->Tok)(k:Nat)(vF:Int)(tF:Tok)(c m:Nat):Con:=
 ⟨coPL st P y,[(y.it,Cd y.l j),(y.l,Ac vs n),(y.clo,fo),(y.acc,Ac (Cx c) m)],[(y.it,λ_=>Jw jF),(y.clo,λtk=>penD P (qf tk) vF tF),(y.acc,λtk=>Ac (Cx (tk 0)) (tk 1))],0,λ_ _=>[],k,λ_ _=>.ok .next,40⟩
noncomputable abbrev plK(y:YR)(j:Nat)(vs:List Value)(n:Nat)(fo:Obj)(c m:Nat):List Ent:=[⟨y.it,Cd y.l j,true,false⟩,⟨y.l,Ac vs n,false,false⟩,⟨y.clo,fo,true,false⟩,⟨y.acc,Ac (Cx c) m,true,false⟩]
noncomputable def Gq(c:Nat):Prop:=∀ i,0<=numAt (xsN c) i/\numAt (xsN c) i < 2 ^ 140
noncomputable def Jg(v:Int)(b:Bool):Int:=Int.fmod (match b with
 | true=>-v
 | false=>v) (powF 10 40)+powF 10 40 * (match b with
 | true=>1
 | false=>0)
noncomputable abbrev Eo(c r:Nat):List AO->Prop:=λ_=>Gq c/\(xsN c).size+r<=100
noncomputable abbrev Cz(r:Nat)(c:Nat):AL:=λ_ tk L=>L=[]/\Gq (tk 0)/\(xsN (tk 0)).size=(xsN c).size+r
theorem Ub:0 < powF 10 40:=by decide
theorem Mi(v:Int)(b:Bool):0<=Jg v b/\Jg v b < 2 ^ 140:=by
 unfold Jg
 have key:∀ x:Int,0<=Int.fmod x (powF 10 40)/\Int.fmod x (powF 10 40) < powF 10 40:=λx=>⟨Int.fmod_nonneg_of_pos _ Ub,Int.fmod_lt_of_pos _ Ub⟩
 have h3:powF 10 40+powF 10 40 < 2 ^ 140:=by decide
 have h4:=Ub
 cases b with
 | true=>
  have:=key (-v)
  show 0<=Int.fmod (-v) (powF 10 40)+powF 10 40 * 1/\Int.fmod (-v) (powF 10 40)+powF 10 40 * 1 < 2 ^ 140
  generalize Int.fmod (-v) (powF 10 40)=x at *
  generalize powF 10 40=T at *
  omega
 | false=>
  have:=key v
  show 0<=Int.fmod v (powF 10 40)+powF 10 40 * 0/\Int.fmod v (powF 10 40)+powF 10 40 * 0 < 2 ^ 140
  generalize Int.fmod v (powF 10 40)=x at *
  generalize powF 10 40=T at *
  omega
theorem Yq{c c':Nat}{e:Int}{t:Tok}(h:Gq c)(h1:0<=e/\e < 2 ^ 140)(hc:xsN c'=(xsN c).push (e,t)):Gq c'/\(xsN c').size=(xsN c).size+1:=by
 refine ⟨λi=>?_,by rw [hc];simp⟩
 have hi:=h i
 unfold numAt at hi ⊢
 rw [hc]
 by_cases z:i < (xsN c).size
 ·rw [Array.getElem?_push_lt z]
  rw [Array.getElem?_eq_getElem z] at hi
  exact hi
 ·by_cases z2:i=(xsN c).size
  ·subst z2
   rw [Array.getElem?_push_size]
   exact h1
  ·rw [Array.getElem?_eq_none (by simp;omega)]
   exact ⟨Int.le_refl _,by decide⟩
theorem Vx{c d f r:Nat}{e:Int}{t:Tok}{X:List AO}{F:List AO->Prop}(he:0<=e/\e < 2 ^ 140)(hX:Eo c (r+1) X)(hF:∀ L,(L=[]/\Gq f/\(xsN f).size=(xsN c).size+(r+1))->F L) :
  Ch F [(λ_=>(xsN c).size<=5000/\0<=e,λL=>L=[]/\xsN d=(xsN c).push (e,t)),(Eo d r,λL=>L=[]/\Gq f/\(xsN f).size=(xsN d).size+r)] X []:=by
 obtain ⟨h1,h2⟩:=hX
 refine cS ⟨by omega,he.1⟩ λL1 e1=>?_
 obtain ⟨rfl,e1⟩:=e1
 obtain ⟨g1,g2⟩:=Yq h1 he e1
 refine cS ⟨g1,by omega⟩ λL2 e2=>cZ (hF _ ?_)
 obtain ⟨rfl,g3,g4⟩:=e2
 exact ⟨rfl,g3,by omega⟩

noncomputable def cPLe(st:SP)(P:Params)(y:YR)(j:Nat)(vs:List Value)(n:Nat):Con:=
 ⟨coPL st P y,[(y.it,Cd y.l j),(y.l,Ac vs n)],[(y.it,λ_=>Jw j)],0,λ_ _=>[],0,λ_ _=>.ok .next,40⟩

theorem pl_ip{y:YR}{j jF n q t0 t tF c m r:Nat}{vs:List Value}{v0 v vF:Int}(hs:¬ v < 0)(hv:vs[j]?=some (.int v t))(hr:∀ q c m,OkF w b (cPL Aa w.params y (j+1) jF vs n (penD w.params q v t) (λ_=>q) 2 vF tF c m) (Eo c r) (Cz r c)):OkT w b (cPL Aa w.params y j jF vs n (penD w.params q v0 t0) (λ_=>q) 2 vF tF c m) (Uu (lcP Aa w.params) y.it (.ref y.acc) (Kx (Aa w.params) 534 y.lo y.clo (lcP Aa w.params))) (Eo c (r+1)) (Cz (r+1) c):=by
 let lZ:List (Fm w b):=[pl (λ_=>Df y.it y.l j n vs (.int v t)) λ_=>Bo hv,pl (Ahs v) (Acc hs),pl (Im "int.__pow__" powF 10 40) Ly,pl (Im "int.__mod__" Int.fmod v (powF 10 40)) Mc,pl (Go "int.__lt__" v 0 false) (Un (by simp;omega)),pl (Im "int.__mul__" (· * ·) (powF 10 40) 0) (Mb (by decide)),pl (cIOp "int.__add__" (·+·)) λc=>Ef (Kf c),⟨λ_ _ cd=>.full (Ac1 c m cd) (λ_=>(xsN c).size<=5000/\0<=As cd 1) (λ_ tk L=>L=[]/\xsN (tk 0)=(xsN c).push (As cd 1,Aj cd 1)),λ_ _ cd=>Rl c m cd⟩,⟨λA T cd=>.full (cPL Aa w.params y (j+1) jF vs n (penD w.params q v t) (λ_=>q) 2 vF tF (T 12) (T 13)) (Eo (T 12) r) (Cz r (T 12)),λ_ _ cd=>hr _ _ _⟩]
 refine oTX lZ (plK y j vs n (penD w.params q v0 t0) c m) 86 g38N [] [14,15] (λal tk=>[(λ_=>(xsN c).size<=5000/\0<=Jg v false,λL=>L=[]/\xsN (tk 12)=(xsN c).push (Jg v false,tk (12 - 1))),(Eo (tk 12) r,Cz r (tk 12) al (λz=>tk (14+z)))]) ?_ ?_ (λal tk X hX=>Vx (d:=tk 12) (f:=tk 14) (e:=Jg v false) (t:=tk (12 - 1)) (r:=r) (Mi v false) hX (λL h=>h))<;>intros<;>kernel_rfl
theorem pl_in{y:YR}{j jF n q t0 t tF c m r:Nat}{vs:List Value}{v0 v vF:Int}(hs:v < 0)(hv:vs[j]?=some (.int v t))(hr:∀ q c m,OkF w b (cPL Aa w.params y (j+1) jF vs n (penD w.params q v t) (λ_=>q) 2 vF tF c m) (Eo c r) (Cz r c)):OkT w b (cPL Aa w.params y j jF vs n (penD w.params q v0 t0) (λ_=>q) 2 vF tF c m) (Uu (lcP Aa w.params) y.it (.ref y.acc) (Kx (Aa w.params) 534 y.lo y.clo (lcP Aa w.params))) (Eo c (r+1)) (Cz (r+1) c):=by
 let lZ:List (Fm w b):=[pl (λ_=>Df y.it y.l j n vs (.int v t)) λ_=>Bo hv,pl (Aht v) (Acd hs),pl (Im "int.__pow__" powF 10 40) Ly,pl (Im "int.__mod__" Int.fmod (-v) (powF 10 40)) Mc,pl (Go "int.__lt__" v 0 true) (Un (by simp;omega)),pl (Im "int.__mul__" (· * ·) (powF 10 40) 1) (Mb (by decide)),pl (cIOp "int.__add__" (·+·)) λc=>Ef (Kf c),⟨λ_ _ cd=>.full (Ac1 c m cd) (λ_=>(xsN c).size<=5000/\0<=As cd 1) (λ_ tk L=>L=[]/\xsN (tk 0)=(xsN c).push (As cd 1,Aj cd 1)),λ_ _ cd=>Rl c m cd⟩,⟨λA T cd=>.full (cPL Aa w.params y (j+1) jF vs n (penD w.params q v t) (λ_=>q) 2 vF tF (T 13) (T 14)) (Eo (T 13) r) (Cz r (T 13)),λ_ _ cd=>hr _ _ _⟩]
 refine oTX lZ (plK y j vs n (penD w.params q v0 t0) c m) 86 g38N [] [15,16] (λal tk=>[(λ_=>(xsN c).size<=5000/\0<=Jg v true,λL=>L=[]/\xsN (tk 13)=(xsN c).push (Jg v true,tk (13 - 1))),(Eo (tk 13) r,Cz r (tk 13) al (λz=>tk (15+z)))]) ?_ ?_ (λal tk X hX=>Vx (d:=tk 13) (f:=tk 15) (e:=Jg v true) (t:=tk (13 - 1)) (r:=r) (Mi v true) hX (λL h=>h))<;>intros<;>kernel_rfl
theorem pl_ep{y:YR}{j jF n q t0 t tF c m r:Nat}{vs:List Value}{v0 v vF:Int}(hs:¬ v < 0)(hv:vs[j]?=some (.int v t))(hr:∀ q c m,OkF w b (cPL Aa w.params y (j+1) jF vs n (penD w.params q v t) (λ_=>q) 2 vF tF c m) (Eo c r) (Cz r c)):OkT w b (cPL Aa w.params y j jF vs n (Dq [] 0) (λtk=>tk 2) 3 vF tF c m) (Uu (lcP Aa w.params) y.it (.ref y.acc) (Kx (Aa w.params) 534 y.lo y.clo (lcP Aa w.params))) (Eo c (r+1)) (Cz (r+1) c):=by
 let lZ:List (Fm w b):=[pl (λ_=>Df y.it y.l j n vs (.int v t)) λ_=>Bo hv,pl (Ahs v) (Acc hs),pl (Im "int.__pow__" powF 10 40) Ly,pl (Im "int.__mod__" Int.fmod v (powF 10 40)) Mc,pl (Go "int.__lt__" v 0 false) (Un (by simp;omega)),pl (Im "int.__mul__" (· * ·) (powF 10 40) 0) (Mb (by decide)),pl (cIOp "int.__add__" (·+·)) λc=>Ef (Kf c),⟨λ_ _ cd=>.full (Ac1 c m cd) (λ_=>(xsN c).size<=5000/\0<=As cd 1) (λ_ tk L=>L=[]/\xsN (tk 0)=(xsN c).push (As cd 1,Aj cd 1)),λ_ _ cd=>Rl c m cd⟩,⟨λA T cd=>.full (cPL Aa w.params y (j+1) jF vs n (penD w.params (T 0) v t) (λ_=>(T 0)) 2 vF tF (T 12) (T 13)) (Eo (T 12) r) (Cz r (T 12)),λ_ _ cd=>hr _ _ _⟩]
 refine oTX lZ (plK y j vs n (Dq [] 0) c m) 86 g38N [] [14,15,0] (λal tk=>[(λ_=>(xsN c).size<=5000/\0<=Jg v false,λL=>L=[]/\xsN (tk 12)=(xsN c).push (Jg v false,tk (12 - 1))),(Eo (tk 12) r,Cz r (tk 12) al (λz=>tk (14+z)))]) ?_ ?_ (λal tk X hX=>Vx (d:=tk 12) (f:=tk 14) (e:=Jg v false) (t:=tk (12 - 1)) (r:=r) (Mi v false) hX (λL h=>h))<;>intros<;>kernel_rfl
theorem pl_en{y:YR}{j jF n q t0 t tF c m r:Nat}{vs:List Value}{v0 v vF:Int}(hs:v < 0)(hv:vs[j]?=some (.int v t))(hr:∀ q c m,OkF w b (cPL Aa w.params y (j+1) jF vs n (penD w.params q v t) (λ_=>q) 2 vF tF c m) (Eo c r) (Cz r c)):OkT w b (cPL Aa w.params y j jF vs n (Dq [] 0) (λtk=>tk 2) 3 vF tF c m) (Uu (lcP Aa w.params) y.it (.ref y.acc) (Kx (Aa w.params) 534 y.lo y.clo (lcP Aa w.params))) (Eo c (r+1)) (Cz (r+1) c):=by
 let lZ:List (Fm w b):=[pl (λ_=>Df y.it y.l j n vs (.int v t)) λ_=>Bo hv,pl (Aht v) (Acd hs),pl (Im "int.__pow__" powF 10 40) Ly,pl (Im "int.__mod__" Int.fmod (-v) (powF 10 40)) Mc,pl (Go "int.__lt__" v 0 true) (Un (by simp;omega)),pl (Im "int.__mul__" (· * ·) (powF 10 40) 1) (Mb (by decide)),pl (cIOp "int.__add__" (·+·)) λc=>Ef (Kf c),⟨λ_ _ cd=>.full (Ac1 c m cd) (λ_=>(xsN c).size<=5000/\0<=As cd 1) (λ_ tk L=>L=[]/\xsN (tk 0)=(xsN c).push (As cd 1,Aj cd 1)),λ_ _ cd=>Rl c m cd⟩,⟨λA T cd=>.full (cPL Aa w.params y (j+1) jF vs n (penD w.params (T 0) v t) (λ_=>(T 0)) 2 vF tF (T 13) (T 14)) (Eo (T 13) r) (Cz r (T 13)),λ_ _ cd=>hr _ _ _⟩]
 refine oTX lZ (plK y j vs n (Dq [] 0) c m) 86 g38N [] [15,16,0] (λal tk=>[(λ_=>(xsN c).size<=5000/\0<=Jg v true,λL=>L=[]/\xsN (tk 13)=(xsN c).push (Jg v true,tk (13 - 1))),(Eo (tk 13) r,Cz r (tk 13) al (λz=>tk (15+z)))]) ?_ ?_ (λal tk X hX=>Vx (d:=tk 13) (f:=tk 15) (e:=Jg v true) (t:=tk (13 - 1)) (r:=r) (Mi v true) hX (λL h=>h))<;>intros<;>kernel_rfl
theorem pl_end{y:YR}{j n:Nat}{vs:List Value}(hl:vs.length<=j):OkT w b (cPLe Aa w.params y j vs n) (Uu (lcP Aa w.params) y.it (.ref y.acc) (Kx (Aa w.params) 534 y.lo y.clo (lcP Aa w.params))) tT nL:=by
 let lZ:List (Fm w b):=[pl (λ_=>Lg y.it y.l j n vs) λ_=>Gk hl]
 refine oT lZ ([⟨y.it,Cd y.l j,true,false⟩,⟨y.l,Ac vs n,false,false⟩]) 14 0x2080040081 [] [] (λal tk=>[]) ?_ (λal tk X hX=>cZ rfl)<;>intros<;>kernel_rfl
theorem Sq(P:Params):isLN (lcP Aa P):=⟨_,_,_,_,_,_,rfl⟩
noncomputable def Ss(v:Int)(t:Tok):List Value->Int × Tok
 | []=>(v,t)
 | u::us=>match u with
  | .int k t'=>Ss k t' us
  | _=>Ss v t us
noncomputable abbrev Ll(us:List Value):Prop:=∀ u∈us,∃ k t,u=Value.int k t
section
variable {w:World}{b:B3}{y:YR}{vs:List Value}{n:Nat}
theorem Agh(j q:Nat)(v:Int)(t c m:Nat)(hl:vs.length<=j):OkF w b (cPL Aa w.params y j j vs n (penD w.params q v t) (λ_=>q) 2 v t c m) (Eo c 0) (Cz 0 c):=by
 let Bx:List AO:=[(y.clo,penD w.params q v t),(y.acc,Ac (Cx c) m)]
 refine Ji λX hX=>⟨λ_=>True,trivial,?_⟩
 have h:OkF w b (cPLe Aa w.params y j vs n) tT nL:=Ge (Sq w.params) rfl (λ_ _=>.next) (λ_ _=>rfl) (by show 1<=40;decide) (pl_end hl)
 refine Ie (Aa6 (B:=Bx) h) _ _ _ (λnw _=>nw) (λ_ _=>two c m) (λ_ _=>[]) rfl rfl (Nat.le_refl _) (λ_ _=>rfl) (λp hp=>?_) (λhnod nw tk p hp=>?_) (λ_ _=>rfl) (λ_ _=>trivial) λnw tk L hL=>⟨hL,hX.1,rfl⟩
 ·rcases mcm hp with rfl|hp
  ·exact .head _
  ·cases hp
 ·have hnod:[y.it,y.l,y.clo,y.acc].Nodup:=hnod
  simp only [List.nodup_cons,List.mem_cons,List.not_mem_nil,or_false,not_or] at hnod
  have hp:p∈[(y.it,Jw j),(y.clo,penD w.params q v t),(y.acc,Ac (Cx c) m)]:=hp
  simp only [List.mem_cons,List.not_mem_nil,or_false] at hp
  rcases hp with rfl|rfl|rfl
  ·exact .inl (.head _)
  ·refine .inr ⟨.tail _ (.tail _ (.head _)),λq' hq=>?_⟩
   rcases mcm hq with rfl|hq
   ·exact hnod.1.2.1
   ·cases hq
  ·refine .inr ⟨.tail _ (.tail _ (.tail _ (.head _))),λq' hq=>?_⟩
   rcases mcm hq with rfl|hq
   ·exact hnod.1.2.2
   ·cases hq
theorem Aeu:∀ (us:List Value)(j:Nat),vs.drop j=us->Ll us->∀ (q:Nat)(v:Int)(t c m:Nat),
  OkF w b (cPL Aa w.params y j (j+us.length) vs n (penD w.params q v t) (λ_=>q) 2 (Ss v t us).1 (Ss v t us).2 c m) (Eo c us.length) (Cz us.length c)
 | [],j,hd,_,q,v,t,c,m=>Agh j q v t c m (List.drop_eq_nil_iff.mp hd)
 | u::us,j,hd,hi,q,v,t,c,m=>by
  obtain ⟨hv,hd2⟩:=Qy hd
  obtain ⟨k,t',rfl⟩:=hi u (.head _)
  have ih:=Aeu us (j+1) hd2 (λu hu=>hi u (.tail _ hu))
  have e1:j+1+us.length=j+(Value.int k t'::us).length:=by simp only [List.length_cons];omega
  rw [e1] at ih
  by_cases hs:k < 0
  ·exact Ge (Sq w.params) rfl (λ_ _=>.next) (λ_ _=>rfl) (by show 1<=40;decide) (pl_in hs hv (λq c m=>ih q k t' c m))
  ·exact Ge (Sq w.params) rfl (λ_ _=>.next) (λ_ _=>rfl) (by show 1<=40;decide) (pl_ip hs hv (λq c m=>ih q k t' c m))
theorem pe_all(k:Int)(t':Tok)(us:List Value)(hd:vs=Value.int k t'::us)(hi:Ll us)(c m:Nat) :
  OkF w b (cPL Aa w.params y 0 (1+us.length) vs n (Dq [] 0) (λtk=>tk 2) 3 (Ss k t' us).1 (Ss k t' us).2 c m) (Eo c (us.length+1)) (Cz (us.length+1) c):=by
 have hv:vs[0]?=some (.int k t'):=by rw [hd];rfl
 have ih:=Aeu (w:=w) (b:=b) (y:=y) (vs:=vs) (n:=n) us (0+1) (by rw [hd];rfl) hi
 rw [Nat.zero_add] at ih
 by_cases hs:k < 0
 ·exact Ge (Sq w.params) rfl (λ_ _=>.next) (λ_ _=>rfl) (by show 1<=40;decide) (pl_en (q:=0) (t0:=0) (v0:=0) hs hv (λq c m=>ih q k t' c m))
 ·exact Ge (Sq w.params) rfl (λ_ _=>.next) (λ_ _=>rfl) (by show 1<=40;decide) (pl_ep (q:=0) (t0:=0) (v0:=0) hs hv (λq c m=>ih q k t' c m))
end
noncomputable def sl30(vs:List Value):List Value:=(slicePick vs.toArray none (some 30) none).toList
noncomputable def Aer(t:Tok):Obj:={ cls:=.type "slice",data:=.fields #[.none,.int 30 t,.none] }
noncomputable def Aeb(vs:List Value)(n t:Nat)(c:Code):Con:=
 ⟨.call (.builtin "list.__getitem__") ⟨[.ref (Af c 0),.ref (Af c 1)],[]⟩,[(Af c 0,Ac vs n),(Af c 1,Aer t)],[],1,λnw _=>[(nw 0,Ac (sl30 vs) 0)],0,λnw _=>.ok (.ret (.ref (nw 0))),0⟩
theorem Zr{w:World}{st:Nat->Option Obj}{vs:List Value}(hn:vs.length<=5000)(n t:Nat)(c:Code):(Aeb vs n t c).Valid w st:=by
 intro A s R hA hdep hst hpre hnod hR
 have h0:s.heap.get? (Af c 0)=some (Ac vs n):=(hpre _ (.head _)).1
 have hos:s.heap.get? (Af c 1)=some (Aer t):=(hpre _ (.tail _ (.head _))).1
 have hl:=My h0
 have hTs:s.TypeIs (.ref (Af c 1)) "slice":=⟨_,hos,rfl⟩
 refine Bj slot_list_getitem hl.typeIs entry_list_getitem (args_list_getitem _ _) ?_
 show wpAny _ _ (Builtin.List.listSubscript? (.ref (Af c 1)) >>= _) _ _ s
 refine wpAny_bind ?_
 unfold Builtin.List.listSubscript?
 refine wpAny_bind (wpAny_specialOf hTs slice_no_index ?_)
 simp only [Option.isNone_none,if_true]
 refine wpAny_pure ?_
 show wpAny _ _ (typeOf (.ref (Af c 1)) >>= _) _ _ s
 refine wpAny_bind (wpAny_typeOf hTs ?_)
 rw [if_neg (by decide)]
 rw [listSliceParts_eq]
 refine wpAny_bind (wpAny_bind (wpAny_field hos rfl (x:=.none) rfl (wpAny_bind (wpAny_listPart (k:=none) .none ?_))))
 rw [if_neg (show ¬ ((rawPart none == rawInt 0)=true) from Bool.false_ne_true)]
 refine wpAny_bind (wpAny_field hos rfl (x:=.none) rfl (wpAny_bind (wpAny_listPart (k:=none) .none ?_)))
 refine wpAny_bind (wpAny_field hos rfl (x:=.int 30 t) rfl (wpAny_bind (wpAny_listPart (k:=some 30) (.int ..) (wpAny_pure ?_))))
 refine wpAny_bind (m:=Builtin.List.listItems (.ref (Af c 0))) ?_
 unfold Builtin.List.listItems
 refine wpAny_bind (wpAny_seqItems h0 rfl (wpAny_pure ?_))
 refine wpAny_bind (wpAny_of_eq (sliceIndices_raw none (some 30) none vs.toArray.size (by simp)) ?_)
 refine wpAny_bind (wpAny_newObj_type (wpAny_pure ⟨_,rfl,?_⟩) (Nat.le_trans (slicePick_size_le vs.toArray none (some 30) none) (by simp only [List.size_toArray];rw [sizeLine_eq];omega)))
 refine hR (λ_=>s.heap.objs.size) (λ_=>0) _ s.toks (.of_kept λb o e=>Heap.get?_push_of_some _ e) (λb o e _=>Heap.get?_push_of_some _ e) (λ_ hp=>(nomatch hp)) (λp hp=>?_) (by simp [Aeb])
 rcases mcm hp with rfl|hp
 ·refine ⟨?_,get?_size _⟩
  show _=some (Ac (sl30 vs) 0)
  exact Heap.get?_push_size _ rfl
 ·cases hp
theorem Ad1(vs:List Value):(sl30 vs).length<=vs.length:=by
 have:=slicePick_size_le vs.toArray none (some 30) none
 simpa [sl30] using this
theorem Ad0{vs:List Value}:∀ v∈sl30 vs,v∈vs:=by
 intro v hv
 unfold sl30 slicePick at hv
 simp at hv
 obtain ⟨i,_,h⟩:=hv
 exact List.mem_of_getElem? h
noncomputable def coPen(sc:Addr):Code:=.call (.ref 534) ⟨[.ref sc],[]⟩
noncomputable def cPen(sc:Addr)(vs:List Value)(n:Nat):Con:=
 ⟨coPen sc,[(sc,Ac vs n)],[],2,λnw tk=>[(nw 0,Ac [.ref (nw 1),.int 0 (tk 0),.int 0 (tk 1)] 0),(nw 1,Ac (Cx (tk 2)) (tk 3))],4,λnw _=>.ok (.ret (.ref (nw 0))),60⟩
noncomputable def cPen0(sc:Addr)(vs:List Value)(n:Nat):Con:=
 ⟨coPen sc,[(sc,Ac vs n)],[],2,λnw tk=>[(nw 0,Ac [.ref (nw 1),.int 0 (tk 0),.int 0 (tk 1)] 0),(nw 1,Ac [] 0)],2,λnw _=>.ok (.ret (.ref (nw 0))),60⟩

theorem pen_0{sc n:Nat}{vs:List Value}(hn:vs.length<=5000)(he:(sl30 vs).length<=0):OkF w b (cPen0 sc vs n) tT nL:=by
 let lZ:List (Fm w b):=[⟨λA T c=>.plain (Aeb vs n (T 1) c),λ_ _ c=>Zr hn _ _ c⟩,⟨λA T c=>.plain (Lg (Af c 0) (A 2) 0 0 (sl30 vs)),λ_ _ _=>Gk he⟩]
 refine oFY lZ ([⟨sc,Ac vs n,false,false⟩]) 77 67 0x1002031c80820c20c30030030030c00400400410020830c3040001001 0x1002031c80820c20c30000400400410020830c3040001001 [8,4] [3,4] (λal tk=>[]) ?_ ?_ ?_ ?_ (λal tk X hX=>cZ rfl)<;>intros<;>kernel_rfl
theorem pen_1{sc n:Nat}{vs us:List Value}{k0:Int}{t0:Nat}(hn:vs.length<=5000)(he:sl30 vs=Value.int k0 t0::us)(hi:Ll us):OkF w b (cPen sc vs n) (Eo 10000000 (us.length+1)) (λnw tk L=>L=[]/\Gq (tk 2)/\(xsN (tk 2)).size=(xsN 10000000).size+(us.length+1)):=by
 let lZ:List (Fm w b):=[⟨λA T c=>.plain (Aeb vs n (T 1) c),λ_ _ c=>Zr hn _ _ c⟩,⟨λA T c=>.full (cPL Aa w.params ⟨loC c,cloC c,itC c,(A 2),accC c⟩ 0 (1+us.length) (sl30 vs) 0 (Dq [] 0) (λtk=>tk 2) 3 (Ss k0 t0 us).1 (Ss k0 t0 us).2 10000000 0) (Eo 10000000 (us.length+1)) (Cz (us.length+1) 10000000),λ_ _ _=>pe_all _ _ _ he hi _ _⟩]
 refine oFY lZ ([⟨sc,Ac vs n,false,false⟩]) 76 66 0x20060010451810020400c20c30030030c00400400410020830c3040001001 0x20060010451810020400c20c00400400410020830c3040001001 [6,4] [6,7,2,3] (λal tk=>[(Eo 10000000 (us.length+1),Cz (us.length+1) 10000000 al (λz=>tk (2+z)))]) ?_ ?_ ?_ ?_ (λal tk X hX=>cS hX λL h=>cZ (by obtain ⟨rfl,h⟩:=h;exact ⟨rfl,h⟩))<;>intros<;>kernel_rfl
theorem Ahj:Cx 10000000=[]:=by kernel_rfl
theorem xsN0:(xsN 10000000).size=0:=by kernel_rfl
theorem Wq:Gq 10000000:=λi=>by
 have e:numAt (xsN 10000000) i=0:=by
  unfold numAt
  rw [Array.getElem?_eq_none (by rw [xsN0];omega)]
  rfl
 rw [e]
 exact ⟨Int.le_refl _,by decide⟩
noncomputable abbrev penX(nw:Nat->Addr)(tk:Nat->Tok):Pen:=⟨nw 0,nw 1,0,tk 3,xsN (tk 2)⟩
noncomputable def pick4(a b c d:Nat):Nat->Nat
 | 0=>a
 | 1=>b
 | 2=>c
 | _=>d
theorem pen_ok{sc n:Nat}{vs:List Value}(hn:vs.length<=63)(hi:Ll vs):OkF w b (cPen sc vs n) tT (λnw tk L=>L=[]/\(penX nw tk).Good):=by
 have hn5:vs.length<=5000:=by omega
 have hl:=Ad1 vs
 have good:∀ {c k:Nat}{pl cl:Addr},Gq c->(xsN c).size<=63->(⟨pl,cl,0,k,xsN c⟩:Pen).Good:=λh1 h2=>⟨Nat.le_trans h2 (by decide),λi=>(h1 i).1,λi=>(h1 i).2⟩
 cases e:sl30 vs with
 | nil=>
  refine Ap (pen_0 (sc:=sc) (n:=n) hn5 (by rw [e];exact Nat.le_refl _)) _ _ _ (λnw _=>nw) (λ_ tk=>pick4 (tk 0) (tk 1) 10000000 0) (λ_ _=>[]) rfl rfl (Nat.le_refl _) (λnw tk=>?_) (λ_ hp=>(nomatch hp)) (λ_ _ _ hp=>(nomatch hp)) (λ_ _=>rfl) (λ_ h=>h) λnw tk L hL=>⟨hL,good (c:=10000000) Wq (by rw [xsN0];decide)⟩
  show [(nw 0,Ac [.ref (nw 1),.int 0 (tk 0),.int 0 (tk 1)] 0),(nw 1,Ac (Cx 10000000) 0)]++[]=_
  rw [Ahj]
  rfl
 | cons u us=>
  have hi2:Ll (u::us):=λv hv=>hi v (Ad0 v (by rw [e];exact hv))
  obtain ⟨k,t,rfl⟩:=hi2 u (.head _)
  rw [e] at hl
  simp only [List.length_cons] at hl
  have z:=pen_1 (w:=w) (b:=b) (sc:=sc) (n:=n) hn5 e (λv hv=>hi2 v (.tail _ hv))
  refine Ap z _ _ _ (λnw _=>nw) (λ_ tk=>tk) (λ_ _=>[]) rfl rfl (Nat.le_refl _) (λnw tk=>rfl) (λ_ hp=>(nomatch hp)) (λ_ _ _ hp=>(nomatch hp)) (λ_ _=>rfl) (λ_ _=>⟨Wq,by rw [xsN0];omega⟩) λnw tk L hL=>⟨hL.1,good hL.2.1 ?_⟩
  have h2:=hL.2.2
  rw [xsN0] at h2
  show (xsN (tk 2)).size<=63
  omega
noncomputable def cRtL(ss bh:Addr)(l:List Addr)(ns:Nat)(lb:List Addr)(nb:Nat):Con:=⟨coRt ss bh,[(ss,Ac (Fw l) ns),(bh,Ac (Fw lb) nb)],[],0,λ_ _=>[],0,λ_ _=>.ok (.ret (.bool true)),145⟩
structure Fe (sorts:List Cl)(behind:List T2):Prop where
 fine:∀ o∈sorts,Et o
 ne:sorts≠[]
 few:sorts.length<=3
 e:∃ hch:Bool,(∀ ls:List Tk,ls.map Tk.pw=behind->Nv hch ls)/\(hch=true->∀ s∈sorts,sEqB s.1 "CHARACTERS"=true)
 b:behind.length<=10
theorem Km{sorts:List Cl}{behind:List T2}(h:Fe sorts behind)(ss bh cs ns cb nb:Nat) :
  OkF w b (cRt ss bh cs ns cb nb) (λX=>Ab X (refs cs) (sorts.map Az)/\Ab X (refs cb) (behind.map tokD)) (λ_ _ _=>True):=by
 obtain ⟨hch,h1,h2⟩:=h.e
 exact Ad6 h.fine h.ne h.few h1 h2 h.b ss bh cs ns cb nb
theorem Ag0{sorts:List Cl}{behind:List T2}(h:Fe sorts behind)(ss bh ns nb:Nat)(l lb:List Addr) :
  OkF w b (cRtL ss bh l ns lb nb) (λX=>Ab X (Fw l) (sorts.map Az)/\Ab X (Fw lb) (behind.map tokD)) (λ_ _ _=>True):=by
 obtain ⟨cs,h1⟩:=Dm l
 obtain ⟨cb,h2⟩:=Dm lb
 have z:=Km (w:=w) (b:=b) h ss bh cs ns cb nb
 unfold cRt at z
 rw [h1,h2] at z
 exact z
noncomputable abbrev sg2(b:Str):T2:=("sign",b)
structure QL where
 k1:Tok
 k2:Tok
 k3:Tok
 k4:Tok
 k5:Tok
 k6:Tok
 k7:Tok
 k8:Tok
 k9:Tok
structure LV where
 sc:Addr
 b:Addr
 a:Addr
 st:Addr
 ln:Addr
 pr:Addr
noncomputable def lawF(sl:Array (Option Value))(es:List DictEntry)(n:Nat):Obj:={ cls:=.type "frame",data:=.dict es.toArray n,slots:=sl }
noncomputable def lv6(P:Params)(q:QL)(v:LV):List DictEntry:=[ent P "script" q.k1 (.ref v.sc),ent P "b" q.k2 (.ref v.b),ent P "a" q.k3 (.ref v.a),ent P "stop" q.k4 (.ref v.st),ent P "lone" q.k5 (.ref v.ln),ent P "pairs" q.k6 (.ref v.pr)]
noncomputable def lv7(P:Params)(q:QL)(v:LV)(so:Nat):List DictEntry:=lv6 P q v++[ent P "sorts" q.k7 (.ref so)]
noncomputable def Gn(v:Option Value):Obj:={ cls:=.type "cell",data:=.cell v }
noncomputable abbrev lawB(st:SP)(P:Params):List Stmt:=Ae (st P 603)
noncomputable def lawE(st:SP)(P:Params)(lo pc:Addr):Env:={ envF (st P) 603 lo with cells:=[("pen",pc)] }
noncomputable def Ol(st:SP)(P:Params)(lo pc:Addr):Code:=.func (lawB st P) (lawE st P lo pc)
noncomputable def cSts(st:SP)(P:Params)(lo pc:Addr)(sl:Array (Option Value))(q:QL)(v:LV)(x:Pen)(s s':St)(t u:Tok):Con:=
 ⟨Ol st P lo pc,x.pre s t u++[(lo,lawF sl (lv6 P q v) 6),(pc,Gn (some (.ref x.pl)))],[(x.pl,λtk=>x.o s' (tk 0) (tk 1)),(lo,λtk=>lawF sl (lv7 P { q with k7:=tk 2 } v (tk 3)) 7)],0,λ_ tk=>[(tk 3,Ac (refs (tk 4)) (tk 5))],6,λ_ _=>.ok .next,160⟩

noncomputable def lv8(P:Params)(q:QL)(v:LV)(so bh:Nat):List DictEntry:=lv7 P q v so++[ent P "behind" q.k8 (.ref bh)]
noncomputable def Aec(st:SP)(P:Params)(lo pc:Addr)(sl:Array (Option Value))(q:QL)(v:LV)(x:Pen)(s s':St)(t u:Tok)(so cs ns cb nb:Nat)(bh:(Nat->Tok)->Nat):Con:=
 ⟨Ol st P lo pc,x.pre s t u++[(lo,lawF sl (lv7 P q v so) 7),(pc,Gn (some (.ref x.pl))),(so,Ac (refs cs) ns),(v.st,Ac (refs cb) nb)],[(x.pl,λtk=>x.o s' (tk 0) (tk 1)),(lo,λtk=>lawF sl (lv8 P { q with k8:=tk 2 } v so (bh tk)) 8)],0,λ_ tk=>[],4,λ_ _=>.ok (.ret (.bool true)),170⟩
theorem Re{cs cb ce ci c:Nat}{sorts:List Cl}{bt:List T2}{X L0 L1:List AO}(hX:Ab X (refs cs) (sorts.map Az))(hb:Ab ((X++L0)++L1) (refs c) (bt.map tokD)):Ab ((X++L0)++L1) (refs cs) (sorts.map Az)/\Ab ((X++L0)++L1) (refs c) (bt.map tokD):=⟨hX.left.left,hb⟩

theorem sts_0{x:Pen}{s:St}{t u:Tok}{n:Nat}(hx:x.Good)(hs:s.Inv n)(hn:n<=2 ^ 59)(h0:x.dig s 3=0){lo pc:Addr}{sl:Array (Option Value)}{q:QL}{v:LV}{s2 s3 s4:St}{o1 o2 o3:Cl}(hS1:∀ t u,OkF w b (Il x (x.nxt s 3) s2 t u) tT (λnw _ L=>DatV L (.ref (nw 0)) (Az o1))):OkT w b (cSts Aa w.params lo pc sl q v x s s2 t u) (Cq (((lawB Aa w.params).drop 8).take 1) (lawE Aa w.params lo pc)) tT (λ_ tk L=>Ab L (refs (tk 4)) [Az o1]):=by
 let lZ:List (Fm w b):=[pl (cDrw x s (x.nxt s 3) 3 0 t u) λc=>h0▸Ah hx hs (by omega) Ik c,⟨λA T c=>.full (Il x (x.nxt s 3) s2 (T 2) (T 3)) tT (λnw _ L=>DatV L (.ref (nw 0)) (Az o1)),λ_ _ _=>hS1 _ _⟩,xP0]
 refine oTY lZ (x.K s t u++[⟨lo,lawF sl (lv6 w.params q v) 6,true,false⟩,⟨pc,Gn (some (.ref x.pl)),false,false⟩]) 137 127 0xc81820c32090430c30030030010441051030080000420c20c30c30030030030030030c0041041001001041001001040000000000040080100000 0xc81820c32090430c30030030010441051030080000420c20c30c3003003000041041001001041001001040000000000040080100000 [] [10,11,14,514,12,13] (λal tk=>[(λ_=>True,λL=>DatV L (.ref (al 4)) (Az o1)),(λ_=>True,λL=>L=[]/\refs (tk 12)=[Value.ref (al 4)])]) ?_ ?_ ?_ ?_ (λal tk X hX=>by refine cS trivial λL0 h0=>cS trivial λL1 h1=>?_;obtain ⟨rfl,h1⟩:=h1;refine cZ ?_;show Ab _ (refs (tk 12)) [Az o1];rw [h1];exact (.cons (h0.mono λp hp=>by simp [hp]) .nil))<;>intros<;>kernel_rfl
theorem sts_1{x:Pen}{s:St}{t u:Tok}{n:Nat}(hx:x.Good)(hs:s.Inv n)(hn:n<=2 ^ 59)(h0:x.dig s 3=1){lo pc:Addr}{sl:Array (Option Value)}{q:QL}{v:LV}{s2 s3 s4:St}{o1 o2 o3:Cl}(hS1:∀ t u,OkF w b (Il x (x.nxt s 3) s2 t u) tT (λnw _ L=>DatV L (.ref (nw 0)) (Az o1)))(hS2:∀ t u,OkF w b (Il x s2 s3 t u) tT (λnw _ L=>DatV L (.ref (nw 0)) (Az o2))):OkT w b (cSts Aa w.params lo pc sl q v x s s3 t u) (Cq (((lawB Aa w.params).drop 8).take 1) (lawE Aa w.params lo pc)) tT (λ_ tk L=>Ab L (refs (tk 4)) [Az o1,Az o2]):=by
 let lZ:List (Fm w b):=[pl (cDrw x s (x.nxt s 3) 3 1 t u) λc=>h0▸Ah hx hs (by omega) Ik c,⟨λA T c=>.full (Il x (x.nxt s 3) s2 (T 2) (T 3)) tT (λnw _ L=>DatV L (.ref (nw 0)) (Az o1)),λ_ _ _=>hS1 _ _⟩,xP0,⟨λA T c=>.full (Il x s2 s3 (T 10) (T 11)) tT (λnw _ L=>DatV L (.ref (nw 0)) (Az o2)),λ_ _ _=>hS2 _ _⟩,⟨λA T cd=>.full (cApp (T 12) (T 13) cd) (λ_=>(refs (T 12)).length<=5000) (λ_ tk L=>L=[]/\refs (tk 0)=refs (T 12)++[Value.ref (Af cd 1)]),λ_ _ cd=>Kd _ _ cd⟩]
 refine oTY lZ (x.K s t u++[⟨lo,lawF sl (lv6 w.params q v) 6,true,false⟩,⟨pc,Gn (some (.ref x.pl)),false,false⟩]) 168 158 0xc81820c32090430c30030030010461051050080000420c20c30c30030030010441051030080000420c20c30c30030030030030030c0041041001001041001001040000000000040080100000 0xc81820c32090430c30030030010461051050080000420c20c30c30030030010441051030080000420c20c30c3003003000041041001001041001001040000000000040080100000 [] [16,17,20,514,18,19] (λal tk=>[(λ_=>True,λL=>DatV L (.ref (al 4)) (Az o1)),(λ_=>True,λL=>L=[]/\refs (tk 12)=[Value.ref (al 4)]),(λ_=>True,λL=>DatV L (.ref (al 5)) (Az o2)),(λ_=>(refs (tk 12)).length<=5000,λL=>L=[]/\refs (tk 18)=refs (tk 12)++[Value.ref (al 5)])]) ?_ ?_ ?_ ?_ (λal tk X hX=>by refine cS trivial λL0 h0=>cS trivial λL1 h1=>?_;obtain ⟨rfl,h1⟩:=h1;refine cS trivial λL2 h2=>cS (by rw [h1];simp) λL3 h3=>?_;obtain ⟨rfl,h3⟩:=h3;refine cZ ?_;show Ab _ (refs (tk 18)) [Az o1,Az o2];rw [h3,h1];exact (.cons (h0.mono λp hp=>by simp [hp]) (.cons (h2.mono λp hp=>by simp [hp]) .nil)))<;>intros<;>kernel_rfl
theorem sts_2{x:Pen}{s:St}{t u:Tok}{n:Nat}(hx:x.Good)(hs:s.Inv n)(hn:n<=2 ^ 59)(h0:x.dig s 3=2){lo pc:Addr}{sl:Array (Option Value)}{q:QL}{v:LV}{s2 s3 s4:St}{o1 o2 o3:Cl}(hS1:∀ t u,OkF w b (Il x (x.nxt s 3) s2 t u) tT (λnw _ L=>DatV L (.ref (nw 0)) (Az o1)))(hS2:∀ t u,OkF w b (Il x s2 s3 t u) tT (λnw _ L=>DatV L (.ref (nw 0)) (Az o2)))(hS3:∀ t u,OkF w b (Il x s3 s4 t u) tT (λnw _ L=>DatV L (.ref (nw 0)) (Az o3))):OkT w b (cSts Aa w.params lo pc sl q v x s s4 t u) (Cq (((lawB Aa w.params).drop 8).take 1) (lawE Aa w.params lo pc)) tT (λ_ tk L=>Ab L (refs (tk 4)) [Az o1,Az o2,Az o3]):=by
 let lZ:List (Fm w b):=[pl (cDrw x s (x.nxt s 3) 3 2 t u) λc=>h0▸Ah hx hs (by omega) Ik c,⟨λA T c=>.full (Il x (x.nxt s 3) s2 (T 2) (T 3)) tT (λnw _ L=>DatV L (.ref (nw 0)) (Az o1)),λ_ _ _=>hS1 _ _⟩,xP0,⟨λA T c=>.full (Il x s2 s3 (T 10) (T 11)) tT (λnw _ L=>DatV L (.ref (nw 0)) (Az o2)),λ_ _ _=>hS2 _ _⟩,⟨λA T cd=>.full (cApp (T 12) (T 13) cd) (λ_=>(refs (T 12)).length<=5000) (λ_ tk L=>L=[]/\refs (tk 0)=refs (T 12)++[Value.ref (Af cd 1)]),λ_ _ cd=>Kd _ _ cd⟩,⟨λA T c=>.full (Il x s3 s4 (T 16) (T 17)) tT (λnw _ L=>DatV L (.ref (nw 0)) (Az o3)),λ_ _ _=>hS3 _ _⟩,⟨λA T cd=>.full (cApp (T 18) (T 19) cd) (λ_=>(refs (T 18)).length<=5000) (λ_ tk L=>L=[]/\refs (tk 0)=refs (T 18)++[Value.ref (Af cd 1)]),λ_ _ cd=>Kd _ _ cd⟩]
 refine oTY lZ (x.K s t u++[⟨lo,lawF sl (lv6 w.params q v) 6,true,false⟩,⟨pc,Gn (some (.ref x.pl)),false,false⟩]) 199 189 0xc81820c32090430c30030030010481051070080000420c20c30c30030030010461051050080000420c20c30c30030030010441051030080000420c20c30c30030030030030030c0041041001001041001001040000000000040080100000 0xc81820c32090430c30030030010481051070080000420c20c30c30030030010461051050080000420c20c30c30030030010441051030080000420c20c30c3003003000041041001001041001001040000000000040080100000 [] [22,23,26,514,24,25] (λal tk=>[(λ_=>True,λL=>DatV L (.ref (al 4)) (Az o1)),(λ_=>True,λL=>L=[]/\refs (tk 12)=[Value.ref (al 4)]),(λ_=>True,λL=>DatV L (.ref (al 5)) (Az o2)),(λ_=>(refs (tk 12)).length<=5000,λL=>L=[]/\refs (tk 18)=refs (tk 12)++[Value.ref (al 5)]),(λ_=>True,λL=>DatV L (.ref (al 6)) (Az o3)),(λ_=>(refs (tk 18)).length<=5000,λL=>L=[]/\refs (tk 24)=refs (tk 18)++[Value.ref (al 6)])]) ?_ ?_ ?_ ?_ (λal tk X hX=>by refine cS trivial λL0 h0=>cS trivial λL1 h1=>?_;obtain ⟨rfl,h1⟩:=h1;refine cS trivial λL2 h2=>cS (by rw [h1];simp) λL3 h3=>?_;obtain ⟨rfl,h3⟩:=h3;refine cS trivial λL4 h4=>cS (by rw [h3,h1];simp) λL5 h5=>?_;obtain ⟨rfl,h5⟩:=h5;refine cZ ?_;show Ab _ (refs (tk 24)) [Az o1,Az o2,Az o3];rw [h5,h3,h1];exact (.cons (h0.mono λp hp=>by simp [hp]) (.cons (h2.mono λp hp=>by simp [hp]) (.cons (h4.mono λp hp=>by simp [hp]) .nil))))<;>intros<;>kernel_rfl
theorem end_0{x:Pen}{s:St}{t u:Tok}{n:Nat}(hx:x.Good)(hs:s.Inv n)(hn:n<=2 ^ 59)(h0:x.dig s 4=0){lo pc:Addr}{sl:Array (Option Value)}{q:QL}{v:LV}{so cs ns cb nb:Nat}{sorts:List Cl}(hR:Fe sorts [sg2 "."]):OkT w b (Aec Aa w.params lo pc sl q v x s (x.nxt s 4) t u so cs ns cb nb (λ_=>v.st)) (Cq (((lawB Aa w.params).drop 9)) (lawE Aa w.params lo pc)) (λX=>Ab X (refs cs) (sorts.map Az)/\Ab X (refs cb) ([sg2 "."].map tokD)) (λ_ _ _=>True):=by
 let lZ:List (Fm w b):=[pl (cDrw x s (x.nxt s 4) 4 0 t u) λc=>h0▸Ah hx hs (by omega) Dp c,Jk,Fg,⟨λ_ _ c=>.full (cRt so (Af c 1) cs ns cb nb) (λX=>Ab X (refs cs) (sorts.map Az)/\Ab X (refs cb) ([sg2 "."].map tokD)) (λ_ _ _=>True),λ_ _ _=>Km hR _ _ _ _ _ _⟩]
 refine oT lZ (x.K s t u++[⟨lo,lawF sl (lv7 w.params q v so) 7,true,false⟩,⟨pc,Gn (some (.ref x.pl)),false,false⟩,⟨so,Ac (refs cs) ns,false,false⟩,⟨v.st,Ac (refs cb) nb,false,false⟩]) 110 0x714a2450082001c80800800820851850800800800800010000400400010010010040000c0003100 [] [10,11,13] (λal tk=>[eW (tk 1) [tokD (w2 "END-IF")],eW (tk 4) [tokD (w2 "INSPECT"),tokD (w2 "K")],(λX=>Ab X (refs cs) (sorts.map Az)/\Ab X (refs cb) (([sg2 "."]:List T2).map tokD),λL=>True)]) ?_ (λal tk X hX=>cS trivial λL0 h0=>cS trivial λL1 h1=>cS (Re (ce:=0) (ci:=0) (cb:=0) (bt:=[sg2 "."]) hX.1 hX.2.left.left) λL2 _=>cZ trivial)<;>intros<;>kernel_rfl
theorem end_1{x:Pen}{s:St}{t u:Tok}{n:Nat}(hx:x.Good)(hs:s.Inv n)(hn:n<=2 ^ 59)(h0:x.dig s 4=1){lo pc:Addr}{sl:Array (Option Value)}{q:QL}{v:LV}{so cs ns cb nb:Nat}{sorts:List Cl}(hR:Fe sorts [w2 "END-IF"]):OkT w b (Aec Aa w.params lo pc sl q v x s (x.nxt s 4) t u so cs ns cb nb (λtk=>tk 3)) (Cq (((lawB Aa w.params).drop 9)) (lawE Aa w.params lo pc)) (λX=>Ab X (refs cs) (sorts.map Az)/\Ab X (refs cb) ([sg2 "."].map tokD)) (λ_ _ _=>True):=by
 let lZ:List (Fm w b):=[pl (cDrw x s (x.nxt s 4) 4 1 t u) λc=>h0▸Ah hx hs (by omega) Dp c,Jk,Fg,⟨λA T c=>.full (cRt so (Af c 1) cs ns (T 1) (T 2)) (λX=>Ab X (refs cs) (sorts.map Az)/\Ab X (refs (T 1)) ([w2 "END-IF"].map tokD)) (λ_ _ _=>True),λ_ _ _=>Km hR _ _ _ _ _ _⟩]
 refine oT lZ (x.K s t u++[⟨lo,lawF sl (lv7 w.params q v so) 7,true,false⟩,⟨pc,Gn (some (.ref x.pl)),false,false⟩,⟨so,Ac (refs cs) ns,false,false⟩,⟨v.st,Ac (refs cb) nb,false,false⟩]) 110 0x71442450082001c80800800820851850800800800800010000400400010010010040000c0003100 [] [10,11,13,512] (λal tk=>[eW (tk 1) [tokD (w2 "END-IF")],eW (tk 4) [tokD (w2 "INSPECT"),tokD (w2 "K")],(λX=>Ab X (refs cs) (sorts.map Az)/\Ab X (refs (tk 1)) (([w2 "END-IF"]:List T2).map tokD),λL=>True)]) ?_ (λal tk X hX=>cS trivial λL0 h0=>cS trivial λL1 h1=>cS (Re (ce:=0) (ci:=0) (cb:=0) (bt:=[w2 "END-IF"]) hX.1 h0.right.left) λL2 _=>cZ trivial)<;>intros<;>kernel_rfl
theorem end_2{x:Pen}{s:St}{t u:Tok}{n:Nat}(hx:x.Good)(hs:s.Inv n)(hn:n<=2 ^ 59)(h0:x.dig s 4=2){lo pc:Addr}{sl:Array (Option Value)}{q:QL}{v:LV}{so cs ns cb nb:Nat}{sorts:List Cl}(hR:Fe sorts [w2 "INSPECT",w2 "K"]):OkT w b (Aec Aa w.params lo pc sl q v x s (x.nxt s 4) t u so cs ns cb nb (λtk=>tk 3)) (Cq (((lawB Aa w.params).drop 9)) (lawE Aa w.params lo pc)) (λX=>Ab X (refs cs) (sorts.map Az)/\Ab X (refs cb) ([sg2 "."].map tokD)) (λ_ _ _=>True):=by
 let lZ:List (Fm w b):=[pl (cDrw x s (x.nxt s 4) 4 2 t u) λc=>h0▸Ah hx hs (by omega) Dp c,Jk,Fg,⟨λA T c=>.full (cRt so (Af c 1) cs ns (T 4) (T 5)) (λX=>Ab X (refs cs) (sorts.map Az)/\Ab X (refs (T 4)) ([w2 "INSPECT",w2 "K"].map tokD)) (λ_ _ _=>True),λ_ _ _=>Km hR _ _ _ _ _ _⟩]
 refine oT lZ (x.K s t u++[⟨lo,lawF sl (lv7 w.params q v so) 7,true,false⟩,⟨pc,Gn (some (.ref x.pl)),false,false⟩,⟨so,Ac (refs cs) ns,false,false⟩,⟨v.st,Ac (refs cb) nb,false,false⟩]) 110 0x71432450082001c80800800820851850800800800800010000400400010010010040000c0003100 [] [10,11,13,513] (λal tk=>[eW (tk 1) [tokD (w2 "END-IF")],eW (tk 4) [tokD (w2 "INSPECT"),tokD (w2 "K")],(λX=>Ab X (refs cs) (sorts.map Az)/\Ab X (refs (tk 4)) (([w2 "INSPECT",w2 "K"]:List T2).map tokD),λL=>True)]) ?_ (λal tk X hX=>cS trivial λL0 h0=>cS trivial λL1 h1=>cS (Re (ce:=0) (ci:=0) (cb:=0) (bt:=[w2 "INSPECT",w2 "K"]) hX.1 h1.right) λL2 _=>cZ trivial)<;>intros<;>kernel_rfl
theorem end_3{x:Pen}{s:St}{t u:Tok}{n:Nat}(hx:x.Good)(hs:s.Inv n)(hn:n<=2 ^ 59)(h0:x.dig s 4=3){lo pc:Addr}{sl:Array (Option Value)}{q:QL}{v:LV}{so cs ns cb nb:Nat}{sorts:List Cl}(hR:Fe sorts []):OkT w b (Aec Aa w.params lo pc sl q v x s (x.nxt s 4) t u so cs ns cb nb (λtk=>tk 3)) (Cq (((lawB Aa w.params).drop 9)) (lawE Aa w.params lo pc)) (λX=>Ab X (refs cs) (sorts.map Az)/\Ab X (refs cb) ([sg2 "."].map tokD)) (λ_ _ _=>True):=by
 let lZ:List (Fm w b):=[pl (cDrw x s (x.nxt s 4) 4 3 t u) λc=>h0▸Ah hx hs (by omega) Dp c,Jk,Fg,⟨λ_ _ c=>.full (cRt so (Af c 1) cs ns 10000000 0) (λX=>Ab X (refs cs) (sorts.map Az)/\Ab X (refs 10000000) (([]:List T2).map tokD)) (λ_ _ _=>True),λ_ _ _=>Km hR _ _ _ _ _ _⟩]
 refine oT lZ (x.K s t u++[⟨lo,lawF sl (lv7 w.params q v so) 7,true,false⟩,⟨pc,Gn (some (.ref x.pl)),false,false⟩,⟨so,Ac (refs cs) ns,false,false⟩,⟨v.st,Ac (refs cb) nb,false,false⟩]) 110 0x71422450082001c80800800820851850800800800800010000400400010010010040000c0003100 [] [10,11,13,514] (λal tk=>[eW (tk 1) [tokD (w2 "END-IF")],eW (tk 4) [tokD (w2 "INSPECT"),tokD (w2 "K")],(λX=>Ab X (refs cs) (sorts.map Az)/\Ab X (refs 10000000) (([]:List T2).map tokD),λL=>True)]) ?_ (λal tk X hX=>cS trivial λL0 h0=>cS trivial λL1 h1=>cS (Re (ce:=0) (ci:=0) (cb:=0) (bt:=[]) hX.1 (by rw [Ag9];exact .nil)) λL2 _=>cZ trivial)<;>intros<;>kernel_rfl
noncomputable def Aad(tk:Nat->Tok):List AO:=[((tk 0),tupO [.ref (tk 1),.ref (tk 2)]),((tk 1),Ac (refs (tk 18)) (tk 19)),((tk 3),tupO [.ref (tk 4),.ref (tk 5)]),((tk 4),Ac (refs (tk 20)) (tk 21)),((tk 6),Ac [.ref (tk 7)] 0),((tk 7),tupO [.str "sign" (tk 22),.str "." (tk 23)]),((tk 8),tupO [.ref (tk 9),.ref (tk 10)]),((tk 9),Ac (refs (tk 24)) (tk 25)),((tk 10),tupO [.str "CHARACTERS" (tk 26),.none,.ref (tk 5),.none,.none]),((tk 11),Ac [.ref (tk 12),.ref (tk 15)] 0),((tk 12),tupO [.ref (tk 13),.ref (tk 14)]),((tk 13),Ac (refs (tk 27)) (tk 28)),((tk 14),tupO [.str "ALL" (tk 29),.ref (tk 2),.ref (tk 5),.none,.none]),((tk 15),tupO [.ref (tk 16),.ref (tk 17)]),((tk 16),Ac (refs (tk 30)) (tk 31)),((tk 17),tupO [.str "ALL" (tk 32),.ref (tk 5),.ref (tk 2),.none,.none])]
noncomputable def cP1(st:SP)(P:Params)(lo pc sc:Addr)(k1:Tok):Con:=
 ⟨Ol st P lo pc,[(lo,lawF #[] [ent P "script" k1 (.ref sc)] 1)],[(lo,λtk=>lawF #[] (lv6 P ⟨k1,tk 33,tk 34,tk 35,tk 36,tk 37,0,0,0⟩ ⟨sc,(tk 3),(tk 0),(tk 6),(tk 8),(tk 11)⟩) 6)],0,λ_ tk=>Aad tk,38,λ_ _=>.ok .next,60⟩
noncomputable def Af8(tk:Nat->Tok)(L:List AO):Prop:=Ab L (refs (tk 18)) [tokD (l2 "a")]/\DatV L (.ref (tk 2)) (Op.lit #[97]).dat/\Ab L (refs (tk 20)) [tokD (l2 "b")]/\DatV L (.ref (tk 5)) (Op.lit #[98]).dat/\Ab L (refs (tk 24)) [tokD (w2 "BY"),tokD (l2 "b")]/\Ab L (refs (tk 27)) [tokD (l2 "a"),tokD (w2 "BY"),tokD (l2 "b")]/\Ab L (refs (tk 30)) [tokD (l2 "b"),tokD (w2 "BY"),tokD (l2 "a")]
noncomputable def cP5(st:SP)(P:Params)(lo pc sc n:Nat)(vs:List Value)(sl:Array (Option Value))(q:QL)(v:LV):Con:=
 ⟨Ol st P lo pc,[(lo,lawF sl (lv6 P q v) 6),(pc,Gn none),(sc,Ac vs n)],[(pc,λtk=>Gn (some (.ref (tk 4))))],0,λ_ tk=>[(tk 4,Ac [.ref (tk 5),.int 0 (tk 0),.int 0 (tk 1)] 0),(tk 5,Ac (Cx (tk 2)) (tk 3))],6,λ_ _=>.ok .next,100⟩

theorem law_p1{lo pc sc k1:Nat}:OkT w b (cP1 Aa w.params lo pc sc k1) (Cq ((lawB Aa w.params).take 3) (lawE Aa w.params lo pc)) tT (λ_ tk L=>Af8 tk L):=by
 let lZ:List (Fm w b):=[xL_a,xL_b,Nw,xA 12 13 6 7,xA 3 4 22 23,xA 24 25 6 7,xA 6 7 34 35,xA 36 37 3 4]
 refine oTX lZ ([⟨lo,lawF #[] [ent w.params "script" k1 (.ref sc)] 1,true,false⟩]) 317 0x8304720600c34b6174d45566596940140145145d20120124925d10090520530130134d35803883c13c40003c03c03cf3d434034034d3523c03c03cf3d22801c12c130030030c31100b18c04c10000c00c00c30c3ce3c80080082083450050460470070071c730400028b28b28b0400420410010010010810400400400420410010010010810400400410010010410c0002000 [] [514,515,516,517,518,519,513,512,527,525,526,538,532,530,531,537,535,536,3,4,6,7,0,1,15,16,17,27,28,29,39,40,41,8,9,10,19,44] (λal tk=>[eL (tk 3) [tokD (l2 "a")] (al (2+2)) #[97],eL (tk 6) [tokD (l2 "b")] (al (5+2)) #[98],eW (tk 12) [tokD (w2 "BY")],eA (tk 15) (tk 12) (tk 6),eW (tk 22) [tokD (w2 "BY")],eA (tk 24) (tk 3) (tk 22),eA (tk 27) (tk 24) (tk 6),eW (tk 34) [tokD (w2 "BY")],eA (tk 36) (tk 6) (tk 34),eA (tk 39) (tk 36) (tk 3)]) ?_ ?_ (λal tk X hX=>by refine cS trivial λL0 h0=>cS trivial λL1 h1=>cS trivial λL2 h2=>?_;have x0:=h0.1.get.1;have x1:=h1.1.get.1;have x2:=h2.get.1;simp only [List.length_cons,List.length_nil] at x0 x1 x2;refine cS (by show _+_<=5000;omega) λL3 h3=>cS trivial λL4 h4=>?_;obtain ⟨rfl,h3⟩:=h3;have x4:=h4.get.1;simp only [List.length_cons,List.length_nil] at x4;refine cS (by show _+_<=5000;omega) λL5 h5=>?_;obtain ⟨rfl,h5⟩:=h5;refine cS (by show _+_<=5000;rw [h5,List.length_append];omega) λL6 h6=>cS trivial λL7 h7=>?_;obtain ⟨rfl,h6⟩:=h6;have x7:=h7.get.1;simp only [List.length_cons,List.length_nil] at x7;refine cS (by show _+_<=5000;omega) λL8 h8=>?_;obtain ⟨rfl,h8⟩:=h8;refine cS (by show _+_<=5000;rw [h8,List.length_append];omega) λL9 h9=>cZ ?_;obtain ⟨rfl,h9⟩:=h9;exact ⟨h0.1.mono λp hp=>by simp [hp],h0.2.mono λp hp=>by simp [hp],h1.1.mono λp hp=>by simp [hp],h1.2.mono λp hp=>by simp [hp],by show Ab _ (refs (tk 15)) _;rw [h3];exact Ab.app (l:=[_]) (h2.mono λp hp=>by simp [hp]) (h1.1.mono λp hp=>by simp [hp]),by show Ab _ (refs (tk 27)) _;rw [h6,h5];exact Ab.app (l:=[_,_]) (Ab.app (l:=[_]) (h0.1.mono λp hp=>by simp [hp]) (h4.mono λp hp=>by simp [hp])) (h1.1.mono λp hp=>by simp [hp]),by show Ab _ (refs (tk 39)) _;rw [h9,h8];exact Ab.app (l:=[_,_]) (Ab.app (l:=[_]) (h1.1.mono λp hp=>by simp [hp]) (h7.mono λp hp=>by simp [hp])) (h0.1.mono λp hp=>by simp [hp])⟩)<;>intros<;>kernel_rfl
theorem law_p5{lo pc sc n:Nat}{vs:List Value}{sl:Array (Option Value)}{q:QL}{v:LV}(hv:v.sc=sc)(hn:vs.length<=63)(hi:Ll vs):OkT w b (cP5 Aa w.params lo pc v.sc n vs sl q v) (Cq (((lawB Aa w.params).drop 7).take 1) (lawE Aa w.params lo pc)) tT (λ_ tk L=>L=[]/\(⟨tk 4,tk 5,0,tk 3,xsN (tk 2)⟩:Pen).Good):=by
 subst hv
 let lZ:List (Fm w b):=[fl (λ_=>cPen v.sc vs n) tT (λnw tk L=>L=[]/\(penX nw tk).Good) λ_=>pen_ok hn hi]
 refine oT lZ ([⟨lo,lawF sl (lv6 w.params q v) 6,false,false⟩,⟨pc,Gn none,true,false⟩,⟨v.sc,Ac vs n,false,false⟩]) 25 0x10c3102080040 [] [0,1,2,3,512,513] (λal tk=>[(λ_=>True,λL=>L=[]/\(penX (λz=>al (0+z)) (λz=>tk (0+z))).Good)]) ?_ (λal tk X hX=>cS trivial λL h=>cZ (by obtain ⟨rfl,h⟩:=h;exact ⟨rfl,h⟩))<;>intros<;>kernel_rfl
theorem De{k:Tk}{ls:List Tk}{a b:Str}(h:k.pw=(a,b))(h1:(sEqB a "word" && sEqB b "CHARACTERS")=false)(h2:(sEqB a "word" && sEqB b "ALL")=false)(h3:(sEqB a "word" && sEqB b "LEADING")=false)(h4:(sEqB a "word" && sEqB b "FIRST")=false):Pg (k::ls).head?:=
 ⟨(Dg h _).trans h1,(Dg h _).trans h2,(Dg h _).trans h3,(Dg h _).trans h4⟩
theorem Ahc(ch:Bool)(hc:ch=true){x:Str}{bt:List T2}:∀ ls:List Tk,ls.map Tk.pw=l2 x::bt->Nv ch ls:=by
 intro ls h
 obtain ⟨k,r,rfl,e,_⟩:=Cv h
 exact ⟨Bt e rfl rfl rfl rfl rfl,De e rfl rfl rfl rfl,λz=>by rw [hc] at z;cases z⟩
theorem Wm(ch:Bool):∀ ls:List Tk,ls.map Tk.pw=[sg2 "."]->Nv ch ls:=by
 intro ls h
 obtain ⟨k,rfl,e⟩:=Ja h
 refine ⟨Bt e rfl rfl (by decide) rfl rfl,De e rfl rfl rfl rfl,λ_=>?_⟩
 intro w b r p t hat c
 have hat:At r p (some k):=hat
 exact Bz hat (λc=>Oo hat ((Gt e _).trans (by decide)) ((Gt e _).trans (by decide)) ((Gu e _).trans (by decide)) ((Gu e _).trans (by decide)) ((Gu e _).trans (by decide)) c) c
theorem Ae3(ch:Bool):∀ ls:List Tk,ls.map Tk.pw=([]:List T2)->Nv ch ls:=by
 intro ls h
 obtain rfl:=List.map_eq_nil_iff.mp h
 refine ⟨⟨⟨rfl,rfl,rfl⟩,rfl,rfl⟩,⟨rfl,rfl,rfl,rfl⟩,λ_=>?_⟩
 intro w b r p t hat c
 have hat:At r p none:=hat
 exact Rk hat (λc=>Oq hat rfl rfl rfl rfl rfl c) c
theorem Abl(ch:Bool):∀ ls:List Tk,ls.map Tk.pw=[w2 "END-IF"]->Nv ch ls:=by
 intro ls h
 obtain ⟨k,rfl,e⟩:=Ja h
 refine ⟨Bt e (by decide) (by decide) (by decide) (by decide) (by decide),De e (by decide) (by decide) (by decide) (by decide),λ_=>?_⟩
 intro w b r p t hat c
 have hat:At r p (some k):=hat
 show Ok w b (Fj w.params r p t (some k) false c)
 rw [Tk.eq_as e] at hat ⊢
 exact Bz hat (λc=>Tl hat c) c
theorem Ae4(ch:Bool):∀ ls:List Tk,ls.map Tk.pw=[w2 "CONVERTING"]->Nv ch ls:=by
 intro ls h
 obtain ⟨k,rfl,e⟩:=Ja h
 refine ⟨Bt e (by decide) (by decide) (by decide) (by decide) (by decide),De e (by decide) (by decide) (by decide) (by decide),λ_=>?_⟩
 intro w b r p t hat c
 have hat:At r p (some k):=hat
 show Ok w b (Fj w.params r p t (some k) false c)
 rw [Tk.eq_as e] at hat ⊢
 exact Bz hat (λc=>Kz hat c) c
theorem Us(ch:Bool):∀ ls:List Tk,ls.map Tk.pw=[w2 "INSPECT",w2 "K"]->Nv ch ls:=by
 intro ls h
 obtain ⟨k,r,rfl,e,_⟩:=Cv h
 refine ⟨Bt e (by decide) (by decide) (by decide) (by decide) (by decide),De e (by decide) (by decide) (by decide) (by decide),λ_=>?_⟩
 intro w b r p t hat c
 have hat:At r p (some k):=hat
 show Ok w b (Fj w.params r p t (some k) false c)
 rw [Tk.eq_as e] at hat ⊢
 exact Bz hat (λc=>Ot hat c) c
noncomputable def lonP:Part:=([w2 "BY",l2 "b"],rowD "CHARACTERS" none (.lit #[98]) none none)
noncomputable def parA:Part:=([l2 "a",w2 "BY",l2 "b"],rowD "ALL" (some (.lit #[97])) (.lit #[98]) none none)
noncomputable def parB:Part:=([l2 "b",w2 "BY",l2 "a"],rowD "ALL" (some (.lit #[98])) (.lit #[97]) none none)
theorem Qv:Et ("CHARACTERS",[lonP]):=by
 refine ⟨⟨.inl rfl,λz=>(nomatch z),λ_=>⟨_,rfl⟩,λp hp=>?_⟩,λp hp=>?_,by simp⟩
 ·rcases mcm hp with rfl|hp
  ·exact Aa9 (tb:=[l2 "b"]) (bd:=[]) (by decide) (Br Aal) .none_one Yv
  ·cases hp
 ·rcases mcm hp with rfl|hp
  ·simp [lonP]
  ·cases hp
theorem Aac:Ff "ALL" parA.1 parA.2:=Qm (t1:=[l2 "a"]) (tb:=[l2 "b"]) (bd:=[]) (by decide) (Br Uj) (Br Aal) .aa Yv
theorem Aab:Ff "ALL" parB.1 parB.2:=Qm (t1:=[l2 "b"]) (tb:=[l2 "a"]) (bd:=[]) (by decide) (Br Aal) (Br Uj) .ba Yv
theorem Xb{p q:Part}(hp:Ff "ALL" p.1 p.2)(hq:Ff "ALL" q.1 q.2)(lp:p.1.length<=30)(lq:q.1.length<=30):Et ("ALL",[p,q]):=by
 refine ⟨⟨.inr (.inl rfl),λz=>(nomatch z),λz=>absurd z (show ¬ sEqB "ALL" "CHARACTERS"=true by decide),λr hr=>?_⟩,λr hr=>?_,by simp⟩
 all_goals
  rcases mcm hr with rfl|hr
  ·assumption
  ·rcases mcm hr with rfl|hr
   ·assumption
   ·cases hr
theorem in_1:Fe [("CHARACTERS",[lonP])] [l2 "a",w2 "BY",l2 "b"]:=by
 refine ⟨λo ho=>?_,λz=>(nomatch z),by simp,⟨true,Ahc true rfl,λ_ s hs=>?_⟩,by simp⟩
 ·rcases mcm ho with rfl|ho
  ·exact Qv
  ·cases ho
 ·rcases mcm hs with rfl|hs
  ·exact (by decide:sEqB "CHARACTERS" "CHARACTERS"=true)
  ·cases hs
theorem in_2:Fe [("ALL",[parA,parB]),("CHARACTERS",[lonP])] [sg2 "."]:=by
 refine ⟨λo ho=>?_,λz=>(nomatch z),by simp,⟨false,Wm false,λz=>(nomatch z)⟩,by simp⟩
 rcases mcm ho with rfl|ho
 ·exact Xb Aac Aab (by simp [parA]) (by simp [parB])
 ·rcases mcm ho with rfl|ho
  ·exact Qv
  ·cases ho
theorem in_3:Fe [("CHARACTERS",[lonP]),("ALL",[parB,parA])] [w2 "CONVERTING"]:=by
 refine ⟨λo ho=>?_,λz=>(nomatch z),by simp,⟨false,Ae4 false,λz=>(nomatch z)⟩,by simp⟩
 rcases mcm ho with rfl|ho
 ·exact Qv
 ·rcases mcm ho with rfl|ho
  ·exact Xb Aab Aac (by simp [parB]) (by simp [parA])
  ·cases ho
noncomputable def cRtM(ss bh:Addr)(l:List Addr)(ns cb nb:Nat):Con:=⟨coRt ss bh,[(ss,Ac (Fw l) ns),(bh,Ac (refs cb) nb)],[],0,λ_ _=>[],0,λ_ _=>.ok (.ret (.bool true)),145⟩
theorem Zx{sorts:List Cl}{behind:List T2}(h:Fe sorts behind)(ss bh ns cb nb:Nat)(l:List Addr) :
  OkF w b (cRtM ss bh l ns cb nb) (λX=>Ab X (Fw l) (sorts.map Az)/\Ab X (refs cb) (behind.map tokD)) (λ_ _ _=>True):=by
 obtain ⟨cs,h1⟩:=Dm l
 have z:=Km (w:=w) (b:=b) h ss bh cs ns cb nb
 unfold cRt at z
 rw [h1] at z
 exact z
noncomputable def B1(t1 pl ln:Addr)(t n:Nat):List AO:=[(t1,tupO [.str "CHARACTERS" t,.ref pl]),(pl,Ac [.ref ln] n)]
noncomputable def B2(t1 pr:Addr)(t:Nat)(p1 p2:Addr)(n:Nat):List AO:=[(t1,tupO [.str "ALL" t,.ref pr]),(pr,Ac [.ref p1,.ref p2] n)]
section
variable {w:World}{b:B3}
theorem Ag3(ss bh ns cb nb t1 pl ln t n:Nat):OkF w b ((cRtM ss bh [t1] ns cb nb).plus (B1 t1 pl ln t n)) (λX=>DatV X (.ref ln) (Bp lonP)/\Ab X (refs cb) ([l2 "a",w2 "BY",l2 "b"].map tokD)) (λ_ _ _=>True):=
 Cc (Gv (B:=B1 t1 pl ln t n) (Zx in_1 ss bh ns cb nb [t1])) λX h=>⟨.cons (.tup (maj ((.head _))) (.cons .str (.cons (.lst (maj ((.tail _ (.head _)))) (.cons h.1.left .nil)) .nil))) .nil,h.2.left⟩
theorem Ag2(ss bh ns nb t1 pr t p1 p2 n t2 pl ln t' n' stt:Nat):OkF w b ((cRtL ss bh [t1,t2] ns [stt] nb).plus (B2 t1 pr t p1 p2 n++B1 t2 pl ln t' n')) (λX=>DatV X (.ref ln) (Bp lonP)/\DatV X (.ref p1) (Bp parA)/\DatV X (.ref p2) (Bp parB)/\DatV X (.ref stt) (tokD (sg2 "."))) (λ_ _ _=>True):=
 Cc (Gv (B:=B2 t1 pr t p1 p2 n++B1 t2 pl ln t' n') (Ag0 in_2 ss bh ns nb [t1,t2] [stt])) λX h=>⟨.cons (.tup (maj ((.head _))) (.cons .str (.cons (.lst (maj ((.tail _ (.head _)))) (.cons h.2.1.left (.cons h.2.2.1.left .nil))) .nil)))
  (.cons (.tup (maj ((.tail _ (.tail _ (.head _))))) (.cons .str (.cons (.lst (maj ((.tail _ (.tail _ (.tail _ (.head _)))))) (.cons h.1.left .nil)) .nil))) .nil),.cons h.2.2.2.left .nil⟩
theorem Ag1(ss bh ns cb nb t1 pr t p1 p2 n t2 pl ln t' n':Nat):OkF w b ((cRtM ss bh [t2,t1] ns cb nb).plus (B2 t1 pr t p1 p2 n++B1 t2 pl ln t' n')) (λX=>DatV X (.ref ln) (Bp lonP)/\DatV X (.ref p1) (Bp parB)/\DatV X (.ref p2) (Bp parA)/\Ab X (refs cb) ([w2 "CONVERTING"].map tokD)) (λ_ _ _=>True):=
 Cc (Gv (B:=B2 t1 pr t p1 p2 n++B1 t2 pl ln t' n') (Zx in_3 ss bh ns cb nb [t2,t1])) λX h=>⟨.cons (.tup (maj ((.tail _ (.tail _ (.head _))))) (.cons .str (.cons (.lst (maj ((.tail _ (.tail _ (.tail _ (.head _)))))) (.cons h.1.left .nil)) .nil)))
  (.cons (.tup (maj ((.head _))) (.cons .str (.cons (.lst (maj ((.tail _ (.head _)))) (.cons h.2.1.left (.cons h.2.2.1.left .nil))) .nil))) .nil),h.2.2.2.left⟩
end
structure LK where
 a0:Addr
 a1:Addr
 ca:Nat
 na:Nat
 b0:Addr
 b1:Addr
 cb:Nat
 nb:Nat
 stt:Addr
 p1:Addr
 p2:Addr
noncomputable def Aat(v:LV)(k:LK):List AO:=[(v.a,tupO [.ref k.a0,.ref k.a1]),(k.a0,Ac (refs k.ca) k.na),(v.b,tupO [.ref k.b0,.ref k.b1]),(k.b0,Ac (refs k.cb) k.nb),(v.st,Ac [.ref k.stt] 0),(v.pr,Ac [.ref k.p1,.ref k.p2] 0)]
noncomputable abbrev lkK(v:LV)(k:LK):List Ent:=[⟨v.a,tupO [.ref k.a0,.ref k.a1],false,false⟩,⟨k.a0,Ac (refs k.ca) k.na,false,false⟩,⟨v.b,tupO [.ref k.b0,.ref k.b1],false,false⟩,⟨k.b0,Ac (refs k.cb) k.nb,false,false⟩,⟨v.st,Ac [.ref k.stt] 0,false,false⟩,⟨v.pr,Ac [.ref k.p1,.ref k.p2] 0,false,false⟩]
noncomputable def Jv(v:LV)(k:LK):List AO->Prop:=λX=>DatV X (.ref v.ln) (Bp lonP)/\DatV X (.ref k.p1) (Bp parA)/\DatV X (.ref k.p2) (Bp parB)/\DatV X (.ref k.stt) (tokD (sg2 "."))/\Ab X (refs k.ca) [tokD (l2 "a")]/\Ab X (refs k.cb) [tokD (l2 "b")]
theorem Gj{v:LV}{k:LK}{X Y:List AO}(h:∀ p∈X,p∈Y)(a:Jv v k X):Jv v k Y:=⟨a.1.mono h,a.2.1.mono h,a.2.2.1.mono h,a.2.2.2.1.mono h,a.2.2.2.2.1.mono h,a.2.2.2.2.2.mono h⟩
noncomputable def cLS(st:SP)(P:Params)(lo pc:Addr)(sl:Array (Option Value))(q:QL)(v:LV)(k:LK):Con:=
 ⟨Ol st P lo pc,(lo,lawF sl (lv6 P q v) 6)::Aat v k,[],0,λ_ _=>[],0,λ_ _=>.ok .next,165⟩

theorem law_p2{lo pc:Nat}{sl:Array (Option Value)}{q:QL}{v:LV}{k:LK}:OkT w b (cLS Aa w.params lo pc sl q v k) (Cq (((lawB Aa w.params).drop 3).take 1) (lawE Aa w.params lo pc)) (Jv v k) (λ_ _ _=>True):=by
 let lZ:List (Fm w b):=[Nw,⟨λA T c=>.full (cAdd k.ca k.na (T 3) (T 4) c) (λ_=>Bm k.ca (T 3)) (λ_ tk L=>L=[]/\refs (tk 0)=refs k.ca++refs (T 3)),λ_ _ c=>Ay _ _ _ _ c⟩,⟨λA T c=>.full (cAdd (T 5) (T 6) k.cb k.nb c) (λ_=>Bm (T 5) k.cb) (λ_ tk L=>L=[]/\refs (tk 0)=refs (T 5)++refs k.cb),λ_ _ c=>Ay _ _ _ _ c⟩,⟨λA T c=>.full ((cRtM (Af c 0) (Af c 1) [(A 1)] 0 (T 8) (T 9)).plus (B1 (A 1) (A 0) v.ln (T 0) 0)) (λX=>DatV X (.ref v.ln) (Bp lonP)/\Ab X (refs (T 8)) ([l2 "a",w2 "BY",l2 "b"].map tokD)) (λ_ _ _=>True),λ_ _ _=>Ag3 _ _ _ _ _ _ _ _ _ _⟩,⟨λA T c=>.full ((cRtL (Af c 0) v.st [(A 6),(A 8)] 0 [k.stt] 0).plus (B2 (A 6) v.pr (T 10) k.p1 k.p2 0++B1 (A 8) (A 7) v.ln (T 11) 0)) (λX=>DatV X (.ref v.ln) (Bp lonP)/\DatV X (.ref k.p1) (Bp parA)/\DatV X (.ref k.p2) (Bp parB)/\DatV X (.ref k.stt) (tokD (sg2 "."))) (λ_ _ _=>True),λ_ _ _=>Ag2 _ _ _ _ _ _ _ _ _ _ _ _ _ _ _ _⟩]
 refine oT lZ (⟨lo,lawF sl (lv6 w.params q v) 6,false,false⟩::lkK v k) 96 0x20500cf00600b2070051000c500900404a0490090092491801831c11c2000140140145144040 [] [] (λal tk=>[eW (tk 3) [tokD (w2 "BY")],eA (tk 5) k.ca (tk 3),eA (tk 8) (tk 5) k.cb,(λX=>DatV X (.ref v.ln) (Bp lonP)/\Ab X (refs (tk 8)) ([l2 "a",w2 "BY",l2 "b"].map tokD),λL=>True),(λX=>DatV X (.ref v.ln) (Bp lonP)/\DatV X (.ref k.p1) (Bp parA)/\DatV X (.ref k.p2) (Bp parB)/\DatV X (.ref k.stt) (tokD (sg2 ".")),λL=>True)]) ?_ (λal tk X hX=>by have x0:=hX.2.2.2.2.1.get.1;have x1:=hX.2.2.2.2.2.get.1;simp only [List.length_cons,List.length_nil] at x0 x1;refine cS trivial λL0 h0=>?_;have x2:=h0.get.1;simp only [List.length_cons,List.length_nil] at x2;refine cS (by show _+_<=5000;omega) λL1 h1=>?_;obtain ⟨rfl,h1⟩:=h1;refine cS (by show _+_<=5000;rw [h1,List.length_append];omega) λL2 h2=>?_;obtain ⟨rfl,h2⟩:=h2;refine cS ⟨hX.1.mono λp hp=>by simp [hp],by rw [h2,h1];exact Ab.app (l:=[_,_]) (Ab.app (l:=[_]) (hX.2.2.2.2.1.mono λp hp=>by simp [hp]) (h0.mono λp hp=>by simp [hp])) (hX.2.2.2.2.2.mono λp hp=>by simp [hp])⟩ λL3 _=>cS ⟨hX.1.mono λp hp=>by simp [hp],hX.2.1.mono λp hp=>by simp [hp],hX.2.2.1.mono λp hp=>by simp [hp],hX.2.2.2.1.mono λp hp=>by simp [hp]⟩ λL4 _=>cZ trivial)<;>intros<;>kernel_rfl
theorem law_p3{lo pc:Nat}{sl:Array (Option Value)}{q:QL}{v:LV}{k:LK}:OkT w b (cLS Aa w.params lo pc sl q v k) (Cq (((lawB Aa w.params).drop 4).take 1) (lawE Aa w.params lo pc)) (Jv v k) (λ_ _ _=>True):=by
 let lZ:List (Fm w b):=[Pw,⟨λA T c=>.full ((cRtM (Af c 0) (Af c 1) [(A 1),(A 4)] 0 (T 5) (T 6)).plus (B2 (A 4) (A 3) (T 1) k.p2 k.p1 0++B1 (A 1) (A 0) v.ln (T 0) 0)) (λX=>DatV X (.ref v.ln) (Bp lonP)/\DatV X (.ref k.p2) (Bp parB)/\DatV X (.ref k.p1) (Bp parA)/\Ab X (refs (T 5)) ([w2 "CONVERTING"].map tokD)) (λ_ _ _=>True),λ_ _ _=>Ag1 _ _ _ _ _ _ _ _ _ _ _ _ _ _ _ _⟩]
 refine oT lZ (⟨lo,lawF sl (lv6 w.params q v) 6,false,false⟩::lkK v k) 63 0x1850c20010c008000a04104104028028a280003040 [] [] (λal tk=>[eW (tk 5) [tokD (w2 "CONVERTING")],(λX=>DatV X (.ref v.ln) (Bp lonP)/\DatV X (.ref k.p2) (Bp parB)/\DatV X (.ref k.p1) (Bp parA)/\Ab X (refs (tk 5)) ([w2 "CONVERTING"].map tokD),λL=>True)]) ?_ (λal tk X hX=>cS trivial λL0 h0=>cS ⟨hX.1.mono λp hp=>by simp [hp],hX.2.2.1.mono λp hp=>by simp [hp],hX.2.1.mono λp hp=>by simp [hp],Ab.mono (λp hp=>by simp [hp]) h0⟩ λL1 _=>cZ trivial)<;>intros<;>kernel_rfl
noncomputable def Yr(st:Nat->Option Obj)(a:Addr)(args:Args):Sem Fin:=Gf a (fdOf (st a)) args
noncomputable def Wy(fn:Addr)(args:Args)(es:(Nat->Tok)->List DictEntry)(k:Nat):Con:=⟨.call (.ref fn) args,[],[],1,λnw tk=>[(nw 0,Ek (es tk) k)],k,λ_ _=>.ok .next,5⟩

theorem Ahl(tl:Addr)(i:Int)(it:Tok):OkC w b (Wy 598 ⟨[.ref tl,.int i it],[]⟩ (λtk=>[ent w.params "tokens" (tk 0) (.ref tl),ent w.params "index" (tk 1) (.int i it)]) 2) (Yr (Aa w.params) 598 ⟨[.ref tl,.int i it],[]⟩) (λnw _=>.func (Ae (Aa w.params 598)) (envF (Aa w.params) 598 (nw 0))) false tT nL:=by
 let lZ:List (Fm w b):=[]
 refine oC lZ ([]) 21 0x80040040 [0] [0,1] (λal tk=>[]) ?_ (λal tk X hX=>cZ rfl)<;>intros<;>kernel_rfl
theorem Ahk(rd:Addr):OkC w b (Wy 314 ⟨[.ref rd],[]⟩ (λtk=>[ent w.params "reader" (tk 0) (.ref rd)]) 1) (Yr (Aa w.params) 314 ⟨[.ref rd],[]⟩) (λnw _=>.func (Ae (Aa w.params 314)) (envF (Aa w.params) 314 (nw 0))) false tT nL:=by
 let lZ:List (Fm w b):=[]
 refine oC lZ ([]) 17 524352 [0] [0] (λal tk=>[]) ?_ (λal tk X hX=>cZ rfl)<;>intros<;>kernel_rfl
theorem Ah7(P:Params):∃ nm q N bs hd sn sub ab col dd k0 k1 k2 k3 k5,Aa P 72=some (excClassObj nm q 72 N bs [.ref 47,.type "Exception",.type "BaseException",.type "object"] hd sn sub ab col dd k0 k1 k2 k3 k5 "Exception.__new__"):=⟨_,_,_,_,_,_,_,_,_,_,_,_,_,_,_,rfl⟩
section
variable {w:World}{A:Around}{R:Result->Shared->Prop}{h:Heap}{g:Array GenState}{d:Drawn}{t:Nat}{os:OsState}
theorem Ah8{C:Addr}{nm q:Str}{N:Addr}{bs bm:List Value}{hdct:Bool}{sn:List Str}{sub:List Value}{ab:Bool}{col:Option Bool}{dd:Option Addr}{k0 k1 k2 k3 k5:Option Value}{rest:List Value}
  (hB:bm.contains (.type "Exception")=true)(hA:bm.contains (.type "AttributeError")=false)(hN:bm.contains (.type "NameError")=false)
  (hC:h.get? C=some (excClassObj nm q C N bs bm hdct sn sub ab col dd k0 k1 k2 k3 k5 "Exception.__new__"))
  (hq:R (.ok (.ret (.ref (h.objs.size+1)))) ⟨(h.push { cls:=.type "tuple",data:=.seq rest.toArray }).push
   { cls:=.ref C,data:=.fields #[.ref h.objs.size,.none,.none,.none,.bool false,.none] },g,d,t,os⟩)(hrest:rest.length<=sizeLine) :
  codeAny (model prog w) A (.builtin "Exception.__new__" ⟨.ref C::rest,[]⟩) R ⟨h,g,d,t,os⟩:=by
 have F:=F.excBase_Exception
 have hends:=F.ends
 have hcB:(Value.ref C::bm).contains (.type "Exception")=true:=by rw [List.contains_cons,hB,Bool.or_true]
 have hcA:(Value.ref C::bm).contains (.type "AttributeError")=false:=by rw [List.contains_cons,hA];rfl
 have hcN:(Value.ref C::bm).contains (.type "NameError")=false:=by rw [List.contains_cons,hN];rfl
 refine codeAny_builtinAt F.entry ?_
 unfold Builtin.«BaseException.__new__»
 refine PySem.wpAt_bind ?_
 show PySem.wpAt _ _ _ (stack >>= _) _ _ _
 refine PySem.wpAt_bind (PySem.wpAt_stack λp below=>PySem.wpAt_of_wpAny ?_)
 wp_walk
 refine PySem.wpAt_of_wpAny ?_
 rw [F.owner]
 repeat (first|with_reducible refine wpAny_madeHere_exc F.canon hC ?_|with_reducible refine wpAny_loadPart_at hC ?_|(with_reducible refine wpAny_isSubtype_exc hC ?_;first|rw [hcB]|rw [hcA]|rw [hcN])|wp_step)
 show R _ _
 rw [Heap.size_push]
 exact hq
end
noncomputable def argN(c:Code)(j:Nat):Value:=match nth (Xa c) j with
 | some v=>v
 | none=>.none
noncomputable def exnO(vs:Array Value)(d:Option Addr):Obj:={ cls:=.ref 72,dict:=d,data:=.fields vs }
noncomputable def cExn(c:Code):Con:=
 ⟨.builtin "Exception.__new__" ⟨[.ref 72,argN c 1,argN c 2],[]⟩,[],[],2,λnw _=>[(nw 0,exnO #[.ref (nw 1),.none,.none,.none,.bool false,.none] none),(nw 1,tupO [argN c 1,argN c 2])],0,λnw _=>.ok (.ret (.ref (nw 0))),5⟩
theorem Wk(c:Code):Ok w b (cExn c):=by
 intro A s R hn hdep hst hpre hnod hR
 obtain ⟨h,g,d,t,os⟩:=s
 obtain ⟨nm,q,N,bs,hd,sn,sub,ab,col,dd,k0,k1,k2,k3,k5,e⟩:=Ah7 w.params
 refine Ah8 (by decide +kernel) (by decide +kernel) (by decide +kernel) (hst 72 _ e) ?_ (show 2<=sizeLine by decide)
 have hsz:(h.push (tupO [argN c 1,argN c 2])).get? (h.objs.size+1)=none:=by
  have:=get?_size (h.push (tupO [argN c 1,argN c 2]))
  rwa [Heap.size_push] at this
 have kept:∀ b o,h.get? b=some o->((h.push (tupO [argN c 1,argN c 2])).push (exnO #[.ref h.objs.size,.none,.none,.none,.bool false,.none] none)).get? b=some o:=λb o hb=>Heap.get?_push_of_some _ (Heap.get?_push_of_some _ hb)
 have z:=hR (λj=>match j with|0=>h.objs.size+1 | _=>h.objs.size) (λ_=>0) ((h.push (tupO [argN c 1,argN c 2])).push (exnO #[.ref h.objs.size,.none,.none,.none,.bool false,.none] none)) t (.of_kept kept) (λb o hb _=>kept b o hb) (λp hp=>(nomatch hp)) (λp hp=>?_) ?_
 ·exact z
 ·have hp:p∈[(h.objs.size+1,exnO #[.ref h.objs.size,.none,.none,.none,.bool false,.none] none),(h.objs.size,tupO [argN c 1,argN c 2])]:=hp
  rcases mcm hp with rfl|hp
  ·refine ⟨?_,?_⟩
   ·have z:((h.push (tupO [argN c 1,argN c 2])).push (exnO #[.ref h.objs.size,.none,.none,.none,.bool false,.none] none)).get? (h.push (tupO [argN c 1,argN c 2])).objs.size=some (exnO #[.ref h.objs.size,.none,.none,.none,.bool false,.none] none):=Heap.get?_push_size _ rfl
    rwa [Heap.size_push] at z
   ·exact Heap.get?_none_of_le (Nat.le_succ _)
  ·rcases mcm hp with rfl|hp
   ·exact ⟨Heap.get?_push_of_some _ (Heap.get?_push_size _ rfl),get?_size h⟩
   ·cases hp
 ·show [h.objs.size+1,h.objs.size].Nodup
  simp
noncomputable def Rdr.on(r:Rdr)(vs:List Value):Rdr:=⟨r.rd,r.d,r.tl,r.nd,r.t1,r.t2,r.t3,r.nn,r.kl,vs⟩
noncomputable def Lh(P:Params)(r:Rdr)(p:Int)(t:Tok)(k:Tk)(what:Str)(c:Code):Con:=
 ⟨.call (.ref 363) ⟨[.ref r.rd,.str what (Aj c 1)],[]⟩,Au (r.K P p t false++k.K P),[],3,λnw tk=>[(nw 0,exnO #[.ref (nw 2),.none,.none,.none,.bool false,.none] (some (nw 1))),(nw 1,Dq [ent P "what" (tk 0) (.str what (Aj c 1)),ent P "at" (tk 1) (.ref k.ta)] 2),(nw 2,tupO [.str what (Aj c 1)])],2,λnw _=>.ok (.ret (.ref (nw 0))),30⟩

theorem Abf{r:Rdr}{t:Tok}{k:Tk}{what:Str}(c:Code):Ok w b (Lh w.params (r.on [.ref k.a]) 0 t k what c):=by
 let lZ:List (Fm w b):=[pl cExn Wk]
 refine oPX lZ ((r.on [.ref k.a]).K w.params 0 t false++k.K w.params) 393 g39N [6,10,9] [18,20] ?_ ?_<;>intros<;>kernel_rfl
theorem Abe{r:Rdr}{t:Tok}{k:Tk}{what:Str}{x1 x2:Addr}(c:Code):Ok w b (Lh w.params (r.on [.ref k.a,.ref x1,.ref x2]) 0 t k what c):=by
 let lZ:List (Fm w b):=[pl cExn Wk]
 refine oPX lZ ((r.on [.ref k.a,.ref x1,.ref x2]).K w.params 0 t false++k.K w.params) 393 g39N [6,10,9] [18,20] ?_ ?_<;>intros<;>kernel_rfl
theorem Abd{r:Rdr}{t:Tok}{k:Tk}{what:Str}{x0 x1:Addr}(c:Code):Ok w b (Lh w.params (r.on [.ref x0,.ref x1,.ref k.a]) 2 t k what c):=by
 let lZ:List (Fm w b):=[pl cExn Wk]
 refine oPX lZ ((r.on [.ref x0,.ref x1,.ref k.a]).K w.params 2 t false++k.K w.params) 393 g39N [6,10,9] [18,20] ?_ ?_<;>intros<;>kernel_rfl
theorem Abc{r:Rdr}{t:Tok}{k:Tk}{what:Str}{x0 x1 x2 x3 x4:Addr}(c:Code):Ok w b (Lh w.params (r.on [.ref x0,.ref x1,.ref x2,.ref x3,.ref x4,.ref k.a]) 5 t k what c):=by
 let lZ:List (Fm w b):=[pl cExn Wk]
 refine oPX lZ ((r.on [.ref x0,.ref x1,.ref x2,.ref x3,.ref x4,.ref k.a]).K w.params 5 t false++k.K w.params) 393 g39N [6,10,9] [18,20] ?_ ?_<;>intros<;>kernel_rfl
noncomputable def okFn(o:Option Obj):Bool:=match o with
 | some ⟨_,_,.func fd,_⟩=>okFd fd && match fd.scope.kind with
  | .module=>false
  | _=>true
 | _=>false
theorem Qq{o:Option Obj}(h:okFn o=true):∃ ob,o=some ob/\ob.data=.func (fdOf o)/\okFd (fdOf o)=true/\(fdOf o).scope.kind≠.module:=by
 unfold okFn at h
 split at h
 ·rename_i c d fd sl
  obtain ⟨h1,h2⟩:=Bool.and_eq_true_iff.mp h
  refine ⟨_,rfl,rfl,h1,λz=>?_⟩
  have z:fd.scope.kind=.module:=z
  rw [z] at h2;cases h2
 ·cases h
theorem Wd(P:Params):okFn (Aa P 598)=true:=by kernel_rfl
theorem Ma(P:Params):okFn (Aa P 314)=true:=by kernel_rfl
theorem Wf(P:Params):okFn (Aa P 307)=true:=by kernel_rfl
theorem We(P:Params):okFn (Aa P 399)=true:=by kernel_rfl
theorem Wc(P:Params):okFn (Aa P 603)=true:=by kernel_rfl
theorem Nk{A:Around}{s:Shared}{R:Result->Shared->Prop}{f:Addr}{args:Args}(ho:okFn (Aa w.params f)=true)(hs:Stat (Aa w.params) s.heap)(hr:A.depth < recursionLimit)
  (x:wpOwn (model prog (wZ w b)) A (.call (.ref f) args) (Yr (Aa w.params) f args) (plus (postC prog (wZ w b) A R)) (postE R) s):codeAny (model prog (wZ w b)) A (.call (.ref f) args) R s:=by
 obtain ⟨o,h1,h2,h3,_⟩:=Qq ho
 refine Abu hr (hs f o h1) h2 h3 ?_
 rw [←Cp]
 exact x
noncomputable def slD(st:SP)(P:Params)(lo pc:Addr):Nat->Array (Option Value)
 | 0=>#[]
 | 1=>Ix (lawE st P lo pc) .none #[]
 | _=>Ix (lawE st P lo pc) .notImplemented #[]
theorem Zq(st:SP)(P:Params)(lo pc:Addr)(t:Nat)(back:Value)(hb:back=.none\/back=.notImplemented):∃ t',Ix (lawE st P lo pc) back (slD st P lo pc t)=slD st P lo pc t':=by
 rcases hb with rfl|rfl
 ·refine ⟨1,?_⟩
  match t with
  | 0=>rfl
  | 1=>rfl
  | _+2=>rfl
 ·refine ⟨2,?_⟩
  match t with
  | 0=>rfl
  | 1=>rfl
  | _+2=>rfl
noncomputable def flyP(h:Heap)(e dd:Addr)(fs:List Addr)(la:Addr)(lof:Nat->Obj):FlyP:=⟨h,e,.ref 72,some dd,#[],fs,la,lof⟩
noncomputable def Frs(h:Heap)(fs:List Addr):Prop:=∀ b∈fs,∃ sl es n,h.get? b=some (lawF sl es n)
theorem Ah3{h:Heap}{e dd:Addr}{fs:List Addr}{la:Addr}{lof:Nat->Obj}{vs:Array Value}(he:h.get? e=some (exnO vs (some dd)))(hf:Frs h fs)(hla:la∈fs):(flyP h e dd fs la lof).Ok:=by
 refine ⟨λz=>?_,λb hb=>?_,hla⟩
 ·obtain ⟨sl,es,n,q⟩:=hf e z
  rw [he] at q
  injection q with q
  have:=congrArg Obj.cls q
  cases this
 ·obtain ⟨sl,es,n,q⟩:=hf b hb
  exact ⟨_,q⟩
theorem Yk{h:Heap}{e dd:Addr}{fs:List Addr}{la:Addr}{lof:Nat->Obj}{vs:Array Value}{t:Nat}(he:h.get? e=some (exnO vs (some dd)))(h1:vs[1]?=some .none)(hl:h.get? la=some (lof t)):Fly (flyP h e dd fs la lof) none h:=
 ⟨λ_ _ hb _ _=>hb,λb _ o hb=>⟨o.slots,hb⟩,⟨vs,he,h1⟩,⟨t,hl⟩⟩
theorem Ah2{w:World}{h:Heap}{e dd:Addr}{fs:List Addr}{la pc:Addr}{es:List DictEntry}{n:Nat}(hf:Frs h fs)(hla:la∈fs) :
  ∀ {ps:List (Addr × Addr)},(∀ p∈ps,okFn (Aa w.params p.1)=true/\p.2∈fs/\p.2≠la)->FrOk (flyP h e dd fs la λt=>lawF (slD Aa w.params la pc t) es n) ((ps.map λp=>envF (Aa w.params) p.1 p.2)++[lawE Aa w.params la pc]):=by
 intro ps hp
 have key:∀ L∈fs,∃ o,h.get? L=some o/\∀ vs,o.data≠.fields vs:=λL hL=>by
  obtain ⟨sl,es,n,q⟩:=hf L hL
  exact ⟨_,q,λvs z=>by cases z⟩
 refine ⟨λenv henv=>?_,_,_,rfl,⟨rfl,λt back hb=>?_,λt vs z=>by cases z⟩,λenv henv z=>?_⟩
 ·rcases List.mem_append.mp henv with henv|henv
  ·obtain ⟨p,hpm,rfl⟩:=mmp henv
   obtain ⟨h1,h2,h3⟩:=hp p hpm
   obtain ⟨_,_,_,_,h4⟩:=Qq h1
   obtain ⟨o,h5,h6⟩:=key p.2 h2
   exact ⟨h4,p.2,o,rfl,h2,h5,h6⟩
  ·obtain rfl:=msp henv
   obtain ⟨_,_,_,_,h4⟩:=Qq (Wc w.params)
   obtain ⟨o,h5,h6⟩:=key la hla
   exact ⟨h4,la,o,rfl,hla,h5,h6⟩
 ·obtain ⟨t',e⟩:=Zq Aa w.params la pc t back hb
  refine ⟨t',?_⟩
  show (⟨_,_,_,Ix (lawE Aa w.params la pc) back (slD Aa w.params la pc t)⟩:Obj)=_
  rw [e]
  rfl
 ·obtain ⟨p,hpm,rfl⟩:=mmp henv
  obtain ⟨_,_,h3⟩:=hp p hpm
  have z:some p.2=some la:=z
  exact h3 (Option.some.inj z)
theorem Fly.mono{P:FlyP}{fl:Option Value}{h h':Heap}(F:Fly P fl h)(k:∀ b o,h.get? b=some o->h'.get? b=some o):Fly P fl h':=by
 refine ⟨λb o hb h1 h2=>k _ _ (F.old b o hb h1 h2),λb hb o ho=>?_,?_,?_⟩
 ·obtain ⟨sl,q⟩:=F.frs b hb o ho
  exact ⟨sl,k _ _ q⟩
 ·obtain ⟨vs,q,tr⟩:=F.exc
  refine ⟨vs,k _ _ q,?_⟩
  cases fl with
  | none=>exact tr
  | some v=>
   obtain ⟨T,oT,ts,h1,h2,h3,h4,h5⟩:=tr
   exact ⟨T,oT,ts,h1,h2,h3,k _ _ h4,h5⟩
 ·obtain ⟨t,q⟩:=F.law
  exact ⟨t,k _ _ q⟩
noncomputable def Abg(P:Params)(k:Tk)(what:Str)(nw:Nat->Addr)(tk:Nat->Tok):List AO:=[(nw 0,exnO #[.ref (nw 2),.none,.none,.none,.bool false,.none] (some (nw 1))),(nw 1,Dq [ent P "what" (tk 0) (.str what (tk 2)),ent P "at" (tk 1) (.ref k.ta)] 2),(nw 2,tupO [.str what (tk 2)])]
noncomputable def frNd(P:Params)(rd:Addr)(t u v:Tok):Obj:=Ek [ent P "self" t (.ref rd),ent P "words" u (.str "BY" v)] 2
noncomputable def cNdE(st:SP)(P:Params)(r:Rdr)(p:Int)(t:Tok)(k:Tk)(lo:Addr)(a b v:Tok):Con:=
 ⟨.func (Ae (st P 399)) (envF (st P) 399 lo),Au (r.K P p t false++k.K P)++[(lo,frNd P r.rd a b v)],[],3,Abg P k "BY is asked here",3,λnw _=>.error (.ref (nw 0)),60⟩

theorem Aap{r:Rdr}{t:Tok}{k:Tk}{x0 x1:Addr}{lo:Addr}{a b1 v:Tok}(hw:wdB (some k) "BY"=false):OkT w b (cNdE Aa w.params (r.on [.ref x0,.ref x1,.ref k.a]) 2 t k lo a b1 v) (Cq (Ae (Aa w.params 399)) (envF (Aa w.params) 399 lo)) tT nL:=by
 let lZ:List (Fm w b):=[pl (Cg w.params (r.on [.ref x0,.ref x1,.ref k.a]) 2 t (some k) "BY") (Bc Lv (show At (r.on [.ref x0,.ref x1,.ref k.a]) 2 (some k) from ⟨by decide,(show 3 < 2 ^ 62 by decide),rfl⟩) hw),pl (Lh w.params (r.on [.ref x0,.ref x1,.ref k.a]) 2 t k "BY is asked here") Abd]
 refine oT lZ ((r.on [.ref x0,.ref x1,.ref k.a]).K w.params 2 t false++k.K w.params++[⟨lo,frNd w.params r.rd a b1 v,false,false⟩]) 80 g40N [0,1,2] [2,3,1] (λal tk=>[]) ?_ (λal tk X hX=>cZ rfl)<;>intros<;>kernel_rfl
theorem Aao{r:Rdr}{t:Tok}{k:Tk}{x0 x1 x2 x3 x4:Addr}{lo:Addr}{a b1 v:Tok}(hw:wdB (some k) "BY"=false):OkT w b (cNdE Aa w.params (r.on [.ref x0,.ref x1,.ref x2,.ref x3,.ref x4,.ref k.a]) 5 t k lo a b1 v) (Cq (Ae (Aa w.params 399)) (envF (Aa w.params) 399 lo)) tT nL:=by
 let lZ:List (Fm w b):=[pl (Cg w.params (r.on [.ref x0,.ref x1,.ref x2,.ref x3,.ref x4,.ref k.a]) 5 t (some k) "BY") (Bc Lv (show At (r.on [.ref x0,.ref x1,.ref x2,.ref x3,.ref x4,.ref k.a]) 5 (some k) from ⟨by decide,(show 6 < 2 ^ 62 by decide),rfl⟩) hw),pl (Lh w.params (r.on [.ref x0,.ref x1,.ref x2,.ref x3,.ref x4,.ref k.a]) 5 t k "BY is asked here") Abc]
 refine oT lZ ((r.on [.ref x0,.ref x1,.ref x2,.ref x3,.ref x4,.ref k.a]).K w.params 5 t false++k.K w.params++[⟨lo,frNd w.params r.rd a b1 v,false,false⟩]) 80 g40N [0,1,2] [2,3,1] (λal tk=>[]) ?_ (λal tk X hX=>cZ rfl)<;>intros<;>kernel_rfl
noncomputable def Adt(P:Params)(rd:Addr)(kd:Str)(t u v:Tok):Obj:=Ek [ent P "reader" t (.ref rd),ent P "kind" u (.str kd v)] 2
noncomputable def cExN(st:SP)(P:Params)(r:Rdr)(p:Int)(t:Tok)(k:Tk)(kd:Str)(lo:Addr)(a b v:Tok):Con:=
 ⟨.func (Ae (st P 307)) (envF (st P) 307 lo),Au (r.K P p t true++k.K P)++[(lo,Adt P r.rd kd a b v)],[(r.d,λtk=>r.dict P (p+1) (tk 0)),(lo,λtk=>Ek [ent P "reader" a (.ref r.rd),ent P "kind" b (.str kd v),ent P "operand" (tk 1) (.ref (tk 2))] 3)],0,λ_ _=>[],4,λ_ _=>.ok .next,75⟩

theorem Ahn(rd:Addr)(kd:Str)(u:Tok):OkC w b (Wy 307 ⟨[.ref rd,.str kd u],[]⟩ (λtk=>[ent w.params "reader" (tk 0) (.ref rd),ent w.params "kind" (tk 1) (.str kd u)]) 2) (Yr (Aa w.params) 307 ⟨[.ref rd,.str kd u],[]⟩) (λnw _=>.func (Ae (Aa w.params 307)) (envF (Aa w.params) 307 (nw 0))) false tT nL:=by
 let lZ:List (Fm w b):=[]
 refine oC lZ ([]) 21 0x80040040 [0] [0,1] (λal tk=>[]) ?_ (λal tk X hX=>cZ rfl)<;>intros<;>kernel_rfl
theorem exN_3{r:Rdr}{t:Tok}{k:Tk}{x0 x2:Addr}{lo:Addr}{a b1 v:Tok}(hp:sgB (some k) "+"=false)(hm:sgB (some k) "-"=false)(hn:kdB (some k) "number"=false)(hl:kdB (some k) "literal"=true){bs:Array UInt8}(ho:∀ c,Ok w b (cOct k.wo bs c)):OkC w b (cExN Aa w.params (r.on [.ref x0,.ref k.a,.ref x2]) 1 t k "ALL" lo a b1 v) (Cq ((Ae (Aa w.params 307)).take 2) (envF (Aa w.params) 307 lo)) (λ_ tk=>.call (.ref 399) ⟨[.ref r.rd,.str "BY" (tk 3)],[]⟩) true tT nL:=by
 let lZ:List (Fm w b):=[pl (λ_=>Tz (Bk (r.on [.ref x0,.ref k.a,.ref x2])) 65 w.params (r.on [.ref x0,.ref k.a,.ref x2]) 1 t k bs) (Zf (show At (r.on [.ref x0,.ref k.a,.ref x2]) 1 (some k) from ⟨by decide,(show 3 < 2 ^ 62 by decide),rfl⟩) hp hm hn hl ho)]
 refine oCX lZ ((r.on [.ref x0,.ref k.a,.ref x2]).K w.params 1 t true++k.K w.params++[⟨lo,Adt w.params r.rd "ALL" a b1 v,true,false⟩]) 58 g41N [] [3,4,512,5] (λal tk=>[]) ?_ ?_ (λal tk X hX=>cZ rfl)<;>intros<;>kernel_rfl
theorem exN_6{r:Rdr}{t:Tok}{k:Tk}{x0 x1 x2 x3 x5:Addr}{lo:Addr}{a b1 v:Tok}(hp:sgB (some k) "+"=false)(hm:sgB (some k) "-"=false)(hn:kdB (some k) "number"=false)(hl:kdB (some k) "literal"=true){bs:Array UInt8}(ho:∀ c,Ok w b (cOct k.wo bs c)):OkC w b (cExN Aa w.params (r.on [.ref x0,.ref x1,.ref x2,.ref x3,.ref k.a,.ref x5]) 4 t k "FIRST" lo a b1 v) (Cq ((Ae (Aa w.params 307)).take 2) (envF (Aa w.params) 307 lo)) (λ_ tk=>.call (.ref 399) ⟨[.ref r.rd,.str "BY" (tk 3)],[]⟩) true tT nL:=by
 let lZ:List (Fm w b):=[pl (λ_=>Tz (Bk (r.on [.ref x0,.ref x1,.ref x2,.ref x3,.ref k.a,.ref x5])) 65 w.params (r.on [.ref x0,.ref x1,.ref x2,.ref x3,.ref k.a,.ref x5]) 4 t k bs) (Zf (show At (r.on [.ref x0,.ref x1,.ref x2,.ref x3,.ref k.a,.ref x5]) 4 (some k) from ⟨by decide,(show 6 < 2 ^ 62 by decide),rfl⟩) hp hm hn hl ho)]
 refine oCX lZ ((r.on [.ref x0,.ref x1,.ref x2,.ref x3,.ref k.a,.ref x5]).K w.params 4 t true++k.K w.params++[⟨lo,Adt w.params r.rd "FIRST" a b1 v,true,false⟩]) 58 g41N [] [3,4,512,5] (λal tk=>[]) ?_ ?_ (λal tk X hX=>cZ rfl)<;>intros<;>kernel_rfl
noncomputable def Sc:Str:="CHARACTERS, ALL, LEADING or FIRST must stand here"
noncomputable def cRRE(st:SP)(P:Params)(r:Rdr)(t:Tok)(k:Tk)(lo:Addr)(a1:Tok):Con:=
 ⟨Bw st P lo,Au (r.K P 0 t false++k.K P)++[(lo,frR0 P a1 r.rd)],[(lo,λtk=>frRR P a1 (tk 3) (tk 4) (tk 5) r.rd (tk 6) "" (tk 7) (tk 8))],3,Abg P k Sc,9,λnw _=>.error (.ref (nw 0)),100⟩

theorem rrE_1{r:Rdr}{t:Tok}{k:Tk}{lo:Addr}{a1:Tok}(hw:Pg (some k)):OkT w b (cRRE Aa w.params (r.on [.ref k.a]) t k lo a1) (Cq (Ae (Aa w.params 314)) (envF (Aa w.params) 314 lo)) tT nL:=by
 let lZ:List (Fm w b):=[pl (Cg w.params (r.on [.ref k.a]) 0 t (some k) "CHARACTERS") (Bc Ao (show At (r.on [.ref k.a]) 0 (some k) from ⟨by decide,(show 1 < 2 ^ 62 by decide),rfl⟩) hw.1),pl (Cg w.params (r.on [.ref k.a]) 0 t (some k) "ALL") (Bc Bf (show At (r.on [.ref k.a]) 0 (some k) from ⟨by decide,(show 1 < 2 ^ 62 by decide),rfl⟩) hw.2.1),pl (Cg w.params (r.on [.ref k.a]) 0 t (some k) "LEADING") (Bc Bn (show At (r.on [.ref k.a]) 0 (some k) from ⟨by decide,(show 1 < 2 ^ 62 by decide),rfl⟩) hw.2.2.1),pl (Cg w.params (r.on [.ref k.a]) 0 t (some k) "FIRST") (Bc Dw (show At (r.on [.ref k.a]) 0 (some k) from ⟨by decide,(show 1 < 2 ^ 62 by decide),rfl⟩) hw.2.2.2),pl (Lh w.params (r.on [.ref k.a]) 0 t k Sc) Abf]
 refine oTX lZ ((r.on [.ref k.a]).K w.params 0 t false++k.K w.params++[⟨lo,frR0 w.params a1 r.rd,true,false⟩]) 352 g42N [6,7,8] [17,18,16,0,2,7,512,1,6] (λal tk=>[]) ?_ ?_ (λal tk X hX=>cZ rfl)<;>intros<;>kernel_rfl
theorem rrE_3{r:Rdr}{t:Tok}{k:Tk}{x1 x2:Addr}{lo:Addr}{a1:Tok}(hw:Pg (some k)):OkT w b (cRRE Aa w.params (r.on [.ref k.a,.ref x1,.ref x2]) t k lo a1) (Cq (Ae (Aa w.params 314)) (envF (Aa w.params) 314 lo)) tT nL:=by
 let lZ:List (Fm w b):=[pl (Cg w.params (r.on [.ref k.a,.ref x1,.ref x2]) 0 t (some k) "CHARACTERS") (Bc Ao (show At (r.on [.ref k.a,.ref x1,.ref x2]) 0 (some k) from ⟨by decide,(show 3 < 2 ^ 62 by decide),rfl⟩) hw.1),pl (Cg w.params (r.on [.ref k.a,.ref x1,.ref x2]) 0 t (some k) "ALL") (Bc Bf (show At (r.on [.ref k.a,.ref x1,.ref x2]) 0 (some k) from ⟨by decide,(show 3 < 2 ^ 62 by decide),rfl⟩) hw.2.1),pl (Cg w.params (r.on [.ref k.a,.ref x1,.ref x2]) 0 t (some k) "LEADING") (Bc Bn (show At (r.on [.ref k.a,.ref x1,.ref x2]) 0 (some k) from ⟨by decide,(show 3 < 2 ^ 62 by decide),rfl⟩) hw.2.2.1),pl (Cg w.params (r.on [.ref k.a,.ref x1,.ref x2]) 0 t (some k) "FIRST") (Bc Dw (show At (r.on [.ref k.a,.ref x1,.ref x2]) 0 (some k) from ⟨by decide,(show 3 < 2 ^ 62 by decide),rfl⟩) hw.2.2.2),pl (Lh w.params (r.on [.ref k.a,.ref x1,.ref x2]) 0 t k Sc) Abe]
 refine oTX lZ ((r.on [.ref k.a,.ref x1,.ref x2]).K w.params 0 t false++k.K w.params++[⟨lo,frR0 w.params a1 r.rd,true,false⟩]) 352 g42N [6,7,8] [17,18,16,0,2,7,512,1,6] (λal tk=>[]) ?_ ?_ (λal tk X hX=>cZ rfl)<;>intros<;>kernel_rfl
noncomputable def whT(env:Env):Option Stmt->Sem Fin
 | some (.While t b o _)=>Xf (ZFast.zw12362719219628433562 t b o env)
 | _=>.unsupported ""
noncomputable def frR1(P:Params)(a1 a2:Tok)(rd rl:Addr):Obj:=Ek [ent P "reader" a1 (.ref rd),ent P "rows" a2 (.ref rl)] 2
noncomputable def cRR0(st:SP)(P:Params)(lo rd:Addr)(a1:Tok):Con:=
 ⟨Bw st P lo,[(lo,frR0 P a1 rd)],[(lo,λtk=>frR1 P a1 (tk 0) rd (tk 1))],0,λ_ tk=>[(tk 1,Ac [] 0)],2,λ_ _=>.ok .next,5⟩
noncomputable def cTnA(st:SP)(P:Params)(r:Rdr)(t:Tok)(k:Tk)(lo rl:Addr)(a1 a2 n:Tok):Con:=
 ⟨Oj st P lo,Au (r.K P 0 t true++k.K P)++[(lo,frR1 P a1 a2 r.rd rl),(rl,Ac [] n)],[(r.d,λtk=>r.dict P 1 (tk 0)),(lo,λtk=>frRR P a1 a2 (tk 1) (tk 2) r.rd rl "ALL" (tk 3) (tk 4))],0,λ_ _=>[],5,λ_ _=>.ok .next,90⟩
noncomputable def cTnF(st:SP)(P:Params)(r:Rdr)(p':Int)(t:Tok)(lo rl:Addr)(a1 a2:Tok):Con:=
 ⟨Oj st P lo,Au (r.K P 0 t true)++[(lo,frR1 P a1 a2 r.rd rl),(rl,Ac [] 0)],[(r.d,λtk=>r.dict P p' (tk 0)),(lo,λtk=>frRR P a1 a2 (tk 1) (tk 2) r.rd rl "FIRST" (tk 3) (tk 4)),(rl,λtk=>Ac (refs (tk 5)) (tk 6))],0,λ_ _=>[],7,λ_ _=>.ok .next,95⟩
noncomputable def cLpF(st:SP)(P:Params)(r:Rdr)(p:Int)(t:Tok)(k:Tk)(x:RR)(kt wt c n:Nat):Con:=
 ⟨coLp st P x.lo,Agg P r p t x "FIRST" kt wt c n++Au (k.K P),[],0,λ_ _=>[],0,λ_ _=>.ok .next,92⟩

theorem Ahm(rd:Addr)(ww:Str)(u:Tok):OkC w b (Wy 399 ⟨[.ref rd,.str ww u],[]⟩ (λtk=>[ent w.params "self" (tk 0) (.ref rd),ent w.params "words" (tk 1) (.str ww u)]) 2) (Yr (Aa w.params) 399 ⟨[.ref rd,.str ww u],[]⟩) (λnw _=>.func (Ae (Aa w.params 399)) (envF (Aa w.params) 399 (nw 0))) false tT nL:=by
 let lZ:List (Fm w b):=[]
 refine oC lZ ([]) 21 0x80040040 [0] [0,1] (λal tk=>[]) ?_ (λal tk X hX=>cZ rfl)<;>intros<;>kernel_rfl
theorem rr_s0{lo rd:Addr}{a1:Tok}:OkT w b (cRR0 Aa w.params lo rd a1) (Cq ((Ae (Aa w.params 314)).take 1) (envF (Aa w.params) 314 lo)) tT nL:=by
 let lZ:List (Fm w b):=[]
 refine oT lZ ([⟨lo,frR0 w.params a1 rd,true,false⟩]) 21 4162 [] [0,512] (λal tk=>[]) ?_ (λal tk X hX=>cZ rfl)<;>intros<;>kernel_rfl
theorem tn_A{r:Rdr}{t:Tok}{k:Tk}{x1 x2:Addr}{lo rl:Addr}{a1 a2 n:Tok}(hw:wdB (some k) "ALL"=true):OkC w b (cTnA Aa w.params (r.on [.ref k.a,.ref x1,.ref x2]) t k lo rl a1 a2 n) (whT (envF (Aa w.params) 314 lo) (Ae (Aa w.params 314))[1]?) (λ_ tk=>.call (.ref 307) ⟨[.ref r.rd,.str "ALL" (tk 3)],[]⟩) true tT nL:=by
 let lZ:List (Fm w b):=[pl (Cg w.params (r.on [.ref k.a,.ref x1,.ref x2]) 0 t (some k) "CHARACTERS") (Bc Ao (show At (r.on [.ref k.a,.ref x1,.ref x2]) 0 (some k) from ⟨by decide,(show 3 < 2 ^ 62 by decide),rfl⟩) (Dr hw (by decide))),pl (Ws w.params (r.on [.ref k.a,.ref x1,.ref x2]) 0 t (some k) "ALL") (Hy Bf (show At (r.on [.ref k.a,.ref x1,.ref x2]) 0 (some k) from ⟨by decide,(show 3 < 2 ^ 62 by decide),rfl⟩) hw)]
 refine oCX lZ ((r.on [.ref k.a,.ref x1,.ref x2]).K w.params 0 t true++k.K w.params++[⟨lo,frR1 w.params a1 a2 r.rd rl,true,false⟩,⟨rl,Ac [] n,false,false⟩]) 257 0x914400a2802cb2cb28000a0010010810400400400002072000420410010010000081c80010810400400401c82031851030830081030000000c00000c00000c80002072000420410010010061440c20802040c00000030000030000032000081c8001081040040040040040041146 [] [10,1,6,3,5] (λal tk=>[]) ?_ ?_ (λal tk X hX=>cZ rfl)<;>intros<;>kernel_rfl
theorem tn_F{r:Rdr}{t:Tok}{k:Tk}{all mid:List Tk}{row:PyD}{lo rl:Addr}{a1 a2:Tok}(h:RdP r 0 (k::all))(hw:wdB (some k) "FIRST"=true)(he:ExTk "FIRST" all mid row):OkT w b (cTnF Aa w.params r (far (0+1) all mid) t lo rl a1 a2) (Cq ((Ld (Ae (Aa w.params 314))[1]?).take 4) (envF (Aa w.params) 314 lo)) (ledK w.params (k::all)) (λ_ _ _=>True):=by
 let lZ:List (Fm w b):=[fl (Ax w.params r 0 t "CHARACTERS") (ledK w.params (k::all)) nL (Ba Ao h (Dr hw (by decide))),fl (Ax w.params r 0 t "ALL") (ledK w.params (k::all)) nL (Ba Bf h (Dr hw (by decide))),fl (Ax w.params r 0 t "LEADING") (ledK w.params (k::all)) nL (Ba Bn h (Dr hw (by decide))),fl (By w.params r 0 t "FIRST") (ledK w.params (k::all)) nL (Cf Dw h hw),⟨λA T c=>.full (cRF (coEx r "FIRST" (Aj c 1)) 90 w.params r (0+1) (far (0+1) all mid) (T 14)) (ledK w.params all) (λnw _ L=>DatV L (.ref (nw 0)) row),λ_ _ _=>ex_F h.tail he⟩,xP0]
 refine oTX lZ (r.K w.params 0 t true++[⟨lo,frR1 w.params a1 a2 r.rd rl,true,false⟩,⟨rl,Ac [] 0,true,false⟩]) 313 0x81c52081c51851060082002492492000080010010810400400401461831030850061030000000c00000c00000c60001851800420410010010040c21001840c00000030000030000031800061460010810400400401030830061030000000c00000c00000c60001851800420410010010040c20801840c00000030000030000031800061460010810400400400400400410c4 [] [17,1,6,5,5,18,19] (λal tk=>[eN (ledK w.params (k::all)),eN (ledK w.params (k::all)),eN (ledK w.params (k::all)),eN (ledK w.params (k::all)),(ledK w.params all,λL=>DatV L (.ref (al 4)) row),(λ_=>True,λL=>L=[]/\refs (tk 18)=[Value.ref (al 4)])]) ?_ ?_ (λal tk X hX=>cS hX λL0 _=>cS hX.more λL1 _=>cS hX.more.more λL2 _=>cS hX.more.more.more λL3 _=>cS (hX.sub Bd).more.more.more.more λL4 _=>cS trivial λL5 _=>cZ trivial)<;>intros<;>kernel_rfl
theorem lp_F{r:Rdr}{p:Int}{t:Tok}{k:Tk}{x:RR}{kt wt c n:Nat}(h:At r p (some k))(hb:BtB (some k) true):OkC w b (cLpF Aa w.params r p t k x kt wt c n) (whT (envF (Aa w.params) 314 x.lo) ((Ld (Ae (Aa w.params 314))[1]?)[4]?)) (λ_ _=>.call (.ref 307) ⟨[.ref r.rd,.str "FIRST" kt],[]⟩) true tT nL:=by
 let lZ:List (Fm w b):=[pl (cSNe "FIRST" "CHARACTERS" true) (Ky (show sEqB "FIRST" "CHARACTERS"=!true by decide)),pl (Fj w.params r p t (some k) true) (hb h)]
 refine oCX lZ (keRR w.params r p t x "FIRST" kt wt c n false false false++k.K w.params) 43 0x40041001451451061420400c0100084 [] [] (λal tk=>[]) ?_ ?_ (λal tk X hX=>cZ rfl)<;>intros<;>kernel_rfl
structure Lw where
 la:Addr
 pc:Addr
 es:List DictEntry
 n:Nat
noncomputable def Lw.o(P:Params)(x:Lw)(t:Nat):Obj:=lawF (slD Aa P x.la x.pc t) x.es x.n
noncomputable abbrev PS:=List (Addr × Addr)
noncomputable abbrev envs(P:Params)(ps:PS)(x:Lw):List Env:=(ps.map λp=>envF (Aa P) p.1 p.2)++[lawE Aa P x.la x.pc]
noncomputable abbrev thP(P:Params)(x:Lw)(h₁:Heap)(e dd:Addr)(fs:List Addr):FlyP:=flyP h₁ e dd fs x.la λt=>lawF (slD Aa P x.la x.pc t) x.es x.n
structure Iu (P:Params)(x:Lw)(h₀:Heap)(d:Addr)(old:List Addr)(ta:Addr)(h₁:Heap)(e dd:Addr)(fs:List Addr)(ps:PS)(v:Value)(h':Heap):Prop where
 ok:(thP P x h₁ e dd fs).Ok
 fr:FrOk (thP P x h₁ e dd fs) (envs P ps x)
 fly:Fly (thP P x h₁ e dd fs) (some v) h'
 kept:∀ b o,h₀.get? b=some o->b≠d->h₁.get? b=some o
 fsO:∀ b∈fs,b∈old\/h₀.get? b=none
 eN:h₀.get? e=none
 ddN:dd∉fs/\dd≠e
 dn:dd=d\/h₀.get? dd=none
 at_:∃ b1 b2 b3 what,h₁.get? dd=some (Dq [ent P "what" b1 (.str what b3),ent P "at" b2 (.ref ta)] 2)
noncomputable def Lb(P:Params)(x:Lw)(h₀:Heap)(d:Addr)(old:List Addr)(K:List AO)(ps:PS):Prop:=
 (∀ q∈ps,okFn (Aa P q.1)=true/\q.2≠x.la/\((q.2∈old/\q.2≠d/\∃ sl es n,h₀.get? q.2=some (lawF sl es n))\/(h₀.get? q.2=none/\∃ sl es n,(q.2,lawF sl es n)∈K)))/\x.la∈old/\x.la≠d/\∃ t,h₀.get? x.la=some (x.o P t)
theorem Iu.up{P:Params}{x:Lw}{h₀ h₁ h' h'':Heap}{d e dd ta:Addr}{old fs:List Addr}{ps ps':PS}{v v':Value}(T:Iu P x h₀ d old ta h₁ e dd fs ps v h')(hf:FrOk (thP P x h₁ e dd fs) (envs P ps' x))(F:Fly (thP P x h₁ e dd fs) (some v') h''):Iu P x h₀ d old ta h₁ e dd fs ps' v' h'':=
 ⟨T.ok,hf,F,T.kept,T.fsO,T.eN,T.ddN,T.dn,T.at_⟩
theorem Hf{P:Params}{x:Lw}{h₀ h:Heap}{d:Addr}{old:List Addr}{K K':List AO}{ps:PS}{fn lo:Addr}{sl:Array (Option Value)}{es:List DictEntry}{n:Nat}(hO:Lb P x h₀ d old K ps)(hs:∀ p∈K,p∈K')(hk:(lo,lawF sl es n)∈K')(k:Kn h₀ d h K')(hd:lo≠d)(ho:okFn (Aa P fn)=true):Lb P x h₀ d old K' ((fn,lo)::ps):=by
 obtain ⟨h1,h2,h3,t,h4⟩:=hO
 have hn:h₀.get? lo=none:=(k.dir _ hk).resolve_left hd
 refine ⟨λq hq=>?_,h2,h3,t,h4⟩
 rcases mcm hq with rfl|hq
 ·exact ⟨ho,(λz=>by have z:lo=x.la:=z;rw [z,h4] at hn;cases hn),.inr ⟨hn,sl,es,n,hk⟩⟩
 ·obtain ⟨a1,a2,a3⟩:=h1 q hq
  refine ⟨a1,a2,?_⟩
  rcases a3 with a3|⟨a3,sl',es',n',a4⟩
  ·exact .inl a3
  ·exact .inr ⟨a3,sl',es',n',hs _ a4⟩
theorem Rw{P:Params}{w:World}{x:Lw}{h₀ h:Heap}{d e dd ta tu:Addr}{old:List Addr}{K:List AO}{ps:PS}{what:Str}{b1 b2 b3:Tok}(hO:Lb w.params x h₀ d old K ps)
  (k:Kn h₀ d h ((e,exnO #[.ref tu,.none,.none,.none,.bool false,.none] (some dd))::(dd,Dq [ent w.params "what" b1 (.str what b3),ent w.params "at" b2 (.ref ta)] 2)::K))(he:e≠d) :
  (thP w.params x h e dd (ps.map (·.2)++[x.la])).Ok/\FrOk (thP w.params x h e dd (ps.map (·.2)++[x.la])) (envs w.params ps x)/\Fly (thP w.params x h e dd (ps.map (·.2)++[x.la])) none h/\
  ∀ {ps':PS}{v:Value}{h':Heap},FrOk (thP w.params x h e dd (ps.map (·.2)++[x.la])) (envs w.params ps' x)->Fly (thP w.params x h e dd (ps.map (·.2)++[x.la])) (some v) h'->Iu w.params x h₀ d old ta h e dd (ps.map (·.2)++[x.la]) ps' v h':=by
 obtain ⟨h1,h2,h3,t,h4⟩:=hO
 have hla:h.get? x.la=some (x.o w.params t):=k.kept _ _ h4 h3
 have hF:Frs h (ps.map (·.2)++[x.la]):=λb hb=>by
  rcases List.mem_append.mp hb with hb|hb
  ·obtain ⟨q,hq,rfl⟩:=mmp hb
   obtain ⟨_,_,a3⟩:=h1 q hq
   rcases a3 with ⟨_,a4,sl,es,n,a5⟩|⟨_,sl,es,n,a5⟩
   ·exact ⟨sl,es,n,k.kept _ _ a5 a4⟩
   ·exact ⟨sl,es,n,k.own _ (.tail _ (.tail _ a5))⟩
  ·obtain rfl:=msp hb
   exact ⟨_,_,_,hla⟩
 have hm:x.la∈ps.map (·.2)++[x.la]:=maj ((.head _))
 have e1:=k.own _ (.head _)
 have e2:=k.own _ (.tail _ (.head _))
 have O:=Ah3 (la:=x.la) (lof:=λt=>lawF (slD Aa w.params x.la x.pc t) x.es x.n) e1 hF hm
 refine ⟨O,Ah2 hF hm λq hq=>?_,Yk (t:=t) e1 rfl hla,λhf F=>⟨O,hf,F,k.kept,λb hb=>?_,(k.dir _ (.head _)).resolve_left he,⟨λz=>?_,λz=>?_⟩,k.dir _ (.tail _ (.head _)),_,_,_,_,e2⟩⟩
 ·obtain ⟨a1,a2,_⟩:=h1 q hq
  exact ⟨a1,mai ((List.mem_map_of_mem (f:=(·.2)) hq)),a2⟩
 ·rcases List.mem_append.mp hb with hb|hb
  ·obtain ⟨q,hq,rfl⟩:=mmp hb
   obtain ⟨_,_,a3⟩:=h1 q hq
   rcases a3 with ⟨a3,_⟩|⟨a3,_⟩
   ·exact .inl a3
   ·exact .inr a3
  ·obtain rfl:=msp hb
   exact .inl h2
 ·obtain ⟨sl,es,n,q⟩:=hF _ z
  rw [e2] at q
  injection q with q
  have:=congrArg Obj.cls q
  injection this with this
  exact absurd this (by decide)
 ·rw [z,e1] at e2
  injection e2 with q
  have:=congrArg Obj.cls q
  cases this
theorem Co{A:Around}{body:List Stmt}{env:Env}{l:List Env}(h:A.frames=some l):(A.under (.func body env)).frames=some (env::l):=by
 show pushEnvs [env] A.frames=_
 rw [h];rfl
theorem Hb{A:Around}{body:List Stmt}{env:Env}{n m:Nat}(h:Room A n)(hm:m+1<=n):Room (A.under (.func body env)) m:=by
 obtain ⟨h1,h2⟩:=h
 have e1:(A.under (.func body env)).depth=A.depth+1:=rfl
 have e2:(A.under (.func body env)).units=A.units+3:=rfl
 exact ⟨by rw [e1];omega,by rw [e2];omega⟩
theorem FrOk.drop{P:FlyP}{env:Env}{l:List Env}(h:FrOk P (env::l))(hl:l≠[]):FrOk P l:=by
 cases l with
 | nil=>exact absurd rfl hl
 | cons=>exact h.tail
theorem Rd{P:Params}{ps:PS}{x:Lw}:envs P ps x≠[]:=by simp
noncomputable def rfQ(R:Result->Shared->Prop)(f:Flow)(s:Shared):Prop:=R (.ok (.ret (match f with|.ret v=>v | _=>.none))) s
noncomputable def rfX(M:Model)(A:Around)(c:Code)(env:Env)(R:Result->Shared->Prop)(e:Value)(s:Shared):Prop:=wpAny M (A.under c) (leaving env e) (λ_ s=>R (.error e) s) (λ_ _=>False) s
noncomputable def rfE(M:Model)(A:Around)(c:Code)(env:Env)(R:Result->Shared->Prop)(r:Result)(s:Shared):Prop:=match r with
 | .ok _=>False
 | .error e=>rfX M A c env R e s
noncomputable def rfV(M:Model)(A:Around)(c:Code)(env:Env)(R:Result->Shared->Prop)(r:Result)(s:Shared):Prop:=∃ ev,r=.error (.ref ev)/\rfX M A c env R (.ref ev) s
theorem Wl{A:Around}{s:Shared}{R:Result->Shared->Prop}{h₀:Heap}{K2:List AO}{r:Rdr}{p:Int}{t:Tok}{k k2:Tk}{kd:Str}{u:Tok}{x:Lw}{ps:PS}{old:List Addr}
  (z1:∀ {lo a b1 v t},OkC w b (cExN Aa w.params r p t k kd lo a b1 v) (Cq ((Ae (Aa w.params 307)).take 2) (envF (Aa w.params) 307 lo)) (λ_ tk=>.call (.ref 399) ⟨[.ref r.rd,.str "BY" (tk 3)],[]⟩) true tT nL)
  (z2:∀ {lo a b1 v t},OkT w b (cNdE Aa w.params r (p+1) t k2 lo a b1 v) (Cq (Ae (Aa w.params 399)) (envF (Aa w.params) 399 lo)) tT nL)
  (B:Bas (Aa w.params) h₀ r.d [(r.rd,Lo r.d),(r.tl,Ac r.vs r.kl),(k.a,k.obj),(k.d,k.dict w.params),(k2.a,k2.obj),(k2.d,k2.dict w.params)])
  (kn:Kn h₀ r.d s.heap ((r.d,r.dict w.params p t)::K2))(hA:A.handled=none)(hfr:A.frames=some (envs w.params ps x))(hr:Room A 100)(hO:Lb w.params x h₀ r.d old K2 ps)
  (go:∀ h₁ e dd fs h' t',Iu w.params x h₀ r.d old k2.ta h₁ e dd fs ps .none h'->R (.error (.ref e)) { s with heap:=h',toks:=t' }) :
  codeAny (model prog (wZ w b)) A (.call (.ref 307) ⟨[.ref r.rd,.str kd u],[]⟩) R s:=by
 refine Nk (Wf _) (B.kstat kn) (by have:=hr.1;omega) ?_
 refine Kn.useC (Ahn r.rd kd u) B kn [] [] rfl List.nodup_nil (λ_ h=>(nomatch h)) rfl (λ_ h=>(nomatch h)) hA (hr.le (show 5<=100 by decide)) λnw tks h1 t1 k1=>?_
 have k1:Kn h₀ r.d h1 ((cut 1 nw 0,Adt w.params r.rd kd (cut 2 tks 0) (cut 2 tks 1) u)::(r.d,r.dict w.params p t)::K2):=k1
 show codeAny (model prog (wZ w b)) A (.func (Ae (Aa w.params 307)) (envF (Aa w.params) 307 (cut 1 nw 0))) R _
 generalize cut 1 nw 0=lo3 at k1 ⊢
 generalize cut 2 tks 0=q1 at k1
 generalize cut 2 tks 1=q2 at k1
 refine Jc ?_
 have hb:∀ Q E s,wpOwn (model prog (wZ w b)) A (.func (Ae (Aa w.params 307)) (envF (Aa w.params) 307 lo3)) (execs ((Ae (Aa w.params 307)).take 2) (envF (Aa w.params) 307 lo3)) (λ_ _=>False) E s->wpOwn (model prog (wZ w b)) A (.func (Ae (Aa w.params 307)) (envF (Aa w.params) 307 lo3)) (execs (Ae (Aa w.params 307)) (envF (Aa w.params) 307 lo3)) Q E s:=λQ E s h=>by
  have z:=Gz (Q:=Q) (r:=(Ae (Aa w.params 307)).drop 2) (wpOwn_mono h (λf s' h=>(h:False).elim) λ_ _ h=>h)
  rw [List.take_append_drop] at z
  exact z
 refine hb (rfQ R) (rfX (model prog (wZ w b)) A (.func (Ae (Aa w.params 307)) (envF (Aa w.params) 307 lo3)) (envF (Aa w.params) 307 lo3) R) _ ?_
 refine wpOwn_mono (Dh (R₁:=rfE (model prog (wZ w b)) A (.func (Ae (Aa w.params 307)) (envF (Aa w.params) 307 lo3)) (envF (Aa w.params) 307 lo3) R) (hr.le (show 1<=100 by decide)) ?_) (λ_ _ h=>h) λ_ _ h=>h
 refine Kn.useC z1 B k1 [0,7,1,2,3,6] [1,0] rfl (by decide) (lA rfl) rfl (lA rfl) hA (hr.le (show 75<=100 by decide)) λnw tks h2 t2 k2'=>?_
 have k2':Kn h₀ r.d h2 ((lo3,Ek [ent w.params "reader" q1 (.ref r.rd),ent w.params "kind" q2 (.str kd u),ent w.params "operand" (cut 4 tks 1) (.ref (cut 4 tks 2))] 3)::(r.d,r.dict w.params (p+1) (cut 4 tks 0))::K2):=k2'
 show codeAny (model prog (wZ w b)) ((A.under (.func (Ae (Aa w.params 307)) (envF (Aa w.params) 307 lo3))).mark none) (.call (.ref 399) ⟨[.ref r.rd,.str "BY" (cut 4 tks 3)],[]⟩) _ _
 generalize cut 4 tks 0=q3 at k2'
 generalize cut 4 tks 1=q4 at k2'
 generalize cut 4 tks 2=q5 at k2'
 generalize cut 4 tks 3=q6
 have hr2:Room ((A.under (.func (Ae (Aa w.params 307)) (envF (Aa w.params) 307 lo3))).mark none) 90:=Hb hr (by decide)
 have hA2:((A.under (.func (Ae (Aa w.params 307)) (envF (Aa w.params) 307 lo3))).mark none).handled=none:=hA
 have hfr2:((A.under (.func (Ae (Aa w.params 307)) (envF (Aa w.params) 307 lo3))).mark none).frames=some (envs w.params ((307,lo3)::ps) x):=Co hfr
 have hfr1:(A.under (.func (Ae (Aa w.params 307)) (envF (Aa w.params) 307 lo3))).frames=some (envs w.params ((307,lo3)::ps) x):=Co hfr
 generalize ((A.under (.func (Ae (Aa w.params 307)) (envF (Aa w.params) 307 lo3))).mark none)=A2 at hr2 hA2 hfr2 ⊢
 refine Nk (We _) (B.kstat k2') (by have:=hr2.1;omega) ?_
 refine Kn.useC (Ahm r.rd "BY" q6) B k2' [] [] rfl List.nodup_nil (λ_ h=>(nomatch h)) rfl (λ_ h=>(nomatch h)) hA2 (hr2.le (show 5<=90 by decide)) λnw tks h3 t3 k3=>?_
 have k3:Kn h₀ r.d h3 ((cut 1 nw 0,frNd w.params r.rd (cut 2 tks 0) (cut 2 tks 1) q6)::(lo3,Ek [ent w.params "reader" q1 (.ref r.rd),ent w.params "kind" q2 (.str kd u),ent w.params "operand" q4 (.ref q5)] 3)::(r.d,r.dict w.params (p+1) q3)::K2):=k3
 show codeAny (model prog (wZ w b)) A2 (.func (Ae (Aa w.params 399)) (envF (Aa w.params) 399 (cut 1 nw 0))) _ _
 generalize cut 1 nw 0=lo4 at k3 ⊢
 generalize cut 2 tks 0=q7 at k3
 generalize cut 2 tks 1=q8 at k3
 refine Jc ?_
 refine wpOwn_mono (Dh (R₁:=rfE (model prog (wZ w b)) A2 (.func (Ae (Aa w.params 399)) (envF (Aa w.params) 399 lo4)) (envF (Aa w.params) 399 lo4) (rfV (model prog (wZ w b)) A (.func (Ae (Aa w.params 307)) (envF (Aa w.params) 307 lo3)) (envF (Aa w.params) 307 lo3) R)) (hr2.le (show 1<=90 by decide)) ?_) (λ_ _ h=>h.elim) λ_ _ h=>h
 refine Kn.useT z2 B k3 [0,8,1,4,5,6] [] [] rfl (by decide) (lA rfl) List.nodup_nil (λ_ h=>(nomatch h)) (λ_ _ h=>(nomatch h)) trivial rfl (λ_ h=>(nomatch h)) hA2 (hr2.le (show 60<=90 by decide)) λnw tks h4 t4 k4=>?_
 have k4:Kn h₀ r.d h4 ((cut 3 nw 0,exnO #[.ref (cut 3 nw 2),.none,.none,.none,.bool false,.none] (some (cut 3 nw 1)))::(cut 3 nw 1,Dq [ent w.params "what" (cut 3 tks 0) (.str "BY is asked here" (cut 3 tks 2)),ent w.params "at" (cut 3 tks 1) (.ref k2.ta)] 2)::(cut 3 nw 2,tupO [.str "BY is asked here" (cut 3 tks 2)])::
  (lo4,frNd w.params r.rd q7 q8 q6)::(lo3,Ek [ent w.params "reader" q1 (.ref r.rd),ent w.params "kind" q2 (.str kd u),ent w.params "operand" q4 (.ref q5)] 3)::(r.d,r.dict w.params (p+1) q3)::K2):=k4
 show wpAny (model prog (wZ w b)) (A2.under (.func (Ae (Aa w.params 399)) (envF (Aa w.params) 399 lo4))) (leaving (envF (Aa w.params) 399 lo4) (.ref (cut 3 nw 0))) _ _ _
 have hnod:=k4.nod
 have n1:cut 3 nw 0≠r.d:=λz=>(List.nodup_cons.mp hnod).1 (z▸.tail _ (.tail _ (.tail _ (.tail _ (.head _)))))
 have hnod:=(List.nodup_cons.mp (List.nodup_cons.mp (List.nodup_cons.mp hnod).2).2).2
 have n2:lo4≠r.d:=λz=>(List.nodup_cons.mp hnod).1 (z▸.tail _ (.head _))
 have n3:lo3≠r.d:=λz=>(List.nodup_cons.mp (List.nodup_cons.mp hnod).2).1 (z▸.head _)
 have O3:=Hf (fn:=307) hO (K':=_) (λp hp=>List.mem_cons_of_mem _ (List.mem_cons_of_mem _ (List.mem_cons_of_mem _ (List.mem_cons_of_mem _ (List.mem_cons_of_mem _ (List.mem_cons_of_mem _ hp)))))) (.tail _ (.tail _ (.tail _ (.tail _ (.head _))))) k4 n3 (Wf _)
 have O4:=Hf (fn:=399) O3 (λp hp=>hp) (.tail _ (.tail _ (.tail _ (.head _)))) k4 n2 (We _)
 obtain ⟨O,hP,F,T⟩:=Rw (w:=w) (P:=w.params) (e:=cut 3 nw 0) (dd:=cut 3 nw 1) (K:=_) (ps:=(399,lo4)::(307,lo3)::ps) ⟨λq hq=>by
  obtain ⟨a1,a2,a3⟩:=O4.1 q hq
  refine ⟨a1,a2,?_⟩
  rcases a3 with a3|⟨a3,sl,es,n,a4⟩
  ·exact .inl a3
  ·refine .inr ⟨a3,sl,es,n,?_⟩
   rcases mcm a4 with a4|a4
   ·exact absurd (congrArg (λp:AO=>p.2.cls) a4) (by show ¬ (Value.type "frame"=Value.ref 72);exact λz=>nomatch z)
   ·rcases mcm a4 with a4|a4
    ·exact absurd (congrArg (λp:AO=>p.2.cls) a4) (by show ¬ (Value.type "frame"=Value.type "dict");intro z;injection z with z;exact absurd z (by decide))
    ·exact a4,O4.2⟩ k4 n1
 refine Hl O (Co hfr2) hP rfl (.inl rfl) F λh5 F5=>⟨_,rfl,?_⟩
 refine Hl O hfr1 hP.tail rfl (.inr (.inl rfl)) F5 λh6 F6=>?_
 exact go _ _ _ _ h6 t4 (T (hP.tail.drop Rd) F6)
noncomputable def tstT(env:Env):Option Stmt->Sem Fin
 | some (.While t _ _ _)=>R.bindR (Yz t env (Pu t env)) λc=>.pure (.done (.ret (.bool c)))
 | _=>.unsupported ""
noncomputable def cTst(st:SP)(P:Params)(lo:Addr):Con:=⟨Oj st P lo,[],[],0,λ_ _=>[],0,λ_ _=>.ok (.ret (.bool true)),5⟩

theorem tn_t{lo:Addr}:OkT w b (cTst Aa w.params lo) (tstT (envF (Aa w.params) 314 lo) (Ae (Aa w.params 314))[1]?) tT nL:=by
 let lZ:List (Fm w b):=[]
 refine oT lZ ([]) 12 0 [] [] (λal tk=>[]) ?_ (λal tk X hX=>cZ rfl)<;>intros<;>kernel_rfl
theorem Lb.cut1{P:Params}{x:Lw}{h₀:Heap}{d dd:Addr}{old:List Addr}{K:List AO}{ps:PS}{l:List DictEntry}{m:Nat}(O:Lb P x h₀ d old ((dd,Dq l m)::K) ps):Lb P x h₀ d old K ps:=by
 refine ⟨λq hq=>?_,O.2⟩
 obtain ⟨a1,a2,a3⟩:=O.1 q hq
 refine ⟨a1,a2,?_⟩
 rcases a3 with a3|⟨a3,sl,es,n,a4⟩
 ·exact .inl a3
 ·refine .inr ⟨a3,sl,es,n,?_⟩
  rcases mcm a4 with a4|a4
  ·exact absurd (congrArg (λp:AO=>p.2.cls) a4) (by show ¬ (Value.type "frame"=Value.type "dict");intro z;injection z with z;exact absurd z (by decide))
  ·exact a4
theorem Lb.cut2{P:Params}{x:Lw}{h₀:Heap}{d e dd:Addr}{old:List Addr}{K:List AO}{ps:PS}{vs:Array Value}{od:Option Addr}{l:List DictEntry}{m:Nat}(O:Lb P x h₀ d old ((e,exnO vs od)::(dd,Dq l m)::K) ps):Lb P x h₀ d old K ps:=by
 refine ⟨λq hq=>?_,O.2⟩
 obtain ⟨a1,a2,a3⟩:=O.1 q hq
 refine ⟨a1,a2,?_⟩
 rcases a3 with a3|⟨a3,sl,es,n,a4⟩
 ·exact .inl a3
 ·refine .inr ⟨a3,sl,es,n,?_⟩
  rcases mcm a4 with a4|a4
  ·exact absurd (congrArg (λp:AO=>p.2.cls) a4) (by show ¬ (Value.type "frame"=Value.ref 72);exact λz=>nomatch z)
  ·rcases mcm a4 with a4|a4
   ·exact absurd (congrArg (λp:AO=>p.2.cls) a4) (by show ¬ (Value.type "frame"=Value.type "dict");intro z;injection z with z;exact absurd z (by decide))
   ·exact a4
theorem Cy{w:World}{A:Around}{s:Shared}{c:Code}{l r:List Stmt}{env:Env}{Q:Flow->Shared->Prop}{E:Value->Shared->Prop}(hu:Room A 1)
  (h:wpOwn (model prog w) A c (Cq l env) (plus (postC prog w A λq s'=>match q with
   | .ok .next=>wpOwn (model prog w) A c (execs r env) Q E s'
   | _=>False)) (postE λq s'=>match q with
   | .ok .next=>wpOwn (model prog w) A c (execs r env) Q E s'
   | _=>False) s):wpOwn (model prog w) A c (execs (l++r) env) Q E s:=by
 refine Gz (wpOwn_mono (Dh hu h) (λf s' h=>?_) λe s' h=>h.elim)
 cases f<;>first|exact h|exact h.elim
theorem Zd:(whileTurn:Expr->List Stmt->List Stmt->Env->Sem Fin)=ZFast.zw12362719219628433562:=ZFast.ze12362719219628433562
noncomputable def Tn(toks:List T2)(j:Nat):Prop:=∀ {w:World}{b:B3}{A:Around}{s:Shared}{R:Result->Shared->Prop}{h₀:Heap}{r:Rdr}{ks:List Tk}{kj:Tk}{lo:Addr}{a1 t:Tok}{x:Lw}{ps:PS}{old:List Addr},
 A.handled=none->A.frames=some (envs w.params ps x)->Room A 120->ks.map Tk.pw=toks->r.vs=ks.map (λk=>.ref k.a)->ks[j]?=some kj->
 Bas (Aa w.params) h₀ r.d ((r.rd,Lo r.d)::(r.tl,Ac r.vs r.kl)::Do w.params ks)->Kn h₀ r.d s.heap [(lo,frR0 w.params a1 r.rd),(r.d,r.dict w.params 0 t)]->Lb w.params x h₀ r.d old [] ps->
 (∀ h₁ e dd fs h' t',Iu w.params x h₀ r.d old kj.ta h₁ e dd fs ps .none h'->R (.error (.ref e)) { s with heap:=h',toks:=t' })->codeAny (model prog (wZ w b)) A (Bw Aa w.params lo) R s
theorem Sf{A:Around}{s:Shared}{R:Result->Shared->Prop}{h₀:Heap}{r:Rdr}{k:Tk}{ks:List Tk}{lo:Addr}{a1 t:Tok}{x:Lw}{ps:PS}{old:List Addr}
  (z:OkT w b (cRRE Aa w.params r t k lo a1) (Cq (Ae (Aa w.params 314)) (envF (Aa w.params) 314 lo)) tT nL)(hA:A.handled=none)(hfr:A.frames=some (envs w.params ps x))(hr:Room A 120)
  (B:Bas (Aa w.params) h₀ r.d ((r.rd,Lo r.d)::(r.tl,Ac r.vs r.kl)::Do w.params (k::ks)))(kn:Kn h₀ r.d s.heap [(lo,frR0 w.params a1 r.rd),(r.d,r.dict w.params 0 t)])(hO:Lb w.params x h₀ r.d old [] ps)
  (go:∀ h₁ e dd fs h' t',Iu w.params x h₀ r.d old k.ta h₁ e dd fs ps .none h'->R (.error (.ref e)) { s with heap:=h',toks:=t' }):codeAny (model prog (wZ w b)) A (Bw Aa w.params lo) R s:=by
 have B:Bas (Aa w.params) h₀ r.d [(r.rd,Lo r.d),(r.tl,Ac r.vs r.kl),(k.a,k.obj),(k.d,k.dict w.params)]:=B.pick [0,1,2,3] (by decide) (λi hi=>by
  have:i < 4:=by revert hi;revert i;decide
  refine Nat.lt_of_lt_of_le this ?_
  show 4<=(Do w.params ks).length+1+1+1+1
  omega)
 refine Jc ?_
 refine wpOwn_mono (Dh (R₁:=λr' s'=>match r' with
  | .ok _=>False
  | .error e=>wpAny (model prog (wZ w b)) (A.under (Bw Aa w.params lo)) (leaving (envF (Aa w.params) 314 lo) e) (λ_ s''=>R (.error e) s'') (λ_ _=>False) s') (hr.le (by decide)) ?_) (λ_ _ h=>h.elim) λ_ _ h=>h
 refine Kn.useT z B kn [0,5,1,2,3,4] [] [0] rfl (by decide) (lA rfl) List.nodup_nil (λ_ h=>(nomatch h)) (λ_ _ h=>(nomatch h)) trivial rfl (lA rfl) hA (hr.le (show 100<=120 by decide)) λnw tks h4 t4 k4=>?_
 have k4:Kn h₀ r.d h4 ((cut 3 nw 0,exnO #[.ref (cut 3 nw 2),.none,.none,.none,.bool false,.none] (some (cut 3 nw 1)))::(cut 3 nw 1,Dq [ent w.params "what" (cut 9 tks 0) (.str Sc (cut 9 tks 2)),ent w.params "at" (cut 9 tks 1) (.ref k.ta)] 2)::(cut 3 nw 2,tupO [.str Sc (cut 9 tks 2)])::
  (lo,frRR w.params a1 (cut 9 tks 3) (cut 9 tks 4) (cut 9 tks 5) r.rd (cut 9 tks 6) "" (cut 9 tks 7) (cut 9 tks 8))::(r.d,r.dict w.params 0 t)::[]):=k4
 show wpAny (model prog (wZ w b)) (A.under (Bw Aa w.params lo)) (leaving (envF (Aa w.params) 314 lo) (.ref (cut 3 nw 0))) _ _ _
 have hnod:=k4.nod
 simp only [List.map_cons,List.nodup_cons,List.mem_cons,not_or] at hnod
 obtain ⟨⟨_,_,_,n1,_⟩,_,_,⟨n3,_⟩,_⟩:=hnod
 have O3:=Hf (fn:=314) hO (K':=_) (λp hp=>(nomatch hp)) (.tail _ (.tail _ (.tail _ (.head _)))) k4 n3 (Ma _)
 obtain ⟨O,hP,F,T⟩:=Rw (w:=w) (P:=w.params) O3.cut2 k4 n1
 refine Hl O (Co hfr) hP rfl (.inl rfl) F λh5 F5=>?_
 exact go _ _ _ _ h5 t4 (T (hP.drop Rd) F5)
theorem Md{α:Type}{l:List α}{f:α->T2}{a:T2}(h:l.map f=[a]):∃ x,l=[x]/\f x=a:=by
 match l,h with
 | [x],h=>exact ⟨x,rfl,(List.cons.inj h).1⟩
theorem Dn{α:Type}{l:List α}{f:α->T2}{a:T2}{r:List T2}(h:l.map f=a::r):∃ x l',l=x::l'/\f x=a/\l'.map f=r:=by
 match l,h with
 | x::l',h=>exact ⟨x,l',rfl,(List.cons.inj h).1,(List.cons.inj h).2⟩
theorem Rdr.on_self{r:Rdr}{vs:List Value}(h:r.vs=vs):r.on vs=r:=by subst h;rfl
theorem Agf:Tn [sg2 "."] 0:=by
 intro w b A s R h₀ r ks kj lo a1 t x ps old hA hfr hr hk hv hj B kn hO go
 obtain ⟨k,rfl,e⟩:=Md hk
 injection hj with hj
 subst hj
 have hv:r.vs=[.ref k.a]:=hv
 have z:=rrE_1 (w:=w) (b:=b) (r:=r) (t:=t) (k:=k) (lo:=lo) (a1:=a1) (De (ls:=[]) e rfl rfl rfl rfl)
 rw [Rdr.on_self hv] at z
 exact Sf z hA hfr hr B kn hO go
theorem Age:Tn [l2 "a",w2 "BY",l2 "b"] 0:=by
 intro w b A s R h₀ r ks kj lo a1 t x ps old hA hfr hr hk hv hj B kn hO go
 obtain ⟨k,ks,rfl,e,hk⟩:=Dn hk
 obtain ⟨k1,ks,rfl,e1,hk⟩:=Dn hk
 obtain ⟨k2,rfl,e2⟩:=Md hk
 injection hj with hj
 subst hj
 have hv:r.vs=[.ref k.a,.ref k1.a,.ref k2.a]:=hv
 have z:=rrE_3 (w:=w) (b:=b) (r:=r) (t:=t) (k:=k) (x1:=k1.a) (x2:=k2.a) (lo:=lo) (a1:=a1) (De (ls:=[]) e rfl rfl rfl rfl)
 rw [Rdr.on_self hv] at z
 exact Sf z hA hfr hr B kn hO go
theorem Ad3(P:Params):∃ s0 t c0 c1 c2 c3 t2 b2 o2 p2 r2 o p rest,Ae (Aa P 314)=s0::.While t (c0::c1::c2::c3::.While t2 b2 o2 p2::r2) o p::rest:=⟨_,_,_,_,_,_,_,_,_,_,_,_,_,_,rfl⟩
theorem Qu{w:World}{A:Around}{s:Shared}{x:Lw}{P:Params}{h₀ h₁:Heap}{d ta e dd:Addr}{old fs:List Addr}{ps:PS}{fn lo:Addr}{v:Value}{t:Expr}{bd o:List Stmt}{E:Value->Shared->Prop}{h':Heap}(hfr:A.frames=some (envs P ((fn,lo)::ps) x))
  (hv:v=.none\/v=rawInt lo)(T:Iu P x h₀ d old ta h₁ e dd fs ((fn,lo)::ps) v h')(hs:s.heap=h')(go:∀ h'',Iu P x h₀ d old ta h₁ e dd fs ((fn,lo)::ps) (rawInt lo) h''->E (.ref e) { s with heap:=h'' }) :
  notedBy (model prog w) (A.under (.whileLoop t bd o (envF (Aa P) fn lo))) (envF (Aa P) fn lo) (λe s'=>cameBackBy (model prog w) A (envF (Aa P) fn lo) E e s') (.ref e) s:=by
 subst hs
 have hv':some v=none\/some v=some .none\/some v=some (rawInt lo):=by
  rcases hv with rfl|rfl
  ·exact .inr (.inl rfl)
  ·exact .inr (.inr rfl)
 refine Aba T.ok (show (A.under (.whileLoop t bd o (envF (Aa P) fn lo))).frames=_ from hfr) T.fr rfl hv' T.fly λh2 F2=>?_
 exact Adv T.ok rfl F2 λh3 F3=>go h3 (T.up T.fr F3)
theorem Kn.perm{h₀ h:Heap}{d:Addr}{K K':List AO}(k:Kn h₀ d h K)(p:K.Perm K'):Kn h₀ d h K':=
 ⟨k.kept,λq hq=>k.own q (p.symm.subset hq),λq hq=>k.dir q (p.symm.subset hq),(p.map (·.1)).nodup_iff.mp k.nod,k.grown⟩
theorem Vh{env:Env}{t:Expr}{b o:List Stmt}{p:Pos}:whT env (some (.While t b o p))=Xf (whileTurn t b o env):=by rw [Zd];rfl
inductive RrI (P:Params):Prop
 | mk (tt:Expr)(bd o:List Stmt)(p:Pos)(rest:List Stmt)(t2:Expr)(b2 o2:List Stmt)(p2:Pos)(r2:List Stmt)(hf2:(Ae (Aa P 314))[1]?=some (.While tt bd o p))
  (hb:(Ae (Aa P 314)).take 1++.While tt bd o p::rest=Ae (Aa P 314))(hi2:(Ld (Ae (Aa P 314))[1]?)[4]?=some (.While t2 b2 o2 p2))
  (hib:(Ld (Ae (Aa P 314))[1]?).take 4++.While t2 b2 o2 p2::r2=bd)(e6:∀ lo,Oj Aa P lo=.whileLoop tt bd o (envF (Aa P) 314 lo))(e7:∀ lo,coLp Aa P lo=.whileLoop t2 b2 o2 (envF (Aa P) 314 lo))
theorem rr_I(P:Params):RrI P:=by
 obtain ⟨s0,tt,c0,c1,c2,c3,t2,b2,o2,p2,r2,o,p,rest,e⟩:=Ad3 P
 have hf2:(Ae (Aa P 314))[1]?=some (.While tt (c0::c1::c2::c3::.While t2 b2 o2 p2::r2) o p):=by rw [e];rfl
 have hi2:(Ld (Ae (Aa P 314))[1]?)[4]?=some (.While t2 b2 o2 p2):=by rw [e];rfl
 exact ⟨tt,_,o,p,rest,t2,b2,o2,p2,r2,hf2,by rw [e];rfl,hi2,by rw [e];rfl,λlo=>by unfold Oj;rw [hf2];rfl,λlo=>by unfold coLp;rw [hi2];rfl⟩
inductive L6 {α:Type}(f:α->T2)(a0 a1 a2 a3 a4 a5:T2):List α->Prop
 | mk (k0 k1 k2 k3 k4 k5:α)(e0:f k0=a0)(e1:f k1=a1)(e2:f k2=a2)(e3:f k3=a3)(e4:f k4=a4)(e5:f k5=a5):L6 f a0 a1 a2 a3 a4 a5 [k0,k1,k2,k3,k4,k5]
theorem Adn{α:Type}{l:List α}{f:α->T2}{a0 a1 a2 a3 a4 a5:T2}(h:l.map f=[a0,a1,a2,a3,a4,a5]):L6 f a0 a1 a2 a3 a4 a5 l:=by
 obtain ⟨k0,_,rfl,e0,h⟩:=Dn h
 obtain ⟨k1,_,rfl,e1,h⟩:=Dn h
 obtain ⟨k2,_,rfl,e2,h⟩:=Dn h
 obtain ⟨k3,_,rfl,e3,h⟩:=Dn h
 obtain ⟨k4,_,rfl,e4,h⟩:=Dn h
 obtain ⟨k5,rfl,e5⟩:=Md h
 exact ⟨k0,k1,k2,k3,k4,k5,e0,e1,e2,e3,e4,e5⟩
noncomputable def r4W(M:Model)(A:Around)(c:Code)(env:Env)(rest:List Stmt)(R:Result->Shared->Prop)(r:Result)(s:Shared):Prop:=match r with
 | .ok f=>match f with
  | .next=>wpOwn M A c (execs rest env) (rfQ R) (rfX M A c env R) s
  | f=>rfQ R f s
 | .error e=>cameBackBy M (A.under c) env (rfX M A c env R) e s
theorem Agd:Tn [w2 "ALL",l2 "a",l2 "b"] 2:=by
 intro w b A s R h₀ r ks kj lo a1 t x ps old hA hfr hr hk hv hj B kn hO go
 obtain ⟨k0,ks,rfl,e0,hk⟩:=Dn hk
 obtain ⟨k1,ks,rfl,e1,hk⟩:=Dn hk
 obtain ⟨k2,rfl,e2⟩:=Md hk
 injection hj with hj
 subst hj
 have hv:r.vs=[.ref k0.a,.ref k1.a,.ref k2.a]:=hv
 have B:Bas (Aa w.params) h₀ r.d [(r.rd,Lo r.d),(r.tl,Ac r.vs r.kl),(k0.a,k0.obj),(k0.d,k0.dict w.params),(k1.a,k1.obj),(k1.d,k1.dict w.params),(k2.a,k2.obj),(k2.d,k2.dict w.params)]:=B
 obtain ⟨tt,bd,o,p,rest,_,_,_,_,_,hf2,hb,_,_,e6,_⟩:=rr_I w.params
 refine Jc ?_
 have hst:∀ Q E,wpOwn (model prog (wZ w b)) A (Bw Aa w.params lo) (execs ((Ae (Aa w.params 314)).take 1++.While tt bd o p::rest) (envF (Aa w.params) 314 lo)) Q E s->wpOwn (model prog (wZ w b)) A (Bw Aa w.params lo) (execs (Ae (Aa w.params 314)) (envF (Aa w.params) 314 lo)) Q E s:=λQ E h=>by rw [hb] at h;exact h
 refine hst (rfQ R) (rfX (model prog (wZ w b)) A (Bw Aa w.params lo) (envF (Aa w.params) 314 lo) R) ?_
 refine Cy (hr.le (by decide)) ?_
 refine Kn.useT (rr_s0 (rd:=r.rd) (a1:=a1) (lo:=lo)) B kn [8] [] [0] rfl (by decide) (lA rfl) List.nodup_nil (λ_ h=>(nomatch h)) (λ_ _ h=>(nomatch h)) trivial rfl (lA rfl) hA (hr.le (show 5<=120 by decide)) λnw tks h1 t1 k1'=>?_
 have k1':Kn h₀ r.d h1 [(cut 2 tks 1,Ac [] 0),(lo,frR1 w.params a1 (cut 2 tks 0) r.rd (cut 2 tks 1)),(r.d,r.dict w.params 0 t)]:=k1'
 generalize cut 2 tks 1=rl at k1'
 generalize cut 2 tks 0=a2 at k1'
 refine Cb (Mv (?_:codeAny _ _ _ (r4W (model prog (wZ w b)) A (Bw Aa w.params lo) (envF (Aa w.params) 314 lo) rest R) _))
 have hA1:(A.under (Bw Aa w.params lo)).handled=none:=hA
 have hfr1:(A.under (Bw Aa w.params lo)).frames=some (envs w.params ((314,lo)::ps) x):=Co hfr
 have hr1:Room (A.under (Bw Aa w.params lo)) 110:=Hb hr (by decide)
 refine Pz ?_
 refine wpOwn_mono (Le (R₁:=λr' s'=>match r' with
  | .ok _=>False
  | .error e=>notedBy (model prog (wZ w b)) ((A.under (Bw Aa w.params lo)).under (.whileLoop tt bd o (envF (Aa w.params) 314 lo))) (envF (Aa w.params) 314 lo) (λe s'=>cameBackBy (model prog (wZ w b)) (A.under (Bw Aa w.params lo)) (envF (Aa w.params) 314 lo) (λe s'=>wpAny (model prog (wZ w b)) (A.under (Bw Aa w.params lo)) (leaving (envF (Aa w.params) 314 lo) e) (λ_ s''=>R (.error e) s'') (λ_ _=>False) s') e s') e s') ?_) (λ_ _ h=>by obtain ⟨_,_,h⟩:=h;exact h.elim) (λ_ _ h=>h)
 have z:=tn_A (w:=w) (b:=b) (r:=r) (t:=t) (k:=k0) (x1:=k1.a) (x2:=k2.a) (lo:=lo) (rl:=rl) (a1:=a1) (a2:=a2) (n:=0) (Ey e0 (by decide))
 rw [Rdr.on_self hv] at z
 have z2:∀ {R':Result->Shared->Prop} {s'},wpOwn (model prog (wZ w b)) (A.under (Bw Aa w.params lo)) (Oj Aa w.params lo) (whT (envF (Aa w.params) 314 lo) (Ae (Aa w.params 314))[1]?) (plus (postC prog (wZ w b) (A.under (Bw Aa w.params lo)) R')) (postE R') s'->
  wpOwn (model prog (wZ w b)) (A.under (Bw Aa w.params lo)) (.whileLoop tt bd o (envF (Aa w.params) 314 lo)) (Xf (whileTurn tt bd o (envF (Aa w.params) 314 lo))) (plus (postC prog (wZ w b) (A.under (Bw Aa w.params lo)) R')) (postE R') s':=λh=>by
   unfold Oj at h
   rw [hf2,Vh] at h
   exact h
 refine z2 ?_
 refine Kn.useC z B k1' [0,10,1,2,3,9,8] [2,1] rfl (by decide) (lA rfl) rfl (lA rfl) hA1 (hr1.le (show 90<=110 by decide)) λnw tks h3 t3 k3=>?_
 have k3:Kn h₀ r.d h3 [(rl,Ac [] 0),(lo,frRR w.params a1 a2 (cut 5 tks 1) (cut 5 tks 2) r.rd rl "ALL" (cut 5 tks 3) (cut 5 tks 4)),(r.d,r.dict w.params 1 (cut 5 tks 0))]:=k3
 have k3:=k3.perm (List.perm_append_comm (l₁:=[_,_]) (l₂:=[_]))
 have hnod:=k3.nod
 have k3n:lo≠r.d:=by
  simp only [List.singleton_append,List.map_cons,List.nodup_cons,List.mem_cons,not_or] at hnod
  exact λz=>hnod.1.2.1 z.symm
 have e3:(Oj Aa w.params lo)=.whileLoop tt bd o (envF (Aa w.params) 314 lo):=by unfold Oj;rw [hf2];rfl
 have O3:=Hf (fn:=314) hO (K':=_) (λp hp=>(nomatch hp)) (.tail _ (.tail _ (.head _))) k3 k3n (Ma _)
 have n3:=λlo a b1 v t=>exN_3 (w:=w) (b:=b) (r:=r) (k:=k1) (x0:=k0.a) (x2:=k2.a) (lo:=lo) (a:=a) (b1:=b1) (v:=v) (t:=t) ((Gt e1 _).trans rfl) ((Gt e1 _).trans rfl) ((Gu e1 _).trans rfl) ((Gu e1 _).trans rfl) (bs:=#[97]) (λc=>by rw [(Prod.mk.inj e1).2];exact Uj c)
 have n4:=λlo a b1 v t=>Aap (w:=w) (b:=b) (r:=r) (k:=k2) (x0:=k0.a) (x1:=k1.a) (lo:=lo) (a:=a) (b1:=b1) (v:=v) (t:=t) ((Dg e2 _).trans rfl)
 rw [Rdr.on_self hv] at n3 n4
 refine Wl (p:=1) (k:=k1) (k2:=k2) (ps:=(314,lo)::ps) (old:=old) (x:=x) (n3 _ _ _ _ _) (n4 _ _ _ _ _) (B.pick [0,1,4,5,6,7] (by decide) (lA rfl)) k3 ?_ ?_ ?_ ?_ λh₁ e dd fs h' t' T=>⟨e,rfl,Qu hfr1 (.inl rfl) T rfl λh'' T'=>?_⟩
 ·exact hA1
 ·rw [show (cTnA Aa w.params r t k0 lo rl a1 a2 0).code=.whileLoop tt bd o (envF (Aa w.params) 314 lo) from e3]
  exact hfr1
 ·rw [show (cTnA Aa w.params r t k0 lo rl a1 a2 0).code=.whileLoop tt bd o (envF (Aa w.params) 314 lo) from e3]
  exact hr1.le (by decide)
 ·exact O3.cut1
 ·exact Hl T'.ok hfr1 T'.fr rfl (.inr (.inr rfl)) T'.fly λh6 F6=>go _ _ _ _ h6 t' (T'.up (T'.fr.drop Rd) F6)
theorem Acx{env:Env}{t:Expr}{b o:List Stmt}{p:Pos}:tstT env (some (.While t b o p))=R.bindR (PySem.isTrue t env (eval t env)) λc=>.pure (.done (.ret (.bool c))):=by
 rw [←Ve,←Hw];rfl
theorem Vz{M:Model}{A:Around}{s:Shared}{α:Type}{t:Sem α}{Q:α->Shared->Prop}{E:Value->Shared->Prop}{c c':Code}(e:c=c')(h:wpOwn M A c t Q E s):wpOwn M A c' t Q E s:=e▸h
noncomputable def r4M(M:Model)(A:Around)(c:Code)(env:Env)(c1:Code)(R:Result->Shared->Prop)(e:Value)(s:Shared):Prop:=
 notedBy M ((A.under c).under c1) env (λe s=>cameBackBy M (A.under c) env (rfX M A c env R) e s) e s
noncomputable def r4L(M:Model)(A:Around)(c:Code)(env:Env)(c1 c2:Code)(R:Result->Shared->Prop)(r:Result)(s:Shared):Prop:=match r with
 | .ok _=>False
 | .error e=>notedBy M (((A.under c).under c1).under c2) env (λe s=>cameBackBy M ((A.under c).under c1) env (r4M M A c env c1 R) e s) e s
theorem Agc:Tn [w2 "FIRST",l2 "a",w2 "BY",l2 "b",l2 "a",sg2 "."] 5:=by
 intro w b A s R h₀ r ks kj lo a1 t x ps old hA hfr hr hk hv hj B kn hO go
 obtain ⟨k0,k1,k2,k3,k4,k5,e0,e1,e2,e3,e4,e5⟩:=Adn hk
 injection hj with hj
 subst hj
 have hrd:RdP r 0 (k0::[k1,k2,k3,k4,k5]):=⟨Int.le_refl 0,by rw [hv];exact (show 6 < 2 ^ 62 by decide),by rw [hv];rfl⟩
 have hv:r.vs=[.ref k0.a,.ref k1.a,.ref k2.a,.ref k3.a,.ref k4.a,.ref k5.a]:=hv
 have hat4:At r 4 (some k4):=⟨by decide,by rw [hv];exact (show 6 < 2 ^ 62 by decide),by rw [hv];rfl⟩
 have hEx:ExTk "FIRST" [k1,k2,k3,k4,k5] [k4,k5] _:=(Qm (kind:="FIRST") (t1:=[l2 "a"]) (tb:=[l2 "b"]) (bd:=[]) (by decide) (Br Uj) (Br Aal) .aa Yv).ex [k1,k2,k3] [k4,k5] (by simp [e1,e2,e3]) (Bt e4 rfl rfl rfl rfl rfl)
 have hbt:BtB (some k4) true:=(Br Uj).bt [k4] [k5] (by simp [e4])
 have hfar:far (0+1) [k1,k2,k3,k4,k5] [k4,k5]=4:=by unfold far;rfl
 have B:Bas (Aa w.params) h₀ r.d ((r.rd,Lo r.d)::(r.tl,Ac r.vs r.kl)::Do w.params [k0,k1,k2,k3,k4,k5]):=B
 obtain ⟨tt,bd,o,p,rest,t2,b2,o2,p2,r2,hf2,hb,hi2,hib,e6,e7⟩:=rr_I w.params
 refine Jc ?_
 have hst:∀ Q E,wpOwn (model prog (wZ w b)) A (Bw Aa w.params lo) (execs ((Ae (Aa w.params 314)).take 1++.While tt bd o p::rest) (envF (Aa w.params) 314 lo)) Q E s->wpOwn (model prog (wZ w b)) A (Bw Aa w.params lo) (execs (Ae (Aa w.params 314)) (envF (Aa w.params) 314 lo)) Q E s:=λQ E h=>by rw [hb] at h;exact h
 refine hst (rfQ R) (rfX (model prog (wZ w b)) A (Bw Aa w.params lo) (envF (Aa w.params) 314 lo) R) ?_
 refine Cy (hr.le (by decide)) ?_
 refine Kn.useT (rr_s0 (rd:=r.rd) (a1:=a1) (lo:=lo)) B kn [14] [] [0] rfl (by decide) (lA rfl) List.nodup_nil (λ_ h=>(nomatch h)) (λ_ _ h=>(nomatch h)) trivial rfl (lA rfl) hA (hr.le (show 5<=120 by decide)) λnw tks h1 t1 k1'=>?_
 have k1':Kn h₀ r.d h1 [(cut 2 tks 1,Ac [] 0),(lo,frR1 w.params a1 (cut 2 tks 0) r.rd (cut 2 tks 1)),(r.d,r.dict w.params 0 t)]:=k1'
 generalize cut 2 tks 1=rl at k1'
 generalize cut 2 tks 0=a2 at k1'
 refine Cb (Mv (?_:codeAny _ _ _ (r4W (model prog (wZ w b)) A (Bw Aa w.params lo) (envF (Aa w.params) 314 lo) rest R) _))
 have hA1:(A.under (Bw Aa w.params lo)).handled=none:=hA
 have hfr1:(A.under (Bw Aa w.params lo)).frames=some (envs w.params ((314,lo)::ps) x):=Co hfr
 have hr1:Room (A.under (Bw Aa w.params lo)) 110:=Hb hr (by decide)
 refine Pz ?_
 unfold whileTurn
 have hA2:((A.under (Bw Aa w.params lo)).under (.whileLoop tt bd o (envF (Aa w.params) 314 lo))).handled=none:=hA
 have hfr2:((A.under (Bw Aa w.params lo)).under (.whileLoop tt bd o (envF (Aa w.params) 314 lo))).frames=some (envs w.params ((314,lo)::ps) x):=hfr1
 have hr2:Room ((A.under (Bw Aa w.params lo)).under (.whileLoop tt bd o (envF (Aa w.params) 314 lo))) 110:=hr1
 refine wpOwn_bind (wpOwn_mono (Pb (f:=λc=>Flow.ret (.bool c)) (R₁:=λr' s'=>r'=.ok (.ret (.bool true))/\Kn h₀ r.d s'.heap [(rl,Ac [] 0),(lo,frR1 w.params a1 a2 r.rd rl),(r.d,r.dict w.params 0 t)]/\∃ h' t',s'={ s with heap:=h',toks:=t' }) ?_) (λc s' h'=>?_) λ_ _ h=>by cases h.1)
 ·rw [←Acx (b:=bd) (o:=o) (p:=p),←hf2]
  exact Vz (e6 lo) (Kn.useT (tn_t (lo:=lo)) B k1' [] [] [] rfl List.nodup_nil (λ_ h=>(nomatch h)) List.nodup_nil (λ_ h=>(nomatch h)) (λ_ h=>(nomatch h)) trivial rfl (λ_ h=>(nomatch h)) hA1 (hr1.le (show 5<=110 by decide)) λnw tks h2 t2 k2'=>⟨rfl,k2',h2,t2,rfl⟩)
 obtain ⟨hc,k2',h2,t2',hs2⟩:=h'
 injection hc with hc
 injection hc with hc
 injection hc with hc
 subst hc hs2
 rw [if_pos rfl]
 refine wpOwn_bind ?_
 have hst2:∀ Q E s,wpOwn (model prog (wZ w b)) (A.under (Bw Aa w.params lo)) (.whileLoop tt bd o (envF (Aa w.params) 314 lo)) (execs ((Ld (Ae (Aa w.params 314))[1]?).take 4++.While t2 b2 o2 p2::r2) (envF (Aa w.params) 314 lo)) Q E s->wpOwn (model prog (wZ w b)) (A.under (Bw Aa w.params lo)) (.whileLoop tt bd o (envF (Aa w.params) 314 lo)) (execs bd (envF (Aa w.params) 314 lo)) Q E s:=λQ E s h=>by rw [hib] at h;exact h
 refine hst2 _ _ _ ?_
 refine Cy (hr1.le (by decide)) ?_
 refine Vz (e6 lo) ?_
 refine Kn.useT (tn_F (w:=w) (b:=b) (t:=t) (lo:=lo) (rl:=rl) (a1:=a1) (a2:=a2) hrd (Ey e0 (by decide)) hEx) B k2' [0,16,1,15,14] [2,3,4,5,6,7,8,9,10,11,12,13] [2,1,0] rfl (by decide) (lA rfl) (by decide) (lA rfl) (by decide)
  ⟨λp hp=>hp,(List.nodup_cons.mp (List.nodup_cons.mp B.nod).2).2⟩ rfl (lA rfl) hA1 (hr1.le (show 95<=110 by decide)) λnw tks h3 t3 k3'=>?_
 have k3':Kn h₀ r.d h3 [(rl,Ac (refs (cut 7 tks 5)) (cut 7 tks 6)),(lo,frRR w.params a1 a2 (cut 7 tks 1) (cut 7 tks 2) r.rd rl "FIRST" (cut 7 tks 3) (cut 7 tks 4)),(r.d,r.dict w.params (far (0+1) [k1,k2,k3,k4,k5] [k4,k5]) (cut 7 tks 0))]:=k3'
 rw [hfar] at k3'
 refine Cb (Mv ?_)
 refine Pz ?_
 refine wpOwn_mono (Le (R₁:=r4L (model prog (wZ w b)) A (Bw Aa w.params lo) (envF (Aa w.params) 314 lo) (.whileLoop tt bd o (envF (Aa w.params) 314 lo)) (.whileLoop t2 b2 o2 (envF (Aa w.params) 314 lo)) R) ?_) (λ_ _ h=>by obtain ⟨_,_,h⟩:=h;exact h.elim) (λ_ _ h=>h)
 have z:=lp_F (w:=w) (b:=b) (t:=cut 7 tks 0) (x:=⟨lo,rl,a1,a2,cut 7 tks 1,cut 7 tks 2⟩) (kt:=cut 7 tks 3) (wt:=cut 7 tks 4) (c:=cut 7 tks 5) (n:=cut 7 tks 6) hat4 hbt
 have z2:∀ {R':Result->Shared->Prop} {s'},wpOwn (model prog (wZ w b)) ((A.under (Bw Aa w.params lo)).under (.whileLoop tt bd o (envF (Aa w.params) 314 lo))) (coLp Aa w.params lo) (whT (envF (Aa w.params) 314 lo) ((Ld (Ae (Aa w.params 314))[1]?)[4]?)) (plus (postC prog (wZ w b) ((A.under (Bw Aa w.params lo)).under (.whileLoop tt bd o (envF (Aa w.params) 314 lo))) R')) (postE R') s'->
  wpOwn (model prog (wZ w b)) ((A.under (Bw Aa w.params lo)).under (.whileLoop tt bd o (envF (Aa w.params) 314 lo))) (.whileLoop t2 b2 o2 (envF (Aa w.params) 314 lo)) (Xf (whileTurn t2 b2 o2 (envF (Aa w.params) 314 lo))) (plus (postC prog (wZ w b) ((A.under (Bw Aa w.params lo)).under (.whileLoop tt bd o (envF (Aa w.params) 314 lo))) R')) (postE R') s':=λh=>by
   rw [e7,hi2,Vh] at h
   exact h
 refine z2 ?_
 refine Kn.useC z B k3' [0,16,1,15,14,10,11] [] rfl (by decide) (lA rfl) rfl (lA rfl) hA2 (hr2.le (show 92<=110 by decide)) λnw' tks' h4 t4 k4'=>?_
 have k4':Kn h₀ r.d h4 [(rl,Ac (refs (cut 7 tks 5)) (cut 7 tks 6)),(lo,frRR w.params a1 a2 (cut 7 tks 1) (cut 7 tks 2) r.rd rl "FIRST" (cut 7 tks 3) (cut 7 tks 4)),(r.d,r.dict w.params 4 (cut 7 tks 0))]:=k4'
 have k4':=k4'.perm (List.perm_append_comm (l₁:=[_,_]) (l₂:=[_]))
 have hnod:=k4'.nod
 have k4n:lo≠r.d:=by
  simp only [List.singleton_append,List.map_cons,List.nodup_cons,List.mem_cons,not_or] at hnod
  exact λz=>hnod.1.2.1 z.symm
 have O3:=Hf (fn:=314) hO (K':=_) (λp hp=>(nomatch hp)) (.tail _ (.tail _ (.head _))) k4' k4n (Ma _)
 have n3:=λlo a b1 v t=>exN_6 (w:=w) (b:=b) (r:=r) (k:=k4) (x0:=k0.a) (x1:=k1.a) (x2:=k2.a) (x3:=k3.a) (x5:=k5.a) (lo:=lo) (a:=a) (b1:=b1) (v:=v) (t:=t) ((Gt e4 _).trans rfl) ((Gt e4 _).trans rfl) ((Gu e4 _).trans rfl) ((Gu e4 _).trans rfl) (bs:=#[97]) (λc=>by rw [(Prod.mk.inj e4).2];exact Uj c)
 have n4:=λlo a b1 v t=>Aao (w:=w) (b:=b) (r:=r) (k:=k5) (x0:=k0.a) (x1:=k1.a) (x2:=k2.a) (x3:=k3.a) (x4:=k4.a) (lo:=lo) (a:=a) (b1:=b1) (v:=v) (t:=t) ((Dg e5 _).trans rfl)
 rw [Rdr.on_self hv] at n3 n4
 refine Wl (p:=4) (k:=k4) (k2:=k5) (ps:=(314,lo)::ps) (old:=old) (x:=x) (n3 _ _ _ _ _) (n4 _ _ _ _ _) (B.pick [0,1,10,11,12,13] (by decide) (lA rfl)) k4' ?_ ?_ ?_ ?_ λh₁ e dd fs h' t' T=>⟨e,rfl,Qu hfr2 (.inl rfl) T rfl λh'' T'=>Qu hfr1 (.inr rfl) T' rfl λh''' T''=>?_⟩
 ·exact hA1
 ·rw [show (cLpF Aa w.params r 4 (cut 7 tks 0) k4 ⟨lo,rl,a1,a2,cut 7 tks 1,cut 7 tks 2⟩ (cut 7 tks 3) (cut 7 tks 4) (cut 7 tks 5) (cut 7 tks 6)).code=.whileLoop t2 b2 o2 (envF (Aa w.params) 314 lo) from e7 lo]
  exact hfr1
 ·rw [show (cLpF Aa w.params r 4 (cut 7 tks 0) k4 ⟨lo,rl,a1,a2,cut 7 tks 1,cut 7 tks 2⟩ (cut 7 tks 3) (cut 7 tks 4) (cut 7 tks 5) (cut 7 tks 6)).code=.whileLoop t2 b2 o2 (envF (Aa w.params) 314 lo) from e7 lo]
  exact hr1.le (by decide)
 ·exact O3.cut1
 ·exact Hl T''.ok hfr1 T''.fr rfl (.inr (.inr rfl)) T''.fly λh6 F6=>go _ _ _ _ h6 t' (T''.up (T''.fr.drop Rd) F6)
structure RfP where
 b:List Stmt
 t:Expr
 n:Str
 l:Expr
 r:Expr
 p1:Pos
 p2:Pos
 p3:Pos
 p4:Pos
 z:Stmt
noncomputable def rfOf:List Stmt->RfP
 | .Try b (.ExceptHandler (some t) (some n) (.Return (some (.Compare l _ (r::_) p1)) p2::_) p3::_) _ _ p4::z::_=>⟨b,t,n,l,r,p1,p2,p3,p4,z⟩
 | _=>⟨[],.Name "" ⟨0,0,0,0⟩,"",.Name "" ⟨0,0,0,0⟩,.Name "" ⟨0,0,0,0⟩,⟨0,0,0,0⟩,⟨0,0,0,0⟩,⟨0,0,0,0⟩,⟨0,0,0,0⟩,.Pass ⟨0,0,0,0⟩⟩
noncomputable def rfp(st:SP)(P:Params):RfP:=rfOf (Ae (st P 598))
noncomputable def rfH1(x:RfP):List ExceptHandler:=[.ExceptHandler (some x.t) none [] x.p3]
noncomputable def rfH2(x:RfP):List ExceptHandler:=[.ExceptHandler none (some x.n) [.Return (some (.Compare x.l [.Eq] [x.r] x.p1)) x.p2] x.p3]
noncomputable def frRf(P:Params)(sl:Array (Option Value))(tl:Addr)(i:Int)(a1 a2 it:Tok):Obj:=lawF sl [ent P "tokens" a1 (.ref tl),ent P "index" a2 (.int i it)] 2
noncomputable def frRo(P:Params)(sl:Array (Option Value))(tl:Addr)(i:Int)(a1 a2 it:Tok)(a3:Tok)(e:Addr):Obj:=lawF sl [ent P "tokens" a1 (.ref tl),ent P "index" a2 (.int i it),ent P "odd" a3 (.ref e)] 3
noncomputable def coRf(st:SP)(P:Params)(lo:Addr):Code:=.func (Ae (st P 598)) (envF (st P) 598 lo)
noncomputable def coH1(st:SP)(P:Params)(lo e:Addr):Code:=.handlers (.ref e) (rfH1 (rfp st P)) (envF (st P) 598 lo)
noncomputable def coH2(st:SP)(P:Params)(lo e:Addr):Code:=.handlers (.ref e) (rfH2 (rfp st P)) (envF (st P) 598 lo)
noncomputable def hdlT(e:Value)(env:Env)(hs:List ExceptHandler):Sem Fin:=R.bindR (ZFast.zw11471732733879165300 e env hs) λf=>.pure (.done f)
noncomputable def bndT(env:Env)(n:Str)(v:Value):Sem Fin:=R.bindR (ZFast.zw7536695828754713326 env n v) λ_=>.pure (.done .next)
noncomputable def evlT(x:Expr)(env:Env):Sem Fin:=R.bindR (Pu x env) λv=>.pure (.done (.ret v))
noncomputable def unbT(env:Env)(n:Str):Sem Fin:=R.bindR (R.bindR (ZFast.zw7536695828754713326 env n .none) λ_=>ZFast.zw6759084278852500247 env n) λ_=>.pure (.done .next)
noncomputable def cRfT(st:SP)(P:Params)(lo tl:Addr)(cl nl:Nat)(i:Int)(a1 a2 it:Tok):Con:=
 ⟨coRf st P lo,[(lo,frRf P #[] tl i a1 a2 it),(tl,Ac (refs cl) nl)],[],4,λnw tk=>[(nw 0,Lo (nw 1)),(nw 1,Dq [ent P "tokens" (tk 0) (.ref (nw 2)),ent P "at" (tk 1) (.int 0 659),ent P "named" (tk 2) (.ref (nw 3))] 3),(nw 2,Ac (refs (tk 3)) (tk 4))],5,λ_ _=>.ok .next,130⟩
noncomputable def cRf1(st:SP)(P:Params)(lo e d:Addr)(vs:Array Value):Con:=
 ⟨coH1 st P lo e,[(e,exnO vs (some d))],[],0,λ_ _=>[],0,λ_ _=>.ok .brk,20⟩
noncomputable def cRf2(st:SP)(P:Params)(lo e tl:Addr)(sl:Array (Option Value))(i:Int)(a1 a2 it:Tok):Con:=
 ⟨coH2 st P lo e,[(lo,frRf P sl tl i a1 a2 it)],[(lo,λtk=>frRo P sl tl i a1 a2 it (tk 0) e)],0,λ_ _=>[],1,λ_ _=>.ok .next,20⟩
noncomputable def cRf3(st:SP)(P:Params)(lo e tl d ta:Addr)(what:Str)(vs:Array Value)(sl:Array (Option Value))(i:Int)(a1 a2 it a3 b1 b2 b3:Tok):Con:=
 ⟨coH2 st P lo e,[(lo,frRo P sl tl i a1 a2 it a3 e),(e,exnO vs (some d)),(d,Dq [ent P "what" b1 (.str what b3),ent P "at" b2 (.ref ta)] 2)],[],0,λ_ _=>[],0,λ_ _=>.ok (.ret (.ref ta)),20⟩
noncomputable def cRf4(st:SP)(P:Params)(lo e tl:Addr)(sl:Array (Option Value))(i j:Int)(a1 a2 it a3:Tok):Con:=
 ⟨coH2 st P lo e,[(lo,frRo P sl tl i a1 a2 it a3 e)],[],1,λnw tk=>[(nw 0,tupO [.int j (tk 0),.int 12 (tk 1)])],2,λnw _=>.ok (.ret (.ref (nw 0))),20⟩
noncomputable def cRf5(st:SP)(P:Params)(lo e tl:Addr)(sl:Array (Option Value))(i:Int)(a1 a2 it a3:Tok):Con:=
 ⟨coRf st P lo,[(lo,frRo P sl tl i a1 a2 it a3 e)],[(lo,λ_=>lawF sl [ent P "tokens" a1 (.ref tl),ent P "index" a2 (.int i it)] 4)],0,λ_ _=>[],0,λ_ _=>.ok .next,20⟩

theorem rf_try{lo tl cl nl:Nat}{i:Int}{a1 a2 it:Tok}{t:T2}{ts:List T2}:OkC w b (cRfT Aa w.params lo tl cl nl i a1 a2 it) (Cq (rfp Aa w.params).b (envF (Aa w.params) 598 lo)) (λnw _=>.call (.ref 314) ⟨[.ref (nw 0)],[]⟩) true (λX=>(t::ts).length<=5000/\Ab X (refs cl) ((t::ts).map tokD)) (Ac7 w.params (t::ts)):=by
 let lZ:List (Fm w b):=[fl (λ_=>cRdr w.params tl cl nl) (λX=>(t::ts).length<=5000/\Ab X (refs cl) ((t::ts).map tokD)) (Ac7 w.params (t::ts)) λ_=>Aa5]
 refine oC lZ ([⟨lo,frRf w.params #[] tl i a1 a2 it,false,false⟩,⟨tl,Ac (refs cl) nl,false,false⟩]) 24 0x420c0042001000 [0,1,2,3] [0,1,2,3,4] (λal tk=>[(λX=>(t::ts).length<=5000/\Ab X (refs cl) ((t::ts).map tokD),Ac7 w.params (t::ts) al (λz=>tk (0+z)))]) ?_ (λal tk X hX=>cS hX λL h=>cZ h)<;>intros<;>kernel_rfl
theorem Ag4{lo e d:Addr}{vs:Array Value}:OkH w b (.ref e) (cRf1 Aa w.params lo e d vs) (hdlT (.ref e) (envF (Aa w.params) 598 lo) (rfH1 (rfp Aa w.params))):=by
 refine Pf _ _ _ ([⟨e,exnO vs (some d),false,false⟩]) 20 0x1000000 [] [] rfl (by simp) (by simp) ?_
 intros;kernel_rfl
theorem Ag7{lo e tl:Addr}{sl:Array (Option Value)}{i:Int}{a1 a2 it:Tok}:OkH w b (.ref e) (cRf2 Aa w.params lo e tl sl i a1 a2 it) (bndT (envF (Aa w.params) 598 lo) (rfp Aa w.params).n (.ref e)):=by
 refine Pf _ _ _ ([⟨lo,frRf w.params sl tl i a1 a2 it,true,false⟩]) 17 1 [] [0] rfl (by simp [cRf2]) (by simp) ?_
 intros;kernel_rfl
theorem rf_lhs{lo e tl d ta:Addr}{what:Str}{vs:Array Value}{sl:Array (Option Value)}{i:Int}{a1 a2 it a3 b1 b2 b3:Tok}:OkH w b (.ref e) (cRf3 Aa w.params lo e tl d ta what vs sl i a1 a2 it a3 b1 b2 b3) (evlT (rfp Aa w.params).l (envF (Aa w.params) 598 lo)):=by
 refine Pf _ _ _ ([⟨lo,frRo w.params sl tl i a1 a2 it a3 e,false,false⟩,⟨e,exnO vs (some d),false,false⟩,⟨d,Dq [ent w.params "what" b1 (.str what b3),ent w.params "at" b2 (.ref ta)] 2,false,false⟩]) 42 0xc0082000000002000080000000000000000081 [] [] rfl (by simp) (by simp) ?_
 intros;kernel_rfl
theorem Zy{lo e tl:Addr}{sl:Array (Option Value)}{a1 a2 it a3:Tok}:OkH w b (.ref e) (cRf4 Aa w.params lo e tl sl 0 1 a1 a2 it a3) (evlT (rfp Aa w.params).r (envF (Aa w.params) 598 lo)):=by
 refine Pf _ _ _ ([⟨lo,frRo w.params sl tl 0 a1 a2 it a3 e,false,false⟩]) 22 1 [0] [1,2] rfl (by simp) (by simp) ?_
 intros;kernel_rfl
theorem Ag6{lo e tl:Addr}{sl:Array (Option Value)}{a1 a2 it a3:Tok}:OkH w b (.ref e) (cRf4 Aa w.params lo e tl sl 2 3 a1 a2 it a3) (evlT (rfp Aa w.params).r (envF (Aa w.params) 598 lo)):=by
 refine Pf _ _ _ ([⟨lo,frRo w.params sl tl 2 a1 a2 it a3 e,false,false⟩]) 22 1 [0] [1,2] rfl (by simp) (by simp) ?_
 intros;kernel_rfl
theorem Ag5{lo e tl:Addr}{sl:Array (Option Value)}{a1 a2 it a3:Tok}:OkH w b (.ref e) (cRf4 Aa w.params lo e tl sl 5 6 a1 a2 it a3) (evlT (rfp Aa w.params).r (envF (Aa w.params) 598 lo)):=by
 refine Pf _ _ _ ([⟨lo,frRo w.params sl tl 5 a1 a2 it a3 e,false,false⟩]) 22 1 [0] [1,2] rfl (by simp) (by simp) ?_
 intros;kernel_rfl
theorem rf_unb{lo e tl:Addr}{sl:Array (Option Value)}{i:Int}{a1 a2 it a3:Tok}:OkT w b (cRf5 Aa w.params lo e tl sl i a1 a2 it a3) (unbT (envF (Aa w.params) 598 lo) (rfp Aa w.params).n) tT nL:=by
 let lZ:List (Fm w b):=[]
 refine oT lZ ([⟨lo,frRo w.params sl tl i a1 a2 it a3 e,true,false⟩]) 21 4097 [] [] (λal tk=>[]) ?_ (λal tk X hX=>cZ rfl)<;>intros<;>kernel_rfl
section
open PySem.SeqAt
theorem Ad7(P:Params):Ae (Aa P 598)=[.Try (rfOf (Ae (Aa P 598))).b [.ExceptHandler (some (rfOf (Ae (Aa P 598))).t) (some (rfOf (Ae (Aa P 598))).n) [.Return (some (.Compare (rfOf (Ae (Aa P 598))).l [.Eq] [(rfOf (Ae (Aa P 598))).r] (rfOf (Ae (Aa P 598))).p1)) (rfOf (Ae (Aa P 598))).p2] (rfOf (Ae (Aa P 598))).p3] [] [] (rfOf (Ae (Aa P 598))).p4,(rfOf (Ae (Aa P 598))).z]:=by kernel_rfl
theorem Adb{M:Model}{A:Around}{E:Value->Shared->Prop}{s:Shared}{c:Code}{env:Env}{body orelse:List Stmt}{h₀:ExceptHandler}{hs:List ExceptHandler}{pos:Pos}{Q:Flow->Shared->Prop}
  (h:wpOwn M A c (execs body env) (λf s₁=>match f with|.next=>wpOwn M A c (execs orelse env) Q E s₁|f=>Q f s₁)
   (λe s₁=>wpAny M (A.under c) (noteFrame e env) (λ_ s₂=>wpAny M (A.under c) (setFlight e none) (λ_ s₃=>wpOwn M A c (handleBy e env (h₀::hs)) Q E s₃) E s₂) E s₁) s) :
  wpOwn M A c (exec (.Try body (h₀::hs) orelse [] pos) env) Q E s:=by
 rw [arm_exec_Try]
 refine wpOwn_bind (wpOwn_of_wpAny (wpAny_standAt ?_))
 unfold tryStmt
 simp only [List.isEmpty_nil,if_true,List.isEmpty_cons,Bool.false_and,Bool.false_eq_true,if_false]
 refine wpOwn_bind (Jm (wpOwn_mono h (λf s₁ h₁=>?_) λe s₁ h₁=>?_))
 ·cases f<;>first|exact h₁|exact Du h₁
 ·exact wpOwn_bind (wpOwn_mono (wpOwn_of_wpAny h₁) (λ_ _ h₂=>wpOwn_bind (wpOwn_of_wpAny h₂)) λ_ _ x=>x)
theorem Afd:(handleWith:Value->Env->List ExceptHandler->Sem Flow)=ZFast.zw11471732733879165300:=ZFast.ze11471732733879165300
theorem Zb:(bindName:Env->Str->Value->Sem Unit)=ZFast.zw7536695828754713326:=ZFast.ze7536695828754713326
theorem Afa:(unbindName:Env->Str->Sem Unit)=ZFast.zw6759084278852500247:=ZFast.ze6759084278852500247
theorem Agz{e:Value}{env:Env}{hs:List ExceptHandler}:hdlT e env hs=R.bindR (handleWith e env hs) λf=>.pure (.done f):=by rw [Afd];rfl
theorem Ahv{env:Env}{n:Str}{v:Value}:bndT env n v=R.bindR (bindName env n v) λ_=>.pure (.done .next):=by rw [Zb];rfl
theorem Abk{x:Expr}{env:Env}:evlT x env=R.bindR (eval x env) λv=>.pure (.done (.ret v)):=by rw [←Hw];rfl
theorem Afk{env:Env}{n:Str}:unbT env n=R.bindR (R.bindR (bindName env n .none) λ_=>unbindName env n) λ_=>.pure (.done .next):=by rw [Zb,Afa];rfl
theorem AtsL.at{L:List AO}:∀ {ks:List Tk}{a:Int}{j:Nat}{k:Tk},AtsL L a ks->ks[j]?=some k->∃ t t',(k.ta,tupO [.int (a+j) t,.int 12 t'])∈L
 | k::ks,a,0,k',⟨h,_⟩,e=>by
  cases e
  simpa using h
 | k::ks,a,j+1,k',⟨_,h⟩,e=>by
  have z:=AtsL.at (j:=j) h (by simpa using e)
  have e2:a+1+(j:Int)=a+((j+1:Nat):Int):=by omega
  rwa [e2] at z
noncomputable def cRfs(st:SP)(P:Params)(x:Lw)(t tl cl nl:Nat)(i:Int)(c:Code):Con:=
 ⟨.call (.ref 598) ⟨[.ref tl,.int i (Aj c 1)],[]⟩,[(x.la,lawF (slD st P x.la x.pc t) x.es x.n),(tl,Ac (refs cl) nl)],[(x.la,λtk=>lawF (slD st P x.la x.pc (tk 0)) x.es x.n)],0,λ_ _=>[],1,λ_ _=>.ok (.ret (.bool true)),150⟩
noncomputable def rfHs(P:Params):List ExceptHandler:=[.ExceptHandler (some (rfp Aa P).t) (some (rfp Aa P).n) [.Return (some (.Compare (rfp Aa P).l [.Eq] [(rfp Aa P).r] (rfp Aa P).p1)) (rfp Aa P).p2] (rfp Aa P).p3]
noncomputable def rfT(P:Params):Stmt:=.Try (rfp Aa P).b (rfHs P) [] [] (rfp Aa P).p4
noncomputable def rfN(M:Model)(A:Around)(c:Code)(env:Env)(z:Stmt)(R:Result->Shared->Prop)(f:Flow)(s:Shared):Prop:=match f with
 | .next=>wpOwn M A c (execs [z] env) (rfQ R) (rfX M A c env R) s
 | f=>rfQ R f s
noncomputable def rfH(M:Model)(A:Around)(c:Code)(env:Env)(hs:List ExceptHandler)(z:Stmt)(R:Result->Shared->Prop)(e:Value)(s:Shared):Prop:=wpAny M (A.under c) (noteFrame e env) (λ_ s=>wpAny M (A.under c) (setFlight e none) (λ_ s=>wpOwn M A c (handleBy e env hs) (rfN M A c env z R) (rfX M A c env R) s) (rfX M A c env R) s) (rfX M A c env R) s
noncomputable def rfR(M:Model)(A:Around)(c:Code)(env:Env)(hs:List ExceptHandler)(z:Stmt)(R:Result->Shared->Prop)(r:Result)(s:Shared):Prop:=match r with
 | .ok _=>False
 | .error e=>rfH M A c env hs z R e s
section
variable {w:World}{b:B3}{A:Around}{s:Shared}
noncomputable def Stp(s:Shared)(K:Flow->Heap->Prop)(r:Result)(s':Shared):Prop:=∃ y h t,r=.ok y/\s'={ s with heap:=h,toks:=t }/\Be s.heap h/\K y h
theorem Jt{α:Type}{c:Code}{m:Sem α}{f:α->Flow}{K:Flow->Heap->Prop}{Q:α->Shared->Prop}{E:Value->Shared->Prop}(h:wpOwn (model prog w) A c (R.bindR m λa=>.pure (.done (f a))) (plus (postC prog w A (Stp s K))) (postE (Stp s K)) s)
  (go:∀ v h t,Be s.heap h->K (f v) h->Q v { s with heap:=h,toks:=t }):wpOwn (model prog w) A c m Q E s:=by
 refine wpOwn_mono (Pb h) (λv s₁ h₁=>?_) λ_ _ h=>by obtain ⟨_,_,_,h,_⟩:=h;cases h
 obtain ⟨y,h,t,e,rfl,g,k⟩:=h₁
 cases e
 exact go _ _ _ g k
theorem al1{α:Type}{P:α->Prop}{a:α}(h:P a):∀ p∈[a],P p:=List.forall_mem_cons.2 ⟨h,λ_ h=>nomatch h⟩
theorem Aaq{h:Heap}{a b:Addr}{o o':Obj}(ha:h.get? a=some o)(hb:h.get? b=some o')(n:o.cls≠o'.cls):a≠b:=λz=>n (by rw [z,hb] at ha;cases ha;rfl)
theorem Zz{h₀:Heap}{d e dd ta:Addr}{old fs:List Addr}{x:Lw}{lo tl:Addr}{i j:Int}{a1 a2 it:Tok}{h₁:Heap}{t1 t2:Tok}{Q:Flow->Shared->Prop}{E:Value->Shared->Prop}(hA:A.handled=none)(hr:Room A 30)
  (hrhs:∀ {e sl a3},OkH w b (.ref e) (cRf4 Aa w.params lo e tl sl i j a1 a2 it a3) (evlT (rfp Aa w.params).r (envF (Aa w.params) 598 lo)))
  (T:Iu w.params x h₀ d old ta h₁ e dd fs [(598,lo)] .none s.heap)(hlo:h₁.get? lo=some (frRf w.params #[] tl i a1 a2 it))(hlof:lo∈fs)(hla:x.la≠lo)(slo:Aa w.params lo=none)(se:Aa w.params e=none)(sd:Aa w.params dd=none)
  (hta:h₁.get? ta=some (tupO [.int j t1,.int 12 t2]))(hta2:ta≠e/\ta∉fs)(hst1:Stat (Aa w.params) h₁)(hsf:∀ b∈fs,Aa w.params b=none)
  (go:∀ h3 h' t',Fly (thP w.params x h₁ e dd fs) (some .none) h3->Be h3 h'->(∀ b o,h3.get? b=some o->b≠lo->h'.get? b=some o)->Q (.ret (.bool true)) { s with heap:=h',toks:=t' }) :
  wpOwn (model prog (wZ w b)) A (coRf Aa w.params lo) (handleBy (.ref e) (envF (Aa w.params) 598 lo) (rfHs w.params)) Q E s:=by
 refine Sh ?_ (λz=>by cases z)
 have hA1:((A.under (coRf Aa w.params lo)).mark (some (.ref e))).handled=some (.ref e):=rfl
 have hr1:Room ((A.under (coRf Aa w.params lo)).mark (some (.ref e))) 20:=Hb hr (by decide)
 have hu:((A.under (coRf Aa w.params lo)).mark (some (.ref e))).units+100 < cLine:=by have:=hr1.2;omega
 generalize ((A.under (coRf Aa w.params lo)).mark (some (.ref e)))=A1 at hA1 hr1 hu ⊢
 obtain ⟨vs,he,_⟩:=T.fly.exc
 have he:s.heap.get? e=some (exnO vs (some dd)):=he
 have stF:∀ {v:Option Value}{h:Heap},Fly (thP w.params x h₁ e dd fs) v h->Stat (Aa w.params) h:=λF a o ea=>F.old a o (hst1 a o ea) (λz=>by rw [show a=e from z,se] at ea;cases ea) λz=>by rw [hsf a z] at ea;cases ea
 have hst:=stF T.fly
 -- the test
 show codeAny (model prog (wZ w b)) A1 (coH1 Aa w.params lo e) _ s
 refine Lf ?_
 refine Jt (f:=λf=>f) (K:=λy h=>y=.brk/\∀ b o,s.heap.get? b=some o->h.get? b=some o) ?_ λf h2 t2' g2 hh=>⟨congrArg Except.ok hh.1,?_⟩
 ·rw [←Agz]
  exact Ag4 (d:=dd) (vs:=vs) A1 s _ hA1 (hr1.le (Nat.le_refl _)) hst (al1 ⟨he,se⟩) (List.pairwise_singleton _ e) λnw tks h' t' a1 a2 a3 a4 a5=>⟨_,h',t',rfl,rfl,a1,rfl,λb o hb=>a2 b o hb λ_ hp=>(nomatch hp)⟩
 -- the suite
 have F2:=T.fly.mono hh.2
 show codeAny (model prog (wZ w b)) A1 (coH2 Aa w.params lo e) _ _
 refine Lf (Aae (wpOwn_of_wpAny (Fy T.ok (f:=none) F2 λh3 F3=>?_)))
 have F3:Fly (thP w.params x h₁ e dd fs) (some .none) h3:=F3
 obtain ⟨sl,hl3⟩:=F3.frs lo hlof _ hlo
 have hl3:h3.get? lo=some (frRf w.params sl tl i a1 a2 it):=hl3
 obtain ⟨vs3,he3,_⟩:=F3.exc
 have he3:h3.get? e=some (exnO vs3 (some dd)):=he3
 obtain ⟨b1,b2,b3,what,hd1⟩:=T.at_
 have hd3:h3.get? dd=some (Dq [ent w.params "what" b1 (.str what b3),ent w.params "at" b2 (.ref ta)] 2):=F3.old dd _ hd1 T.ddN.2 T.ddN.1
 have ht3:h3.get? ta=some (tupO [.int j t1,.int 12 t2]):=F3.old ta _ hta hta2.1 hta2.2
 have hs3:=stF F3
 have nle:lo≠e:=Aaq hl3 he3 nofun
 have nld:lo≠dd:=Aaq hl3 hd3 (by show ¬ (Value.type "frame"=Value.type "dict");intro z;injection z with z;exact absurd z (by decide))
 have nlt:lo≠ta:=Aaq hl3 ht3 (by show ¬ (Value.type "frame"=Value.type "tuple");intro z;injection z with z;exact absurd z (by decide))
 have ned:e≠dd:=λz=>T.ddN.2 z.symm
 have stk:∀ {h h':Heap},Stat (Aa w.params) h->(∀ b o,h.get? b=some o->b≠lo->h'.get? b=some o)->Stat (Aa w.params) h':=λhs k a o e=>k a o (hs a o e) λz=>by rw [z,slo] at e;cases e
 -- odd is bound
 refine Jt (f:=λ_=>Flow.next) (K:=λy h=>y=.next/\(∀ b o,h3.get? b=some o->b≠lo->h.get? b=some o)/\∃ a3,h.get? lo=some (frRo w.params sl tl i a1 a2 it a3 e)) ?_ λ_ h4 t4 g4 hh=>?_
 ·rw [←Ahv]
  exact Ag7 (tl:=tl) (sl:=sl) (i:=i) (a1:=a1) (a2:=a2) (it:=it) A1 _ _ hA1 (hr1.le (Nat.le_refl _)) hs3 (al1 ⟨hl3,slo⟩) (List.pairwise_singleton _ lo) λnw tks h' t' a1' a2' a3' a4' a5'=>⟨_,h',t',rfl,rfl,a1',rfl,λb o hb hne=>a2' b o hb (al1 λz=>hne z.symm),_,a3' _ (.head _)⟩
 have k4:=hh.2.1
 obtain ⟨a3,hl4⟩:=hh.2.2
 have he4:=k4 _ _ he3 nle.symm
 have hd4:=k4 _ _ hd3 nld.symm
 have ht4:=k4 _ _ ht3 nlt.symm
 have hs4:=stk hs3 k4
 -- odd.at
 refine Jt (f:=λv=>Flow.ret v) (K:=λy h=>y=.ret (.ref ta)/\∀ b o,h4.get? b=some o->h.get? b=some o) ?_ λv h5 t5 g5 hh=>?_
 ·rw [←Abk]
  exact rf_lhs (tl:=tl) (d:=dd) (what:=what) (vs:=vs3) (sl:=sl) (i:=i) (a1:=a1) (a2:=a2) (it:=it) (a3:=a3) (b1:=b1) (b2:=b2) (b3:=b3) A1 _ _ hA1 (hr1.le (Nat.le_refl _)) hs4 (List.forall_mem_cons.2 ⟨⟨hl4,slo⟩,List.forall_mem_cons.2 ⟨⟨he4,se⟩,al1 ⟨hd4,sd⟩⟩⟩) (List.pairwise_cons.2 ⟨List.forall_mem_cons.2 ⟨nle,al1 nld⟩,List.pairwise_pair.2 ned⟩) λnw tks h' t' a1' a2' a3' a4' a5'=>⟨_,h',t',rfl,rfl,a1',rfl,λb o hb=>a2' b o hb λ_ hp=>(nomatch hp)⟩
 obtain rfl:=Flow.ret.inj hh.1
 have k5:=hh.2
 have hs5:=stk hs4 λb o hb _=>k5 b o hb
 -- the pair that is asked
 refine Jt (f:=λv=>Flow.ret v) (K:=λy h=>∃ nt u1 u2,y=.ret (.ref nt)/\(∀ b o,h5.get? b=some o->h.get? b=some o)/\h.get? nt=some (tupO [.int j u1,.int 12 u2])) ?_ λv h6 t6 g6 hh=>?_
 ·rw [←Abk]
  exact hrhs (sl:=sl) (a3:=a3) A1 _ _ hA1 (hr1.le (Nat.le_refl _)) hs5 (al1 ⟨k5 _ _ hl4,slo⟩) (List.pairwise_singleton _ lo) λnw tks h' t' a1' a2' a3' a4' a5'=>⟨_,h',t',rfl,rfl,a1',_,_,_,rfl,λb o hb=>a2' b o hb λ_ hp=>(nomatch hp),(a4' _ (.head _)).1⟩
 obtain ⟨nt,u1,u2,hv,k6,hn6⟩:=hh
 obtain rfl:=Flow.ret.inj hv
 have ht6:=k6 _ _ (k5 _ _ ht4)
 refine wpOwn_of_wpAny (eq_tupleAt (e:=λ_=>true) (items:=#[.int j t1,.int 12 t2]) (items2:=#[.int j u1,.int 12 u2]) ⟨_,ht6,rfl,_,rfl⟩ ⟨_,hn6,rfl,_,rfl⟩ ?_ (λk h1 h2=>?_) ?_)
 ·have h1:(A1.under (coH2 Aa w.params lo e)).units<=A1.units+uB (coH2 Aa w.params lo e):=Nat.add_le_add_left (Hq _) _
  have h2:uB (coH2 Aa w.params lo e)<=20:=by unfold uB;split<;>decide
  show (A1.under (coH2 Aa w.params lo e)).units < cLine
  omega
 ·match k,h1 with
  | 0,_=>simpa using EqAt.int_int j t1 j u1
  | 1,_=>exact EqAt.int_int 12 t2 12 u2
 refine ⟨.ret (.bool true),rfl,Xx ?_⟩
 have hs6:=stk hs5 λb o hb _=>k6 b o hb
 refine Jt (f:=λ_=>Flow.next) (K:=λy h=>y=.next/\∀ b o,h6.get? b=some o->b≠lo->h.get? b=some o) ?_ λ_ h7 t7 g7 hh=>?_
 ·rw [←Afk]
  exact rf_unb (e:=e) (tl:=tl) (sl:=sl) (i:=i) (a1:=a1) (a2:=a2) (it:=it) (a3:=a3) A _ _ [] hA (hr.le (show 20<=30 by decide)) hs6 (al1 ⟨k6 _ _ (k5 _ _ hl4),slo⟩) (List.pairwise_singleton _ lo) (λ_ h=>(nomatch h)) List.nodup_nil (λ_ _ _ h=>(nomatch h)) trivial λnw tks h' t' L a1' a2' a3' a4' a5' a6'=>⟨_,h',t',rfl,rfl,a1',rfl,λb o hb hne=>a2' b o hb (al1 λz=>hne z.symm)⟩
 have k7:=hh.2
 exact go h3 h7 t7 F3 (((g4.trans g5).trans g6).trans g7) λb o hb hne=>k7 _ _ (k6 _ _ (k5 _ _ (k4 _ _ hb hne))) hne
theorem Hz{toks:List T2}{t0:T2}{ts:List T2}{j:Nat}{i:Int}{x:Lw}{t tl cl nl:Nat}(htk:toks=t0::ts)(hlen:toks.length<=100)(hj:j < toks.length)(hR:Tn toks j)
  (hrhs:∀ {lo e tl:Addr}{sl:Array (Option Value)}{a1 a2 it a3:Tok},OkH w b (.ref e) (cRf4 Aa w.params lo e tl sl i (1+(j:Int)) a1 a2 it a3) (evlT (rfp Aa w.params).r (envF (Aa w.params) 598 lo)))(c:Code) :
  Jd (wZ w b) (Aa w.params) [lawE Aa w.params x.la x.pc] (cRfs Aa w.params x t tl cl nl i c) (λX=>Ab X (refs cl) (toks.map tokD)):=by
 intro A s R X hA hfr hr hst hpre hnod hX hXn hap hnd hgo
 have hla:=hpre _ (.head _)
 have htl:=hpre _ (.tail _ (.head _))
 refine Nk (Wd _) hst (by have:=hr.1;show A.depth < _;omega) ?_
 refine Ahl tl i (Aj c 1) A s R [] hA (hr.le (show 5<=150 by decide)) hst (λ_ h=>(nomatch h)) List.nodup_nil (λ_ h=>(nomatch h)) List.nodup_nil (λ_ _ _ h=>(nomatch h)) trivial λnw tks h1 t1 L g1 k1 _ n1 _ hL=>?_
 subst hL
 show codeAny (model prog (wZ w b)) A (coRf Aa w.params (cut 1 nw 0)) R _
 have n1:=n1 _ (.head _)
 have n1:h1.get? (cut 1 nw 0)=some (frRf w.params #[] tl i (cut 2 tks 0) (cut 2 tks 1) (Aj c 1))/\s.heap.get? (cut 1 nw 0)=none:=n1
 generalize cut 1 nw 0=lo at n1 ⊢
 generalize cut 2 tks 0=a1 at n1
 generalize cut 2 tks 1=a2 at n1
 have k1:∀ b o,s.heap.get? b=some o->h1.get? b=some o:=λb o hb=>k1 b o hb λ_ hp=>(nomatch hp)
 have ne1:∀ {b o},s.heap.get? b=some o->b≠lo:=λhb z=>by rw [z,n1.2] at hb;cases hb
 have stn:∀ {h:Heap}{a:Addr},Stat (Aa w.params) h->h.get? a=none->Aa w.params a=none:=λhs e=>by
  cases q:Aa w.params _ with
  | none=>rfl
  | some o=>rw [hs _ o q] at e;cases e
 have slo:=stn hst n1.2
 have hs1:Stat (Aa w.params) h1:=λa o e=>k1 a o (hst a o e)
 refine Jc ?_
 have hbody:Ae (Aa w.params 598)=[rfT w.params,(rfp Aa w.params).z]:=Ad7 w.params
 rw [show execs (Ae (Aa w.params 598)) (envF (Aa w.params) 598 lo)=execs [rfT w.params,(rfp Aa w.params).z] (envF (Aa w.params) 598 lo) from congrArg (λx=>execs x _) hbody]
 refine Cb (Q:=rfQ R) (E:=rfX (model prog (wZ w b)) A (coRf Aa w.params lo) (envF (Aa w.params) 598 lo) R) (Adb ?_)
 refine wpOwn_mono (Dh (R₁:=rfR (model prog (wZ w b)) A (coRf Aa w.params lo) (envF (Aa w.params) 598 lo) (rfHs w.params) (rfp Aa w.params).z R) (hr.le (show 1<=150 by decide)) ?_) (λ_ _ h=>h.elim) λ_ _ h=>h
 subst htk
 refine rf_try (t:=t0) (ts:=ts) (tl:=tl) (nl:=nl) (i:=i) (a1:=a1) (a2:=a2) (it:=Aj c 1) A _ _ X hA (hr.le (show 130<=150 by decide)) hs1 (List.forall_mem_cons.2 ⟨⟨n1.1,slo⟩,al1 ⟨k1 _ _ htl.1,htl.2⟩⟩) (List.pairwise_pair.2 λz=>ne1 htl.1 z.symm) (λp hp=>⟨k1 _ _ (hX p hp).1,(hX p hp).2⟩) hXn (List.forall_mem_cons.2 ⟨λq hq z=>ne1 (hX q hq).1 z.symm,al1 (hap _ (.tail _ (.head _)))⟩) ⟨Nat.le_trans hlen (by decide),hnd⟩ λnw tks h2 t2 L g2 k2 _ n2 d2 hL=>?_
 obtain ⟨ks,hk,hrf,hsub,hats⟩:=hL
 show codeAny (model prog (wZ w b)) ((A.under (coRf Aa w.params lo)).mark none) (.call (.ref 314) ⟨[.ref (cut 4 nw 0)],[]⟩) _ _
 obtain ⟨r,n2,d2,hv,hrd⟩:∃ r:Rdr,(∀ p∈(r.rd,Lo r.d)::(r.d,r.dict w.params 0 659)::(r.tl,Ac r.vs r.kl)::L,h2.get? p.1=some p.2/\h1.get? p.1=none)/\(((r.rd,Lo r.d)::(r.d,r.dict w.params 0 659)::(r.tl,Ac r.vs r.kl)::L).map (·.1)).Nodup/\r.vs=ks.map (λk=>.ref k.a)/\cut 4 nw 0=r.rd:=
  ⟨⟨cut 4 nw 0,cut 4 nw 1,cut 4 nw 2,cut 4 nw 3,cut 5 tks 0,cut 5 tks 1,cut 5 tks 2,3,cut 5 tks 4,refs (cut 5 tks 3)⟩,n2,d2,hrf,rfl⟩
 rw [hrd]
 have k2:∀ b o,h1.get? b=some o->h2.get? b=some o:=λb o hb=>k2 b o hb λ_ hp=>(nomatch hp)
 have hs2:Stat (Aa w.params) h2:=λa o e=>k2 a o (hs1 a o e)
 have hA2:((A.under (coRf Aa w.params lo)).mark none).handled=none:=hA
 have hfr2:((A.under (coRf Aa w.params lo)).mark none).frames=some (envs w.params [(598,lo)] x):=Co hfr
 have hfr1:(A.under (coRf Aa w.params lo)).frames=some (envs w.params [(598,lo)] x):=Co hfr
 have hr2:Room ((A.under (coRf Aa w.params lo)).mark none) 149:=Hb (n:=150) hr (by decide)
 generalize ((A.under (coRf Aa w.params lo)).mark none)=A2 at hA2 hfr2 hr2 ⊢
 simp only [List.map_cons,List.nodup_cons,List.mem_cons,not_or] at d2
 obtain ⟨⟨d1,d2,d3⟩,⟨d4,d5⟩,d6,d7⟩:=d2
 have m1:=n2 _ (.head _)
 have m2:=n2 _ (.tail _ (.head _))
 have m3:=n2 _ (.tail _ (.tail _ (.head _)))
 have mL:∀ p∈L,h2.get? p.1=some p.2/\h1.get? p.1=none:=λp hp=>n2 p (.tail _ (.tail _ (.tail _ hp)))
 have nd:∀ {b o},h1.get? b=some o->b≠r.d:=λhb z=>by rw [z,m2.2] at hb;cases hb
 have hsa:∀ a,a∈(Do w.params ks).map (·.1)->a∈L.map (·.1):=λa ha=>(hsub.map (·.1)).subset ha
 have B:Bas (Aa w.params) h2 r.d ((r.rd,Lo r.d)::(r.tl,Ac r.vs r.kl)::Do w.params ks):=by
  refine ⟨hs2,List.forall_mem_cons.2 ⟨⟨m1.1,stn hs1 m1.2,d1⟩,List.forall_mem_cons.2 ⟨⟨m3.1,stn hs1 m3.2,λz=>d4 z.symm⟩,λp hp=>?_⟩⟩,?_,stn hs1 m2.2,⟨_,m2.1⟩⟩
  ·have hp:=hsub.subset hp
   exact ⟨(mL p hp).1,stn hs1 (mL p hp).2,λz=>d5 (z▸List.mem_map_of_mem (f:=(·.1)) hp)⟩
  ·exact List.pairwise_cons.2 ⟨List.forall_mem_cons.2 ⟨d2,λq z (e:r.rd=q)=>d3 (e▸hsa _ z)⟩,List.nodup_cons.2 ⟨λz=>d6 (hsa _ z),(hsub.map (·.1)).nodup d7⟩⟩
 have kn0:Kn h2 r.d h2 [(r.d,r.dict w.params 0 659)]:=by
  exact ⟨λ_ _ h _=>h,al1 m2.1,al1 (.inl rfl),List.pairwise_singleton _ r.d,Be.refl _⟩
 refine Nk (Ma _) hs2 (by have:=hr2.1;omega) ?_
 refine Kn.useC (Ahk r.rd) B kn0 [] [] rfl List.nodup_nil (λ_ h=>(nomatch h)) rfl (λ_ h=>(nomatch h)) hA2 (hr2.le (show 5<=149 by decide)) λnw tks h3 t3 k3=>?_
 have k3:Kn h2 r.d h3 [(cut 1 nw 0,frR0 w.params (cut 1 tks 0) r.rd),(r.d,r.dict w.params 0 659)]:=k3
 show codeAny (model prog (wZ w b)) A2 (Bw Aa w.params (cut 1 nw 0)) _ _
 obtain ⟨kj,hkj⟩:∃ kj,ks[j]?=some kj:=by
  have:j < ks.length:=by have:=congrArg List.length hk;rw [List.length_map] at this;omega
  exact ⟨_,List.getElem?_eq_getElem this⟩
 have l1:=k1 _ _ hla.1
 have nla:x.la≠lo:=ne1 hla.1
 have hO:Lb w.params x h2 r.d [lo,x.la] [] [(598,lo)]:=by
  exact ⟨al1 ⟨Wd _,nla.symm,.inl ⟨.head _,nd n1.1,_,_,_,k2 _ _ n1.1⟩⟩,.tail _ (.head _),nd l1,t,k2 _ _ l1⟩
 refine hR (old:=[lo,x.la]) (x:=x) (ps:=[(598,lo)]) hA2 hfr2 (hr2.le (by decide)) hk hv hkj B k3 hO λh₁ e dd fs h' t' T=>⟨e,rfl,?_⟩
 refine Rb T.ok hfr1 T.fr rfl (.inr (.inl rfl)) T.fly λh4 F4=>Fy T.ok (f:=none) F4 λh5 F5=>?_
 have T5:=T.up T.fr (v':=.none) F5
 obtain ⟨u1,u2,hat⟩:=hats.at hkj
 have ha:=mL _ hat
 have nta:kj.ta≠r.d:=λz=>d5 (z▸List.mem_map_of_mem (f:=(·.1)) hat)
 have fsc:∀ b∈fs,b=lo\/b=x.la\/h2.get? b=none:=λb hb=>by
  rcases T.fsO b hb with h|h
  ·rcases mcm h with h|h
   ·exact .inl h
   ·exact .inr (.inl (msp h))
  ·exact .inr (.inr h)
 have hlof:lo∈fs:=by
  obtain ⟨_,L',o,h1,h2,_⟩:=T.fr.fr _ (.head _)
  have h1:some lo=some L':=h1
  injection h1 with h1
  exact h1▸h2
 refine Zz (i:=i) (j:=1+(j:Int)) (tl:=tl) (a1:=a1) (a2:=a2) (it:=Aj c 1) hA (hr.le (show 30<=150 by decide)) hrhs T5 (T.kept _ _ (k2 _ _ n1.1) (nd n1.1)) hlof nla slo (stn hs2 T.eN) ?_ (T.kept _ _ ha.1 nta) ⟨λz=>?_,λz=>?_⟩ (λa o e=>T.kept _ _ (hs2 a o e) λz=>?_) (λb hb=>?_) λh6 h' t' F6 g k=>?_
 ·rcases T.dn with z|z
  ·rw [z];exact B.dst
  ·exact stn hs2 z
 ·have:=T.eN
  rw [←z,ha.1] at this;cases this
 ·rcases fsc _ z with z|z|z
  ·have:=ha.2
   rw [z,n1.1] at this;cases this
  ·have:=ha.2
   rw [z,l1] at this;cases this
  ·rw [ha.1] at z;cases z
 ·have:=B.dst
  rw [←z,e] at this;cases this
 ·rcases fsc _ hb with z|z|z
  ·rw [z];exact slo
  ·rw [z];exact hla.2
  ·exact stn hs2 z
 ·obtain ⟨tt,hlaw⟩:=F6.law
  have hlaw:h6.get? x.la=some (lawF (slD Aa w.params x.la x.pc tt) x.es x.n):=hlaw
  have up:∀ b o,s.heap.get? b=some o->h₁.get? b=some o:=λb o hb=>T.kept _ _ (k2 _ _ (k1 _ _ hb)) (nd (k1 _ _ hb))
  refine hgo (λ_=>0) (λ_=>tt) h' t' (λb o hb=>?_) (λb o hb hne=>?_) (al1 (k _ _ hlaw nla)) (λ_ hp=>(nomatch hp)) List.nodup_nil
  ·obtain ⟨o',h7⟩:=F6.kept (up b o hb)
   exact g _ _ h7
  ·refine k b o (F6.old b o (up b o hb) (λz=>?_) λz=>?_) (ne1 hb)
   ·have:=T.eN
    rw [show e=b from z.symm,k2 _ _ (k1 _ _ hb)] at this;cases this
   ·rcases fsc _ z with z|z|z
    ·exact ne1 hb z
    ·exact hne _ (.head _) z.symm
    ·rw [k2 _ _ (k1 _ _ hb)] at z;cases z
end
end
noncomputable def cRfsL(st:SP)(P:Params)(x:Lw)(t tl:Nat)(l:List Addr)(nl:Nat)(i:Int)(c:Code):Con:=
 ⟨.call (.ref 598) ⟨[.ref tl,.int i (Aj c 1)],[]⟩,[(x.la,lawF (slD st P x.la x.pc t) x.es x.n),(tl,Ac (Fw l) nl)],[(x.la,λtk=>lawF (slD st P x.la x.pc (tk 0)) x.es x.n)],0,λ_ _=>[],1,λ_ _=>.ok (.ret (.bool true)),150⟩
noncomputable def cAddS(c1 n1:Nat)(l:List Addr)(n2:Nat)(cd:Code):Con:=
 ⟨.call (.builtin "list.__add__") ⟨[.ref (Af cd 0),.ref (Af cd 1)],[]⟩,[(Af cd 0,Ac (refs c1) n1),(Af cd 1,Ac (Fw l) n2)],[],1,λnw tk=>[(nw 0,Ac (refs (tk 0)) (tk 1))],2,λnw _=>.ok (.ret (.ref (nw 0))),1⟩
theorem Ai6{w:World}{st:Nat->Option Obj}(c1 n1:Nat)(l:List Addr)(n2:Nat)(cd:Code):Ad w st (cAddS c1 n1 l n2 cd) (λ_=>(refs c1).length+l.length<=5000) (λ_ tk L=>L=[]/\refs (tk 0)=refs c1++Fw l):=by
 obtain ⟨c2,h⟩:=Dm l
 have z:=Ay (w:=w) (st:=st) c1 n1 c2 n2 cd
 unfold Bm cAdd at z
 rw [h,show (Fw l).length=l.length by unfold Fw;rw [List.length_map]] at z
 exact z
noncomputable abbrev lwX(P:Params)(q:QL)(v:LV)(lo pc:Addr):Lw:=⟨lo,pc,lv6 P q v,6⟩
section
variable {w:World}{b:B3}{x:Lw}
noncomputable abbrev RfOk(w:World)(b:B3)(y:Con)(x:Lw)(need:List AO->Prop):Prop:=Jd (wZ w b) (Aa w.params) [lawE Aa w.params x.la x.pc] y need
theorem rfs_1(t tl:Nat)(l:List Addr)(nl:Nat)(c:Code):RfOk w b (cRfsL Aa w.params x t tl l nl 0 c) x (λX=>Ab X (Fw l) ([sg2 "."].map tokD)):=by
 obtain ⟨cl,h⟩:=Dm l
 have z:=Hz (w:=w) (b:=b) (x:=x) (t:=t) (tl:=tl) (cl:=cl) (nl:=nl) (toks:=[sg2 "."]) (t0:=sg2 ".") (ts:=[]) rfl (by decide) (by decide) Agf (i:=0) Zy c
 unfold cRfs at z
 rw [h] at z
 exact z
theorem rfs_2(t tl cl nl:Nat)(c:Code):RfOk w b (cRfs Aa w.params x t tl cl nl 0 c) x (λX=>Ab X (refs cl) ([l2 "a",w2 "BY",l2 "b"].map tokD)):=
 Hz (toks:=[l2 "a",w2 "BY",l2 "b"]) (t0:=l2 "a") (ts:=[w2 "BY",l2 "b"]) rfl (by simp) (by simp) Age (i:=0) Zy c
theorem rfs_3(t tl cl nl:Nat)(c:Code):RfOk w b (cRfs Aa w.params x t tl cl nl 2 c) x (λX=>Ab X (refs cl) ([w2 "ALL",l2 "a",l2 "b"].map tokD)):=
 Hz (toks:=[w2 "ALL",l2 "a",l2 "b"]) (t0:=w2 "ALL") (ts:=[l2 "a",l2 "b"]) rfl (by simp) (by simp) Agd (i:=2) Ag6 c
theorem rfs_4(t tl cl nl:Nat)(c:Code):RfOk w b (cRfs Aa w.params x t tl cl nl 5 c) x (λX=>Ab X (refs cl) ([w2 "FIRST",l2 "a",w2 "BY",l2 "b",l2 "a",sg2 "."].map tokD)):=
 Hz (toks:=[w2 "FIRST",l2 "a",w2 "BY",l2 "b",l2 "a",sg2 "."]) (t0:=w2 "FIRST") (ts:=[l2 "a",w2 "BY",l2 "b",l2 "a",sg2 "."]) rfl (by simp) (by simp) Agc (i:=5) Ag5 c
end
noncomputable def cRS(st:SP)(P:Params)(lo pc:Addr)(t:Nat)(q:QL)(v:LV)(k:LK):Con:=
 ⟨Ol st P lo pc,(lo,lawF (slD st P lo pc t) (lv6 P q v) 6)::Aat v k,[(lo,λtk=>lawF (slD st P lo pc (tk 0)) (lv6 P q v) 6)],0,λ_ _=>[],1,λ_ _=>.ok .next,165⟩

theorem law_p4{lo pc t:Nat}{q:QL}{v:LV}{k:LK}:OkR w b ([]) (cRS Aa w.params lo pc t q v k) (Cq (((lawB Aa w.params).drop 5).take 1) (lawE Aa w.params lo pc)) (Jv v k) (λ_ _ _=>True):=by
 let lZ:List (Fm w b):=[⟨λ_ _ c=>.framed [lawE Aa w.params lo pc] (cRfsL Aa w.params (lwX w.params q v lo pc) t v.st [k.stt] 0 0 c) (λX=>Ab X (Fw [k.stt]) ([sg2 "."].map tokD)),λ_ _ _=>rfs_1 (x:=lwX w.params q v lo pc) _ _ _ _ _⟩,Nw,⟨λA T c=>.full (cAdd k.ca k.na (T 4) (T 5) c) (λ_=>Bm k.ca (T 4)) (λ_ tk L=>L=[]/\refs (tk 0)=refs k.ca++refs (T 4)),λ_ _ c=>Ay _ _ _ _ c⟩,⟨λA T c=>.full (cAdd (T 6) (T 7) k.cb k.nb c) (λ_=>Bm (T 6) k.cb) (λ_ tk L=>L=[]/\refs (tk 0)=refs (T 6)++refs k.cb),λ_ _ c=>Ay _ _ _ _ c⟩,⟨λA T c=>.framed [lawE Aa w.params lo pc] (cRfs Aa w.params (lwX w.params q v lo pc) (T 1) (Af c 0) (T 9) (T 10) 0 c) (λX=>Ab X (refs (T 9)) ([l2 "a",w2 "BY",l2 "b"].map tokD)),λ_ _ _=>rfs_2 (x:=lwX w.params q v lo pc) _ _ _ _ _⟩,xW_ALL,⟨λA T c=>.full (cAdd (T 14) (T 15) k.ca k.na c) (λ_=>Bm (T 14) k.ca) (λ_ tk L=>L=[]/\refs (tk 0)=refs (T 14)++refs k.ca),λ_ _ c=>Ay _ _ _ _ c⟩,⟨λA T c=>.full (cAdd (T 17) (T 18) k.cb k.nb c) (λ_=>Bm (T 17) k.cb) (λ_ tk L=>L=[]/\refs (tk 0)=refs (T 17)++refs k.cb),λ_ _ c=>Ay _ _ _ _ c⟩,⟨λA T c=>.framed [lawE Aa w.params lo pc] (cRfs Aa w.params (lwX w.params q v lo pc) (T 12) (Af c 0) (T 20) (T 21) 2 c) (λX=>Ab X (refs (T 20)) ([w2 "ALL",l2 "a",l2 "b"].map tokD)),λ_ _ _=>rfs_3 (x:=lwX w.params q v lo pc) _ _ _ _ _⟩]
 refine oR ([]) lZ (⟨lo,lawF (slD Aa w.params lo pc t) (lv6 w.params q v) 6,true,false⟩::lkK v k) 128 0x1860062802402412812402402492461802011c11801801861851c00000c00c60060050470460060061860c00c4101103000080080082081000140080040 [] [23] (λal tk=>[(λX=>Ab X (Fw [k.stt]) ([sg2 "."].map tokD),λL=>L=[]),eW (tk 4) [tokD (w2 "BY")],eA (tk 6) k.ca (tk 4),eA (tk 9) (tk 6) k.cb,(λX=>Ab X (refs (tk 9)) ([l2 "a",w2 "BY",l2 "b"].map tokD),λL=>L=[]),eW (tk 14) [tokD (w2 "ALL")],eA (tk 17) (tk 14) k.ca,eA (tk 20) (tk 17) k.cb,(λX=>Ab X (refs (tk 20)) ([w2 "ALL",l2 "a",l2 "b"].map tokD),λL=>L=[])]) ?_ (λal tk X hX=>by have x0:=hX.2.2.2.2.1.get.1;have x1:=hX.2.2.2.2.2.get.1;simp only [List.length_cons,List.length_nil] at x0 x1;refine cS (.cons hX.2.2.2.1 .nil) λL0 h0=>?_;subst h0;refine cS trivial λL1 h1=>?_;have y1:=h1.get.1;simp only [List.length_cons,List.length_nil] at y1;refine cS (by show _+_<=5000;(try simp only [List.length_append]);omega) λL2 h2=>?_;obtain ⟨rfl,h2⟩:=h2;refine cS (by show _+_<=5000;rw [h2];(try simp only [List.length_append]);omega) λL3 h3=>?_;obtain ⟨rfl,h3⟩:=h3;refine cS (by rw [h3,h2];exact Ab.app (l:=[_,_]) (Ab.app (l:=[_]) (hX.2.2.2.2.1.mono λp hp=>by simp [hp]) (h1.mono λp hp=>by simp [hp])) (hX.2.2.2.2.2.mono λp hp=>by simp [hp])) λL4 h4=>?_;subst h4;refine cS trivial λL5 h5=>?_;have y5:=h5.get.1;simp only [List.length_cons,List.length_nil] at y5;refine cS (by show _+_<=5000;(try simp only [List.length_append]);omega) λL6 h6=>?_;obtain ⟨rfl,h6⟩:=h6;refine cS (by show _+_<=5000;rw [h6];(try simp only [List.length_append]);omega) λL7 h7=>?_;obtain ⟨rfl,h7⟩:=h7;refine cS (by rw [h7,h6];exact Ab.app (l:=[_,_]) (Ab.app (l:=[_]) (h5.mono λp hp=>by simp [hp]) (hX.2.2.2.2.1.mono λp hp=>by simp [hp])) (hX.2.2.2.2.2.mono λp hp=>by simp [hp])) λL8 h8=>cZ ?_;subst h8;trivial)<;>intros<;>kernel_rfl
theorem law_p6{lo pc t:Nat}{q:QL}{v:LV}{k:LK}:OkR w b ([]) (cRS Aa w.params lo pc t q v k) (Cq (((lawB Aa w.params).drop 6).take 1) (lawE Aa w.params lo pc)) (Jv v k) (λ_ _ _=>True):=by
 let lZ:List (Fm w b):=[Acm,⟨λA T c=>.full (cAdd (T 1) (T 2) k.ca k.na c) (λ_=>Bm (T 1) k.ca) (λ_ tk L=>L=[]/\refs (tk 0)=refs (T 1)++refs k.ca),λ_ _ c=>Ay _ _ _ _ c⟩,Nw,⟨λA T c=>.full (cAdd (T 9) (T 10) k.cb k.nb c) (λ_=>Bm (T 9) k.cb) (λ_ tk L=>L=[]/\refs (tk 0)=refs (T 9)++refs k.cb),λ_ _ c=>Ay _ _ _ _ c⟩,⟨λA T c=>.full (cAdd (T 12) (T 13) k.ca k.na c) (λ_=>Bm (T 12) k.ca) (λ_ tk L=>L=[]/\refs (tk 0)=refs (T 12)++refs k.ca),λ_ _ c=>Ay _ _ _ _ c⟩,⟨λA T c=>.full (cAddS (T 15) (T 16) [k.stt] 0 c) (λ_=>(refs (T 15)).length+[k.stt].length<=5000) (λ_ tk L=>L=[]/\refs (tk 0)=refs (T 15)++Fw [k.stt]),λ_ _ c=>Ai6 _ _ _ _ c⟩,xA 4 5 7 8,⟨λA T c=>.framed [lawE Aa w.params lo pc] (cRfs Aa w.params (lwX w.params q v lo pc) t (Af c 0) (T 17) (T 18) 5 c) (λX=>Ab X (refs (T 17)) ([w2 "FIRST",l2 "a",w2 "BY",l2 "b",l2 "a",sg2 "."].map tokD)),λ_ _ _=>rfs_4 (x:=lwX w.params q v lo pc) _ _ _ _ _⟩]
 refine oR ([]) lZ (⟨lo,lawF (slD Aa w.params lo pc t) (lv6 w.params q v) 6,true,false⟩::lkK v k) 107 0x1c70072402c01c13011c70060480470070071c71880050490480080082081400480810840000c00c11010c00c00c30c2080000 [] [20] (λal tk=>[eW (tk 1) [tokD (w2 "FIRST")],eA (tk 4) (tk 1) k.ca,eW (tk 7) [tokD (w2 "BY")],eA (tk 9) (tk 4) (tk 7),eA (tk 12) (tk 9) k.cb,eA (tk 15) (tk 12) k.ca,(λ_=>(refs (tk 15)).length+[k.stt].length<=5000,λL=>L=[]/\refs (tk 17)=refs (tk 15)++Fw [k.stt]),(λX=>Ab X (refs (tk 17)) ([w2 "FIRST",l2 "a",w2 "BY",l2 "b",l2 "a",sg2 "."].map tokD),λL=>L=[])]) ?_ (λal tk X hX=>by have x0:=hX.2.2.2.2.1.get.1;have x1:=hX.2.2.2.2.2.get.1;simp only [List.length_cons,List.length_nil] at x0 x1;refine cS trivial λL0 h0=>?_;have y0:=h0.get.1;simp only [List.length_cons,List.length_nil] at y0;refine cS (by show _+_<=5000;(try simp only [List.length_append]);omega) λL1 h1=>?_;obtain ⟨rfl,h1⟩:=h1;refine cS trivial λL2 h2=>?_;have y2:=h2.get.1;simp only [List.length_cons,List.length_nil] at y2;refine cS (by show _+_<=5000;rw [h1];(try simp only [List.length_append]);omega) λL3 h3=>?_;obtain ⟨rfl,h3⟩:=h3;refine cS (by show _+_<=5000;rw [h3,h1];(try simp only [List.length_append]);omega) λL4 h4=>?_;obtain ⟨rfl,h4⟩:=h4;refine cS (by show _+_<=5000;rw [h4,h3,h1];(try simp only [List.length_append]);omega) λL5 h5=>?_;obtain ⟨rfl,h5⟩:=h5;refine cS (by rw [h5,h4,h3,h1];simp only [List.length_append,List.length_cons,List.length_nil];omega) λL6 h6=>?_;obtain ⟨rfl,h6⟩:=h6;refine cS (by rw [h6,h5,h4,h3,h1];exact Ab.app (l:=[_,_,_,_,_]) (Ab.app (l:=[_,_,_,_]) (Ab.app (l:=[_,_,_]) (Ab.app (l:=[_,_]) (Ab.app (l:=[_]) (h0.mono λp hp=>by simp [hp]) (hX.2.2.2.2.1.mono λp hp=>by simp [hp])) (h2.mono λp hp=>by simp [hp])) (hX.2.2.2.2.2.mono λp hp=>by simp [hp])) (hX.2.2.2.2.1.mono λp hp=>by simp [hp])) (.cons (hX.2.2.2.1.mono λp hp=>by simp [hp]) .nil)) λL7 h7=>cZ ?_;subst h7;trivial)<;>intros<;>kernel_rfl
noncomputable def cLawC(P:Params)(sc:Addr):Con:=⟨.call (.ref 603) ⟨[.ref sc],[]⟩,[],[],2,λnw tk=>[(nw 0,lawF #[] [ent P "script" (tk 0) (.ref sc)] 1),(nw 1,Gn none)],1,λ_ _=>.ok .next,5⟩

theorem Ae8(sc:Addr):OkC w b (cLawC w.params sc) (Yr (Aa w.params) 603 ⟨[.ref sc],[]⟩) (λnw _=>.func (lawB Aa w.params) (lawE Aa w.params (nw 0) (nw 1))) false tT nL:=by
 let lZ:List (Fm w b):=[]
 refine oC lZ ([]) 18 0x1081080 [0,1] [0] (λal tk=>[]) ?_ (λal tk X hX=>cZ rfl)<;>intros<;>kernel_rfl
theorem Xn:∀ (ux:List Nat){V X U:List AO},(∀ i∈ux,i < V.length)->Fh (V++X) ux U=Fh V ux U++X:=by
 intro ux
 induction ux with
 | nil=>intro V X U _;cases U<;>rfl
 | cons i ux ih=>
  intro V X U h
  cases U with
  | nil=>rfl
  | cons u U=>
   show Fh ((V++X).set i u) ux U=Fh (V.set i u) ux U++X
   rw [List.set_append_left _ _ (h i (.head _)),ih λj hj=>by rw [List.length_set];exact h j (.tail _ hj)]
theorem Adr{V X:List AO}{i:Nat}(h:i < V.length):(V++X).getD i dAO=V.getD i dAO:=by
 rw [List.getD_eq_getElem?_getD,List.getD_eq_getElem?_getD,List.getElem?_append_left h]
theorem Kn.split{h₀ h:Heap}{d:Addr}{V X:List AO}(k:Kn h₀ d h (V++X))(ix jx:List Nat)(hn:(ix++jx).Nodup)(hl:∀ i∈ix++jx,i < V.length):Kn h₀ d h (pick V ix++(pick V jx++X)):=by
 have e:pick V ix++(pick V jx++X)=pick V (ix++jx)++X:=by unfold pick;rw [List.map_append,List.append_assoc]
 rw [e]
 have hm:∀ p∈pick V (ix++jx)++X,p∈V++X:=λp hp=>by
  rcases List.mem_append.mp hp with hp|hp
  ·exact mai ((Fi hl p hp))
  ·exact maj (hp)
 refine ⟨k.kept,λp hp=>k.own p (hm p hp),λp hp=>k.dir p (hm p hp),?_,k.grown⟩
 have hnod:=k.nod
 rw [List.map_append,List.nodup_append] at hnod ⊢
 refine ⟨Dx hnod.1 hn hl,hnod.2.1,λa ha b hb=>?_⟩
 obtain ⟨p,hp,rfl⟩:=mmp ha
 exact hnod.2.2 _ (List.mem_map_of_mem (f:=(·.1)) (Fi hl p hp)) b hb
section
variable {w:World}{b:B3}{A:Around}{s:Shared}{R:Result->Shared->Prop}
theorem Bg{st:Nat->Option Obj}{fl:List Env}{x:Con}{t:Sem Fin}{need:List AO->Prop}{also:AL}(h:Cm w st x t need also):Jq w st fl x t need also:=
 λA s R X h1 _ h3 h4 h5 h6 h7 h8 h9 h10 h11=>h A s R X h1 h3 h4 h5 h6 h7 h8 h9 h10 h11
theorem Kn.useR{st:Nat->Option Obj}{h₀:Heap}{d:Addr}{V X:List AO}{fl:List Env}{x:Con}{t:Sem Fin}{need:List AO->Prop}{also:AL}(hx:Jq w st fl x t need also)(B:Bas st h₀ d [])(k:Kn h₀ d s.heap (V++X))(ix ux:List Nat)
  (hp:x.pre=pick V ix)(hi:ix.Nodup)(hil:∀ i∈ix,i < V.length)(hu:x.upd.map (·.1)=ux.map λi=>(V.getD i dAO).1)(hul:∀ i∈ux,i < V.length)(hA:A.handled=none)(hfr:A.frames=some fl)(hr:Room A x.deep)(hn:need X)
  (go:∀ nw tks h' t' L,Kn h₀ d h' ((x.post (cut x.n nw) (cut x.nt tks)++Fh V ux (Ce x.upd (cut x.nt tks)))++(X++L))->also (cut x.n nw) (cut x.nt tks) L->R (x.res (cut x.n nw) (cut x.nt tks)) { s with heap:=h',toks:=t' }) :
  wpOwn (model prog w) A x.code t (plus (postC prog w A R)) (postE R) s:=by
 have hnod:=k.nod
 rw [List.map_append,List.nodup_append] at hnod
 have hown:∀ p∈V++X,s.heap.get? p.1=some p.2/\st p.1=none:=λp hp=>⟨k.own p hp,B.knone (k.dir p hp)⟩
 have hul':∀ i∈ux,i < (V++X).length:=λi hi=>by rw [List.length_append];have:=hul i hi;omega
 refine hx A s R X hA hfr hr (B.kstat k) (λp hpm=>hown p (mai ((Fi hil p (hp▸hpm))))) (by rw [hp];exact Dx hnod.1 hi hil) (λp hpm=>hown p (maj (hpm))) hnod.2.1 (λp hpm q hq=>hnod.2.2 _ (List.mem_map_of_mem (f:=(·.1)) (Fi hil p (hp▸hpm))) _ (List.mem_map_of_mem (f:=(·.1)) hq)) hn λnw tks h' t' L a1 a2 a3 a4 a5 a6=>?_
 have z:=k.after (N:=x.post (cut x.n nw) (cut x.nt tks)++L) ux (by rw [Fs,hu];exact List.map_congr_left λi hi=>by rw [Adr (hul i hi)]) hul' a1 (λb o hb hn=>a2 b o hb λp hp z=>(by
  have:p.1∈x.upd.map (·.1):=List.mem_map_of_mem (f:=(·.1)) hp
  rw [←Fs (tk:=cut x.nt tks)] at this
  obtain ⟨q,hq,e⟩:=mmp this
  exact hn q hq (e.trans z))) a3 a4 a5
 rw [Xn ux hul] at z
 refine go nw tks h' t' L (z.perm ?_) a6
 rw [List.append_assoc,List.append_assoc]
 refine List.Perm.append_left _ ?_
 refine List.perm_append_comm.trans ?_
 rw [List.append_assoc]
theorem Abm(l:List Stmt)(i:Nat):(l.drop i).take 1++l.drop (i+1)=l.drop i:=by
 have:=List.take_append_drop 1 (l.drop i)
 rwa [List.drop_drop] at this
end
section
variable {w:World}{b:B3}{A:Around}{s:Shared}{R:Result->Shared->Prop}
theorem Abi{M:Model}{c:Code}{env:Env}{Q:Flow->Shared->Prop}{E:Value->Shared->Prop}{l:List Stmt}(i:Nat)(h:wpOwn M A c (execs (l.take i++l.drop i) env) Q E s):wpOwn M A c (execs l env) Q E s:=by rwa [List.take_append_drop] at h
theorem Ga{M:Model}{c:Code}{env:Env}{Q:Flow->Shared->Prop}{E:Value->Shared->Prop}{l:List Stmt}(i:Nat)(h:wpOwn M A c (execs ((l.drop i).take 1++l.drop (i+1)) env) Q E s):wpOwn M A c (execs (l.drop i) env) Q E s:=by rwa [Abm] at h
noncomputable abbrev vEnd(P:Params)(lo pc sc:Addr)(sl:Array (Option Value))(q:QL)(v:LV)(x:Pen)(s':St)(t u so cs ns:Nat)(o:Obj)(vs:List Value)(n:Nat):List AO:=
 [(x.pl,x.o s' t u),(x.cl,x.c),(lo,lawF sl (lv7 P q v so) 7),(pc,Gn (some (.ref x.pl))),(so,Ac (refs cs) ns),(v.st,o),(sc,Ac vs n)]
theorem Agu{h₀:Heap}{lo pc sc n N:Nat}{sl:Array (Option Value)}{q:QL}{v:LV}{x:Pen}{s':St}{t u so cs ns stt:Nat}{vs:List Value}{X:List AO}{sorts:List Cl}{E:Value->Shared->Prop}(hA:A.handled=none)(hfr:A.frames=some [])(hr:Room A 190)(hx:x.Good)(hs:s'.Inv N)(hN:N<=2 ^ 59)
  (hfine:∀ o∈sorts,Et o)(hne:sorts≠[])(hfew:sorts.length<=3)(B:Bas (Aa w.params) h₀ sc [])(hsc:h₀.get? sc=some (Ac vs n))(k:Kn h₀ sc s.heap (vEnd w.params lo pc sc sl q v x s' t u so cs ns (Ac [.ref stt] 0) vs n++X))
  (h1:Ab X (refs cs) (sorts.map Az))(h2:DatV X (.ref stt) (tokD (sg2 ".")))(go:∀ h' t',(∀ b o,h₀.get? b=some o->h'.get? b=some o)->R (.ok (.ret (.bool true))) { s with heap:=h',toks:=t' }) :
  wpOwn (model prog (wZ w b)) A (Ol Aa w.params lo pc) (execs ((lawB Aa w.params).drop 9) (lawE Aa w.params lo pc)) (λf s'=>R (.ok (.ret (match f with|.ret v=>v | _=>.none))) s') E s:=by
 obtain ⟨cb,hcb⟩:=Dm [stt]
 have e:Ac [.ref stt] 0=Ac (refs cb) 0:=by rw [hcb];rfl
 rw [e] at k
 have hX:Ab X (refs cs) (sorts.map Az)/\Ab X (refs cb) ([sg2 "."].map tokD):=⟨h1,by rw [hcb];exact .cons h2 .nil⟩
 have hR:∀ {bt:List T2},(∀ ls:List Tk,ls.map Tk.pw=bt->Nv false ls)->bt.length<=10->Fe sorts bt:=λh hl=>⟨hfine,hne,hfew,⟨false,h,λz=>nomatch z⟩,hl⟩
 have hb:=Ct (x:=x) (s:=s') Dp
 have c0:x.dig s' 4=0\/x.dig s' 4=1\/x.dig s' 4=2\/x.dig s' 4=3:=by omega
 refine wpOwn_mono (Dh (R₁:=λr s₁=>r=.ok (.ret (.bool true))/\∃ h' t',s₁={ s with heap:=h',toks:=t' }/\∀ b o,h₀.get? b=some o->h'.get? b=some o) (hr.le (by decide)) ?_) (λf s₁ h=>?_) λ_ _ h=>by cases h.1
 ·have kept:∀ {h':Heap}{o1 o2 o3:Obj}{Y:List AO},Kn h₀ sc h' ([(x.pl,o1),(x.cl,x.c),(lo,o2),(pc,Gn (some (.ref x.pl))),(so,Ac (refs cs) ns),(v.st,o3),(sc,Ac vs n)]++Y)->∀ b o,h₀.get? b=some o->h'.get? b=some o:=λk b o hb=>by
   by_cases z:b=sc
   ·subst z
    rw [hsc] at hb
    rw [←hb]
    exact k.own (b,Ac vs n) (mai ((.tail _ (.tail _ (.tail _ (.tail _ (.tail _ (.tail _ (.head _)))))))))
   ·exact k.kept b o hb z
  rcases c0 with h0|h0|h0|h0
  ·exact Kn.useR (Bg (end_0 hx hs hN h0 (hR (Wm false) (by simp)))) B k [0,1,2,3,4,5] [0,2] rfl (by decide) (lA rfl) rfl (lA rfl) hA hfr (hr.le (show 170<=190 by decide)) hX λnw tks h' t' L k' _=>⟨rfl,h',t',rfl,kept k'⟩
  ·exact Kn.useR (Bg (end_1 hx hs hN h0 (hR (Abl false) (by simp)))) B k [0,1,2,3,4,5] [0,2] rfl (by decide) (lA rfl) rfl (lA rfl) hA hfr (hr.le (show 170<=190 by decide)) hX λnw tks h' t' L k' _=>⟨rfl,h',t',rfl,kept k'⟩
  ·exact Kn.useR (Bg (end_2 hx hs hN h0 (hR (Us false) (by simp)))) B k [0,1,2,3,4,5] [0,2] rfl (by decide) (lA rfl) rfl (lA rfl) hA hfr (hr.le (show 170<=190 by decide)) hX λnw tks h' t' L k' _=>⟨rfl,h',t',rfl,kept k'⟩
  ·exact Kn.useR (Bg (end_3 hx hs hN h0 (hR (Ae3 false) (by simp)))) B k [0,1,2,3,4,5] [0,2] rfl (by decide) (lA rfl) rfl (lA rfl) hA hfr (hr.le (show 170<=190 by decide)) hX λnw tks h' t' L k' _=>⟨rfl,h',t',rfl,kept k'⟩
 ·obtain ⟨h3,h',t',rfl,hk⟩:=h
  injection h3 with h3
  subst h3
  exact go h' t' hk
noncomputable abbrev vLaw(P:Params)(lo pc sc:Addr)(t:Nat)(cell:Option Value)(q:QL)(v:LV)(k:LK)(vs:List Value)(n:Nat):List AO:=(lo,lawF (slD Aa P lo pc t) (lv6 P q v) 6)::(pc,Gn cell)::(sc,Ac vs n)::Aat v k
theorem Agt{h₀:Heap}{lo pc sc n N:Nat}{sl:Array (Option Value)}{q:QL}{v:LV}{k:LK}{x:Pen}{s':St}{t u:Nat}{vs:List Value}{X:List AO}{E:Value->Shared->Prop}(hA:A.handled=none)(hfr:A.frames=some [])(hr:Room A 190)(hx:x.Good)(hs:s'.Inv N)(hN:N<=2 ^ 50)
  (B:Bas (Aa w.params) h₀ sc [])(hsc:h₀.get? sc=some (Ac vs n))(kn:Kn h₀ sc s.heap (((x.pl,x.o s' t u)::(x.cl,x.c)::(lo,lawF sl (lv6 w.params q v) 6)::(pc,Gn (some (.ref x.pl)))::(sc,Ac vs n)::Aat v k)++X))(hX:Jv v k X)
  (go:∀ h' t',(∀ b o,h₀.get? b=some o->h'.get? b=some o)->R (.ok (.ret (.bool true))) { s with heap:=h',toks:=t' }) :
  wpOwn (model prog (wZ w b)) A (Ol Aa w.params lo pc) (execs ((lawB Aa w.params).drop 8) (lawE Aa w.params lo pc)) (λf s'=>R (.ok (.ret (match f with|.ret v=>v | _=>.none))) s') E s:=by
 have hb:=Ct (x:=x) (s:=s') Ik
 have c0:x.dig s' 3=0\/x.dig s' 3=1\/x.dig s' 3=2:=by omega
 have i1:=Am hx hs Ik
 have hp:(2:Nat) ^ 50+1000<=2 ^ 59:=by decide
 obtain ⟨s2,o1,j2,f1,g1⟩:=Qe hx i1 (by omega)
 obtain ⟨s3,o2,j3,f2,g2⟩:=Qe hx j2 (by omega)
 obtain ⟨s4,o3,j4,f3,g3⟩:=Qe hx j3 (by omega)
 have fin:∀ {sorts:List Cl}{s5:St}{N5 t5:Nat}{h5:Heap}{t6 u6 so cs ns k7:Nat}{L:List AO},s5.Inv N5->N5<=2 ^ 59->(∀ o∈sorts,Et o)->sorts≠[]->sorts.length<=3->Ab L (refs cs) (sorts.map Az)->
   Kn h₀ sc h5 (((so,Ac (refs cs) ns)::(x.pl,x.o s5 t6 u6)::(x.cl,x.c)::(lo,lawF sl (lv7 w.params { q with k7:=k7 } v so) 7)::(pc,Gn (some (.ref x.pl)))::(sc,Ac vs n)::Aat v k)++(X++L))->
   wpOwn (model prog (wZ w b)) A (Ol Aa w.params lo pc) (execs ((lawB Aa w.params).drop 9) (lawE Aa w.params lo pc)) (λf s'=>R (.ok (.ret (match f with|.ret v=>v | _=>.none))) s') E { s with heap:=h5,toks:=t5 }:=λ{sorts s5 N5 t5 h5 t6 u6 so cs ns k7 L} hs5 hN5 hf hne hfew hd k5=>by
  have k6:=k5.split [1,2,3,4,0,10,5] [] (by decide) (λi hi=>by
   have:i < 12:=by revert i;decide
   exact this)
  exact Agu (x:=x) (sorts:=sorts) hA hfr hr hx hs5 hN5 hf hne hfew B hsc k6 hd.right (hX.2.2.2.1.left) λh' t' hk=>go h' t' hk
 refine Ga 8 (Cy (hr.le (by decide)) ?_)
 rcases c0 with h0|h0|h0
 ·refine Kn.useR (Bg (sts_0 (s3:=s3) (s4:=s4) (o2:=o2) (o3:=o3) hx hs (by omega) h0 λt u=>g1 t u)) B kn [0,1,2,3] [0,2] rfl (by decide) (lA rfl) rfl (lA rfl) hA hfr (hr.le (show 160<=190 by decide)) trivial λnw tks h' t' L k' hL=>fin (sorts:=[o1]) (k7:=cut 6 tks 2) j2 (by omega) (λo ho=>?_) (by simp) (by simp) hL k'
  rcases mcm ho with rfl|ho
  ·exact f1
  ·cases ho
 ·refine Kn.useR (Bg (sts_1 (s4:=s4) (o3:=o3) hx hs (by omega) h0 (λt u=>g1 t u) λt u=>g2 t u)) B kn [0,1,2,3] [0,2] rfl (by decide) (lA rfl) rfl (lA rfl) hA hfr (hr.le (show 160<=190 by decide)) trivial λnw tks h' t' L k' hL=>fin (sorts:=[o1,o2]) (k7:=cut 6 tks 2) j3 (by omega) (λo ho=>?_) (by simp) (by simp) hL k'
  rcases mcm ho with rfl|ho
  ·exact f1
  ·rcases mcm ho with rfl|ho
   ·exact f2
   ·cases ho
 ·refine Kn.useR (Bg (sts_2 hx hs (by omega) h0 (λt u=>g1 t u) (λt u=>g2 t u) λt u=>g3 t u)) B kn [0,1,2,3] [0,2] rfl (by decide) (lA rfl) rfl (lA rfl) hA hfr (hr.le (show 160<=190 by decide)) trivial λnw tks h' t' L k' hL=>fin (sorts:=[o1,o2,o3]) (k7:=cut 6 tks 2) j4 (by omega) (λo ho=>?_) (by simp) (by simp) hL k'
  rcases mcm ho with rfl|ho
  ·exact f1
  ·rcases mcm ho with rfl|ho
   ·exact f2
   ·rcases mcm ho with rfl|ho
    ·exact f3
    ·cases ho
theorem Agp{tk:Nat->Tok}{L:List AO}(h:Af8 tk L){q1:Addr}:Jv ⟨q1,tk 3,tk 0,tk 6,tk 8,tk 11⟩ ⟨tk 1,tk 2,tk 18,tk 19,tk 4,tk 5,tk 20,tk 21,tk 7,tk 12,tk 15⟩ (pick (Aad tk) [5,6,7,8,10,11,12,13,14,15]++L):=by
 obtain ⟨h1,h2,h3,h4,h5,h6,h7⟩:=h
 have e:pick (Aad tk) [5,6,7,8,10,11,12,13,14,15]=[(tk 7,tupO [.str "sign" (tk 22),.str "." (tk 23)]),(tk 8,tupO [.ref (tk 9),.ref (tk 10)]),(tk 9,Ac (refs (tk 24)) (tk 25)),(tk 10,tupO [.str "CHARACTERS" (tk 26),.none,.ref (tk 5),.none,.none]),(tk 12,tupO [.ref (tk 13),.ref (tk 14)]),(tk 13,Ac (refs (tk 27)) (tk 28)),(tk 14,tupO [.str "ALL" (tk 29),.ref (tk 2),.ref (tk 5),.none,.none]),(tk 15,tupO [.ref (tk 16),.ref (tk 17)]),(tk 16,Ac (refs (tk 30)) (tk 31)),(tk 17,tupO [.str "ALL" (tk 32),.ref (tk 5),.ref (tk 2),.none,.none])]:=rfl
 rw [e]
 have m:∀ {Z:List AO},∀ p∈L,p∈Z++L:=λp hp=>maj (hp)
 refine ⟨.tup (.tail _ (.head _)) (.cons (.lst (.tail _ (.tail _ (.head _))) (h5.mono m)) (.cons (.tup (.tail _ (.tail _ (.tail _ (.head _)))) (.cons .str (.cons .none (.cons (h4.mono m) (.cons .none (.cons .none .nil)))))) .nil)),
  .tup (.tail _ (.tail _ (.tail _ (.tail _ (.head _))))) (.cons (.lst (.tail _ (.tail _ (.tail _ (.tail _ (.tail _ (.head _)))))) (h6.mono m)) (.cons (.tup (.tail _ (.tail _ (.tail _ (.tail _ (.tail _ (.tail _ (.head _))))))) (.cons .str (.cons (h2.mono m) (.cons (h4.mono m) (.cons .none (.cons .none .nil)))))) .nil)),
  .tup (.tail _ (.tail _ (.tail _ (.tail _ (.tail _ (.tail _ (.tail _ (.head _)))))))) (.cons (.lst (.tail _ (.tail _ (.tail _ (.tail _ (.tail _ (.tail _ (.tail _ (.tail _ (.head _))))))))) (h7.mono m)) (.cons (.tup (.tail _ (.tail _ (.tail _ (.tail _ (.tail _ (.tail _ (.tail _ (.tail _ (.tail _ (.head _)))))))))) (.cons .str (.cons (h4.mono m) (.cons (h2.mono m) (.cons .none (.cons .none .nil)))))) .nil)),
  .tup (.head _) (.cons .str (.cons .str .nil)),h1.mono m,h3.mono m⟩
theorem law_ok{sc n:Nat}{vs:List Value}(hA:A.handled=none)(hfr:A.frames=some [])(hr:Room A 200)(hst:Stat (Aa w.params) s.heap)(hsc:s.heap.get? sc=some (Ac vs n))(ssc:Aa w.params sc=none)(hlen:vs.length<=63)(hi:Ll vs)
  (go:∀ h' t',(∀ b o,s.heap.get? b=some o->h'.get? b=some o)->R (.ok (.ret (.bool true))) { s with heap:=h',toks:=t' }):codeAny (model prog (wZ w b)) A (.call (.ref 603) ⟨[.ref sc],[]⟩) R s:=by
 have B:Bas (Aa w.params) s.heap sc []:=⟨hst,λ_ h=>(nomatch h),List.nodup_nil,ssc,⟨_,hsc⟩⟩
 have k0:Kn s.heap sc s.heap [(sc,Ac vs n)]:=by
  refine ⟨λ_ _ h _=>h,λp hp=>?_,λp hp=>?_,by simp,Be.refl _⟩
  ·obtain rfl:=msp hp;exact hsc
  ·obtain rfl:=msp hp;exact .inl rfl
 refine Nk (Wc _) hst (by have:=hr.1;omega) ?_
 refine Kn.useC (Ae8 sc) B k0 [] [] rfl List.nodup_nil (λ_ h=>(nomatch h)) rfl (λ_ h=>(nomatch h)) hA (hr.le (show 5<=200 by decide)) λnw tks h1 t1 k1=>?_
 have k1:Kn s.heap sc h1 ([(cut 2 nw 0,lawF #[] [ent w.params "script" (cut 1 tks 0) (.ref sc)] 1),(cut 2 nw 1,Gn none),(sc,Ac vs n)]++[]):=k1
 show codeAny (model prog (wZ w b)) A (Ol Aa w.params (cut 2 nw 0) (cut 2 nw 1)) R _
 generalize cut 2 nw 0=lo at k1 ⊢
 generalize cut 2 nw 1=pc at k1 ⊢
 generalize cut 1 tks 0=q1 at k1
 have hr1:Room A 1:=hr.le (by decide)
 refine Jc (Abi 3 (Cy hr1 ?_))
 refine Kn.useR (Bg (law_p1 (lo:=lo) (pc:=pc) (sc:=sc) (k1:=q1))) B k1 [0] [0] rfl (by decide) (lA rfl) rfl (lA rfl) hA hfr (hr.le (show 60<=200 by decide)) trivial λnw tks h2 t2 L k2 hL=>?_
 obtain ⟨q,v,k,X,k2,hX,hv⟩:∃ q v k X,Kn s.heap sc h2 (vLaw w.params lo pc sc 0 none q v k vs n++X)/\Jv v k X/\v.sc=sc:=by
  refine ⟨_,_,_,_,k2.split [16,17,18,0,1,2,3,4,9] [5,6,7,8,10,11,12,13,14,15] (by decide) (λi hi=>?_),Agp hL,rfl⟩
  have:i < 19:=by revert i;decide
  exact this
 have hs0:=hsc
 refine Ga 3 (Cy hr1 ?_)
 refine Kn.useR (Bg (law_p2 (sl:=slD Aa w.params lo pc 0))) B k2 [0,3,4,5,6,7,8] [] rfl (by decide) (lA rfl) rfl (lA rfl) hA hfr (hr.le (show 165<=200 by decide)) hX λnw tks h3 t3 L k3 _=>?_
 have hX:=Gj (Y:=X++L) (λp hp=>mai (hp)) hX
 have k3:Kn s.heap sc h3 (vLaw w.params lo pc sc 0 none q v k vs n++(X++L)):=k3
 generalize X++L=X at k3 hX
 refine Ga 4 (Cy hr1 ?_)
 refine Kn.useR (Bg (law_p3 (sl:=slD Aa w.params lo pc 0))) B k3 [0,3,4,5,6,7,8] [] rfl (by decide) (lA rfl) rfl (lA rfl) hA hfr (hr.le (show 165<=200 by decide)) hX λnw tks h4 t4 L k4 _=>?_
 have hX:=Gj (Y:=X++L) (λp hp=>mai (hp)) hX
 have k4:Kn s.heap sc h4 (vLaw w.params lo pc sc 0 none q v k vs n++(X++L)):=k4
 generalize X++L=X at k4 hX
 refine Ga 5 (Cy hr1 ?_)
 refine Kn.useR law_p4 B k4 [0,3,4,5,6,7,8] [0] rfl (by decide) (lA rfl) rfl (lA rfl) hA hfr (hr.le (show 165<=200 by decide)) hX λnw tks h5 t5 L k5 _=>?_
 have hX:=Gj (Y:=X++L) (λp hp=>mai (hp)) hX
 have k5:Kn s.heap sc h5 (vLaw w.params lo pc sc (cut 1 tks 0) none q v k vs n++(X++L)):=k5
 generalize X++L=X at k5 hX
 generalize cut 1 tks 0=u5 at k5
 refine Ga 6 (Cy hr1 ?_)
 refine Kn.useR law_p6 B k5 [0,3,4,5,6,7,8] [0] rfl (by decide) (lA rfl) rfl (lA rfl) hA hfr (hr.le (show 165<=200 by decide)) hX λnw tks h6 t6 L k6 _=>?_
 have hX:=Gj (Y:=X++L) (λp hp=>mai (hp)) hX
 have k6:Kn s.heap sc h6 (vLaw w.params lo pc sc (cut 1 tks 0) none q v k vs n++(X++L)):=k6
 generalize X++L=X at k6 hX
 generalize cut 1 tks 0=u6 at k6
 subst hv
 refine Ga 7 (Cy hr1 ?_)
 refine Kn.useR (Bg (law_p5 (sl:=slD Aa w.params lo pc u6) rfl hlen hi)) B k6 [0,1,2] [1] rfl (by decide) (lA rfl) rfl (lA rfl) hA hfr (hr.le (show 100<=200 by decide)) trivial λnw tks h7 t7 L k7 hL=>?_
 obtain ⟨rfl,hgood⟩:=hL
 rw [List.append_nil] at k7
 exact Agt (x:=⟨cut 6 tks 4,cut 6 tks 5,0,cut 6 tks 3,xsN (cut 6 tks 2)⟩) (s':=⟨0,0⟩) (N:=0) hA hfr (hr.le (by decide)) hgood ⟨by decide,by decide,by decide⟩ (by decide) B hs0 k7 hX λh' t' hk=>go h' t' hk
end
noncomputable abbrev body:=PySem.Challenge.rw_pq0620_01.row.prog.main.body
theorem Afr(b:List Stmt):b=b.take 51++(b.drop 51).take 1++b.drop 52:=by
 have h:=List.take_append_drop 51 b
 have h2:=List.take_append_drop 1 (b.drop 51)
 rw [List.drop_drop] at h2
 rw [List.append_assoc,h2,h]
theorem Hc(lk:Look):∀ a b:List Stmt,noRoadLSs lk (a++b)=(noRoadLSs lk a && noRoadLSs lk b)
 | [],b=>rfl
 | s::a,b=>by
  show (noRoadLS lk s && noRoadLSs lk (a++b))=((noRoadLS lk s && noRoadLSs lk a) && noRoadLSs lk b)
  rw [Hc lk a b,Bool.and_assoc]
theorem r1:Fast.tw8326940854005059898 { strict:=false,foot:=none } (body.take 51)=true:=by decide +kernel
theorem r3:Fast.tw8326940854005059898 { strict:=false,foot:=none } (body.drop 52)=true:=by decide +kernel
noncomputable def lk0:Look:={ strict:=false,foot:=none }
noncomputable def chk:List Nat->Bool
 | 32::r=>r.all λc=>c != 123 && c != 125 && c != 46
 | _=>false
theorem Ab8:(frameAttrs.all λs=>s.cps.toList.head? != some 32)=true:=by decide +kernel
theorem Afo(ns:List Nat)(h:chk ns=true):lk0.str ⟨ns.toArray⟩=true:=by
 unfold chk at h
 split at h
 ·rename_i r
  have hf:frameAttrs.contains (⟨(32::r).toArray⟩:Str)=false:=by
   rw [←Bool.not_eq_true]
   intro hc
   have hm:=List.contains_iff_mem.mp hc
   have:=List.all_eq_true.mp Ab8 _ hm
   simp at this
  have ho:Str.opensWith (⟨(32::r).toArray⟩:Str) "__"=false:=by
   rw [Str.ofString_eq_toList]
   unfold Str.opensWith
   rw [←Bool.not_eq_true]
   intro hc
   have he:=beq_iff_eq.mp hc
   have h0:=congrArg (λa:Array Nat=>a.toList.head?) he
   revert h0
   simp
  have hr:roadStr (⟨(32::r).toArray⟩:Str)=false:=by
   unfold roadStr
   have hall:=List.all_eq_true.mp h
   have e1:((32::r).toArray.any λc=>c == 123 || c == 125)=false:=by
    rw [←Bool.not_eq_true]
    intro hc
    simp only [List.any_toArray,List.any_cons,List.any_eq_true,Bool.or_eq_true,beq_iff_eq] at hc
    rcases hc with hc|⟨c,hm,hc⟩
    ·omega
    ·have:=hall c hm
     simp at this
     omega
   have e2:((32::r).toArray.any λc=>c == 46)=false:=by
    rw [←Bool.not_eq_true]
    intro hc
    simp only [List.any_toArray,List.any_cons,List.any_eq_true,Bool.or_eq_true,beq_iff_eq] at hc
    rcases hc with hc|⟨c,hm,hc⟩
    ·omega
    ·have:=hall c hm
     simp at this
     omega
   show (((32::r).toArray.any λc=>c == 123 || c == 125) || (((32::r).toArray.any λc=>c == 46) && _))=false
   rw [e1,e2];rfl
  unfold Look.str Look.word attrL
  rw [hf,ho,hr]
  simp [lk0]
 ·cases h
theorem str_ok(cs:List Char)(h:chk (cs.map Char.toNat)=true):lk0.str (Str.ofString (String.ofList cs))=true:=by
 rw [Str.ofString_eq_toList,String.toList_ofList]
 exact Afo _ h
theorem one{lk:Look}{n:Str}{p:Pos}{x:Str}{k:Nat}{q r:Pos}(hs:lk.stores [.Name n p]=true)(h1:lk.name n=true)(h2:lk.str x=true):noRoadLSs lk [.Assign [.Name n p] (.Constant (.str x) k q) r]=true:=by
 show ((lk.stores [.Name n p] && (lk.name n && true) && lk.str x) && true)=true
 rw [hs,h1,h2];rfl
theorem r2:noRoadLSs lk0 ((body.drop 51).take 1)=true:=
 (rfl:noRoadLSs lk0 ((body.drop 51).take 1)=noRoadLSs lk0 [.Assign [.Name _ _] (.Constant (.str (Str.ofString (String.ofList _))) _ _) _]).trans (one (by decide +kernel) (by decide +kernel) (str_ok _ (by decide +kernel)))
theorem bare0:(["vars","dir","locals"]:List Str).filter (readsOut PySem.Challenge.rw_pq0620_01.row.prog PySem.Challenge.rw_pq0620_01.row.prog.main.body)=[]:=by decide +kernel
theorem Afn:(!(importedModules PySem.Challenge.rw_pq0620_01.row.prog.main.body).all cThrough.contains)=false:=by decide +kernel
theorem road:noRoadLSs { strict:=!(importedModules PySem.Challenge.rw_pq0620_01.row.prog.main.body).all cThrough.contains,foot:=none,bare:=(["vars","dir","locals"]:List Str).filter (readsOut PySem.Challenge.rw_pq0620_01.row.prog PySem.Challenge.rw_pq0620_01.row.prog.main.body) } PySem.Challenge.rw_pq0620_01.row.prog.main.body=true:=by
 rw [bare0,Afn]
 show noRoadLSs lk0 body=true
 rw [Afr body,Hc,Hc]
 have h1:noRoadLSs lk0 (body.take 51)=true:=by rw [Fast.te8326940854005059898];exact r1
 have h3:noRoadLSs lk0 (body.drop 52)=true:=by rw [Fast.te8326940854005059898];exact r3
 rw [h1,h3,r2]
 rfl
theorem looks:looksOpen PySem.Challenge.rw_pq0620_01.row.prog=true:=by
 unfold looksOpen
 refine look_both (look_both (look_both (look_both (look_both ?_ ?_) ?_) ?_) road) ?_
 ·decide +kernel
 ·decide +kernel
 ·decide +kernel
 ·decide +kernel
 ·decide +kernel
theorem row_ws:PySem.Challenge.rw_pq0620_01.row.wellSaid=true:=by
 unfold OpenRow.wellSaid OpenRow.partSaid
 refine look_both (look_both (look_both (look_both (look_both (look_both (look_both (look_both (look_both (look_both (look_both (look_both (look_both (look_both (look_both looks ?_) ?_) ?_) ?_) ?_) ?_) ?_) ?_) ?_) ?_) ?_) ?_) ?_) ?_) ?_
 all_goals decide +kernel
theorem ws:PySem.Challenge.rw_pq0620_01.wellSaid=true:=by
 unfold OpenLaw.wellSaid
 refine look_both (look_both (look_both (look_both (look_both (look_both (look_both (look_both (look_both (look_both (look_both (look_both (look_both (look_both (look_both (look_both (look_both (look_both row_ws ?_) ?_) ?_) ?_) ?_) ?_) ?_) ?_) ?_) ?_) ?_) ?_) ?_) ?_) ?_) ?_) ?_) ?_
 all_goals decide +kernel
theorem Qh{p:Program}{w:World}{n₀:Nat}{ann:Option Value}{b n:Nat}{s:SharedT}{t:Thread}{f:Flow}{s':SharedT}{c:Code}{q:Pos}(h:Fast.tw10110043849684766642 Fast.tw14364793385576792824 p w n₀ ann b n s t=some (f,s',c,q)) :
  segRun treeTable p w n₀ ann b n s.abs t=some (f,s'.abs,c,q):=by
 rw [←Fast.te10110043849684766642,←Fast.te14364793385576792824] at h
 exact segRun_of h
noncomputable def envM:Env:={ scope:=Ypw.main.scope,locals:=mainNs,globals:=mainNs,cells:=[],code:=.ref 13,frame:=some 14 }
noncomputable def cM:Code:=.body (behindTheImports Ypw) envM
noncomputable def sts(i n:Nat):List Stmt:=(Ypw.main.body.drop i).take n
noncomputable abbrev annM:Option Value:=some (.ref 6)
theorem Yp0(w:World)(os:OsState):segRun treeTable Ypw w 11 annM 1 305 (YstT "__main__" 164 0 0 0 15 187 w os).abs (piecesOf (sts 0 3) envM cM default [topFrame default])=some (.next,(YstT "ledgerspeak.errors" 194 2 2 1 51 236 w os).abs,cM,⟨5,0,13,35⟩):=Qh (by kernel_rfl)
theorem Yp1(w:World)(os:OsState):segRun treeTable Ypw w 11 annM 1 214 (YstT "ledgerspeak.errors" 194 2 2 1 51 236 w os).abs (piecesOf (sts 3 1) envM cM ⟨5,0,13,35⟩ [topFrame default])=some (.next,(YstT "ledgerspeak.errors" 194 3 3 2 63 252 w os).abs,cM,⟨14,0,15,8⟩):=Qh (by kernel_rfl)
theorem Yp2(w:World)(os:OsState):segRun treeTable Ypw w 11 annM 1 414 (YstT "ledgerspeak.errors" 194 3 3 2 63 252 w os).abs (piecesOf (sts 4 9) envM cM ⟨14,0,15,8⟩ [topFrame default])=some (.next,(YstT "ledgerspeak.decimals" 268 11 10 3 118 321 w os).abs,cM,⟨43,0,44,32⟩):=Qh (by kernel_rfl)
theorem Yp3(w:World)(os:OsState):segRun treeTable Ypw w 11 annM 1 418 (YstT "ledgerspeak.decimals" 268 11 10 3 118 321 w os).abs (piecesOf (sts 13 10) envM cM ⟨43,0,44,32⟩ [topFrame default])=some (.next,(YstT "ledgerspeak.references" 343 20 17 3 168 429 w os).abs,cM,⟨106,0,112,17⟩):=by
 revert w
 refine byRow2 "special-get-raises" (λw=>?_) (λw=>?_)<;>exact Qh (by kernel_rfl)
theorem Yp4(w:World)(os:OsState):segRun treeTable Ypw w 11 annM 1 409 (YstT "ledgerspeak.references" 343 20 17 3 168 429 w os).abs (piecesOf (sts 23 16) envM cM ⟨106,0,112,17⟩ [topFrame default])=some (.next,(YstT "ledgerspeak.readarith" 524 34 29 3 252 545 w os).abs,cM,⟨183,0,186,85⟩):=Qh (by kernel_rfl)
theorem Yp5(w:World)(os:OsState):segRun treeTable Ypw w 11 annM 1 371 (YstT "ledgerspeak.readarith" 524 34 29 3 252 545 w os).abs (piecesOf (sts 39 15) envM cM ⟨183,0,186,85⟩ [topFrame default])=some (.next,(YstT "ledgerspeak.reader" 628 47 40 3 327 647 w os).abs,cM,⟨250,0,254,25⟩):=Qh (by kernel_rfl)
theorem Yp6(w:World)(os:OsState):segRun treeTable Ypw w 11 annM 1 909 (YstT "ledgerspeak.reader" 628 47 40 3 327 647 w os).abs (piecesOf (sts 54 1) envM cM ⟨250,0,254,25⟩ [topFrame default])=some (.next,(YstT "ledgerspeak.reader" 628 48 41 3 500 853 w os).abs,cM,⟨255,0,374,20⟩):=Qh (by kernel_rfl)
theorem Yp7(w:World)(os:OsState):segRun treeTable Ypw w 11 annM 1 398 (YstT "ledgerspeak.reader" 628 48 41 3 500 853 w os).abs (piecesOf (sts 55 7) envM cM ⟨255,0,374,20⟩ [topFrame default])=some (.next,(YstT "law_pq0620_01" 899 53 46 3 554 932 w os).abs,cM,⟨401,0,402,77⟩):=Qh (by kernel_rfl)
theorem Yp8(w:World)(os:OsState):segRun treeTable Ypw w 11 annM 1 251 (YstT "law_pq0620_01" 899 53 46 3 554 932 w os).abs (piecesOf (sts 62 8) envM cM ⟨401,0,402,77⟩ [topFrame default])=some (.next,(YstT "law_pq0620_01" 899 61 54 3 604 1012 w os).abs,cM,⟨447,0,462,36⟩):=Qh (by kernel_rfl)
noncomputable abbrev MM:Nat:=12+(1+(305+(214+(414+(418+(409+(371+(909+(398+(251+2))))))))))
noncomputable abbrev B0:List Frame:=[topFrame default]
theorem pre0(w:World)(os:OsState):topGo treeTable Ypw w 11 annM 12 ⟨boot_heap w.params,#[],boot_drawn,boot_toks,os⟩ (topStub Ypw) =
  some ((YstT "__main__" 164 0 0 0 15 187 w os).abs,⟨denote treeTable cM,cM,default,B0⟩):=by
 rw [Fast.te15667345088766844465,Fast.te14364793385576792824,Fast.te11892475500146522536]
 kernel_rfl
theorem blk0(w:World)(os:OsState):segRun treeTable Ypw w 11 annM 1 1 (YstT "__main__" 164 0 0 0 15 187 w os).abs (blockOf (behindTheImports Ypw) envM cM default B0)=some (.next,(YstT "__main__" 164 0 0 0 15 187 w os).abs,cM,default):=by
 kernel_rfl
theorem fin0(w:World)(os:OsState):topRun treeTable Ypw w 11 annM 2 (YstT "law_pq0620_01" 899 61 54 3 604 1012 w os).abs ⟨doneF .next,cM,⟨447,0,462,36⟩,B0⟩=some ⟨Yh1 w.params,#[],{},1012,os⟩:=by
 rw [Fast.te14082659384304107361,Fast.te14364793385576792824]
 kernel_rfl
theorem bodyM:behindTheImports Ypw=sts 0 3++(sts 3 1++(sts 4 9++(sts 13 10++(sts 23 16++(sts 39 15++(sts 54 1++(sts 55 7++(sts 62 8++[])))))))):=by kernel_rfl
theorem runM(w:World)(os:OsState):topRun treeTable Ypw w 11 annM MM ⟨boot_heap w.params,#[],boot_drawn,boot_toks,os⟩ (topStub Ypw)=some ⟨Yh1 w.params,#[],{},1012,os⟩:=by
 have z:=piece_app (Yp0 w os) (piece_app (Yp1 w os) (piece_app (Yp2 w os) (piece_app (Yp3 w os) (piece_app (Yp4 w os) (piece_app (Yp5 w os) (piece_app (Yp6 w os) (piece_app (Yp7 w os) (piece_app (Yp8 w os) (piece_nil (fin0 w os))))))))))
 rw [←bodyM] at z
 exact go_top (pre0 w os) (piece_block (blk0 w os) z)
noncomputable abbrev NM:Nat:=7486
theorem openM(w:World):(fencedOpening treeTable Ypw w NM).map (λs=>(s.heap,s.gens,s.drawn,s.toks))=some (boot_heap w.params,#[],boot_drawn,boot_toks):=
 boot_open (by kernel_rfl) (by kernel_rfl) (λ_=>by kernel_rfl) w
theorem sizeM(w:World):((boot_heap w.params).isNs mainGlobals && (#[]:Array GenState).size == 0,(boot_heap w.params).objs.size,(boot_heap w.params).nsMap mainGlobals "__annotations__")=(true,11,annM):=by
 rw [Fast.te8920871248978507458]
 kernel_rfl
theorem lk1(P:Params):staticsOk (importedModules Ypw.main.body) (boot_heap P) (Yh1 P)=true:=by
 unfold staticsOk
 rw [Fast.te8920871248978507458]
 kernel_rfl
theorem lk2(P:Params):namesBound Ypw (Yh1 P)=true:=by
 unfold namesBound
 rw [Fast.te18344453789297297638]
 kernel_rfl
theorem lk3(P:Params):laidKept (boot_heap P) (Yh1 P)=true:=by
 unfold laidKept
 rw [Fast.te8920871248978507458]
 kernel_rfl
noncomputable def Yvw:Program:={ Ypw with main:={ Ypw.main with body:=[YstK 69] } }
noncomputable def Ylo:List Str:=(Ace.mE.take 60).map (·.1)
noncomputable def rwO:OpenRow:=PySem.Challenge.rw_pq0620_01.row
noncomputable def XtM(s:Shared):Bool:=xlAt Yvw [] s && recOk rwO.records s
noncomputable def sM(P:Params)(os:OsState):Shared:=⟨Yh1 P,#[],{},1012,os⟩
theorem Yc1(P:Params)(os:OsState):seen ((recsOf Yvw).map (·.name)) (ownsOf Yvw) [] (sM P os)=expectedOf Yvw:=by
 rw [Fast.te5160383126252970620,Fast.te3399658132070893891,Fast.te5991557255702980513]
 kernel_rfl
theorem Yc2(P:Params):(Yh1 P).bltView=bltViewBooted:=by kernel_rfl
theorem Yc6(P:Params)(os:OsState):plainSeenE Yvw (looseW Yvw Ylo) (sM P os)=plainGoodE Yvw (looseW Yvw Ylo):=by
 rw [Fast.te2386780881361962483,Fast.te821141287760084731]
 kernel_rfl
theorem Yc7(P:Params)(os:OsState):plainSeenD Yvw Ylo (sM P os)=plainGoodD Yvw Ylo:=by
 rw [Fast.te11698064438423848299]
 kernel_rfl
theorem Yc8(P:Params)(os:OsState):wideSeen Yvw (sM P os)=wideGood Yvw:=by
 rw [Fast.te7317090234206586261]
 kernel_rfl
theorem Yc3a(P:Params):(Yh1 P).keysOk (looseW Yvw Ylo) ((recsOf Yvw).map (·.name)) ((litsOf Yvw).map (·.1)) ((clssOf Yvw (looseW Yvw Ylo)).map (·.name))=true:=by
 rw [Fast.te10880121769531294198,Fast.te821141287760084731,Fast.te3399658132070893891,Fast.te7409074990110511671,Fast.te13664370479719496447]
 kernel_rfl
theorem Yc3b(P:Params):(Yh1 P).accountedOkI (importedModules Ypw.main.body)=true:=by
 rw [Fast.te14722251495701143533]
 kernel_rfl
theorem Yc3c(P:Params):tablesOk Yvw (Yh1 P)=true:=by
 rw [Fast.te10994771534591457954]
 kernel_rfl
theorem Yc3d(P:Params)(os:OsState):XtM (sM P os)=true:=by kernel_rfl
theorem Yc4(P:Params)(os:OsState):tabsOk Yvw (sM P os)=true:=by
 rw [Fast.te479339242167458305]
 kernel_rfl
theorem Yc5(P:Params)(os:OsState):pinSeenD Yvw (drecsOf Yvw) (sM P os)=pinGoodD (drecsOf Yvw):=by
 rw [Fast.te16090120013241838585,Fast.te3247288618530077131]
 kernel_rfl
theorem Yc9(P:Params)(os:OsState):clsSeenW Yvw Ylo (sM P os)=clsGoodW Yvw Ylo:=by
 rw [Fast.te7369524293546568484]
 kernel_rfl
theorem hl:LeftO Ypw Yvw Ylo XtM (λs=>(s.heap,s.toks)) (λw=>(Yh1 w.params,1012)) NM:=
 LeftO.of_pieces (H₀:=boot_heap) (H₁:=Yh1) (gs₀:=#[]) (gs₁:=#[]) (d₀:=boot_drawn) (d₁:={}) (k₀:=boot_toks) (k₁:=1012) (m₀:=11) (ann:=annM) (M:=MM)
  openM sizeM runM (by kernel_rfl) λw=>by
  funext os
  refine looks_pair ?_ (looks_pair ?_ rfl)
  ·rw [lk1,lk2,lk3];rfl
  ·unfold openSeen openGood
   refine looks_pair (Yc1 w.params os) (looks_pair (Yc2 w.params) (looks_pair ?_ (looks_pair (Yc4 w.params os) (looks_pair (Yc5 w.params os) (looks_pair (Yc6 w.params os) (looks_pair (Yc7 w.params os) (looks_pair (Yc8 w.params os) (Yc9 w.params os))))))))
   show ((Yh1 w.params).keysOk _ _ _ _ && (Yh1 w.params).accountedOkI _ && (Yh1 w.params).isNs mainGlobals && (Yh1 w.params).isNs builtinsNs && tablesOk Yvw (Yh1 w.params) && XtM (sM w.params os) && _)=true
   rw [Yc3a,Yc3b,Yc3c,Yc3d]
   kernel_rfl
theorem live0(P:Params):((List.range 604).all λi=>(alive (Yob P i)).isSome)=true:=by
 have e:Yob P=λi=>(Yobj? Acf P i).getD default:=by
  funext i
  unfold Yob
  rw [Zp]
 rw [e]
 kernel_rfl
theorem h1_get{P:Params}{a:Nat}{o:Obj}(e:Aa P a=some o):(Yh1 P).get? a=some o:=by
 unfold Aa at e
 cases ha:Nat.blt a 604 with
 | false=>rw [ha] at e;cases e
 | true=>
  rw [ha] at e
  have hlt:a < 604:=Nat.le_of_ble_eq_true ha
  have z:(Yh1 P).objs[a]?=some o:=by
   show ((List.range 604).map (Yob P)).toArray[a]?=_
   rw [List.getElem?_toArray,List.getElem?_map,List.getElem?_range hlt]
   show some ((Yobj? Ace P a).getD default)=_
   rw [Zp,show Yobj? Acf P a=some o from e]
   rfl
  have l:=List.all_eq_true.mp (live0 P) a (List.mem_range.mpr hlt)
  have hob:Yob P a=o:=by
   unfold Yob
   rw [Zp,show Yobj? Acf P a=some o from e]
   rfl
  rw [hob] at l
  unfold Heap.get?
  rw [z]
  obtain ⟨c,d,dt,sl⟩:=o
  cases dt<;>first|rfl|cases l
theorem stat_h1{P:Params}{h:Heap}(k:∀ b o,(Yh1 P).get? b=some o->h.get? b=some o):Stat (Aa P) h:=λa o e=>k a o (h1_get e)
theorem law_at{P:Params}{h:Heap}{mg:Str->Option Value}{fa:Addr}(S:Stat (Aa P) h)(g:h.Ns mainGlobals mg)(e:mg "law"=some (.ref fa)):fa=603:=by
 obtain ⟨o,es,ep,ho,hd,_,hf⟩:=g
 have z:(match Aa P 3 with|some ⟨_,_,.dict es _,_⟩=>nsFind es "law" | _=>none)=some (.ref 603):=by kernel_rfl
 split at z
 ·rename_i c d es' n sl q
  have:=S 3 _ q
  have ho':h.get? 3=some o:=ho
  rw [ho'] at this
  cases this
  cases hd
  rw [hf,e] at z
  cases z
  rfl
 ·cases z
theorem Ac8:∀ {vs:List Value}{ns:List Int},IntsAre vs ns->Ll vs
 | _,_,.nil=>λ_ h=>nomatch h
 | _,_,.cons n t h=>λu hu=>by
  rcases mcm hu with rfl|hu
  ·exact ⟨n,t,rfl⟩
  ·exact Ac8 h u hu
theorem size_h1(P:Params):(Yh1 P).objs.size=604:=by
 show ((List.range 604).map (Yob P)).toArray.size=604
 rw [List.size_toArray,List.length_map,List.length_range]
end Mine
open Mine
theorem PySem.Challenge.cw_pq0620_01_holds : PySem.Challenge.rw_pq0620_01.Holds := by
  refine holds_law ws λsaid => ?_
  refine holds_openX (r := PySem.Challenge.rw_pq0620_01.row) (q := Yvw) (loose := Ylo) (Xt := XtM) (XP := XL Yvw []) hl (λs e => xl_of s (Bool.and_eq_true_iff.mp e).1) XL.keeps (by rfl) (by rfl) (by rfl) (λs e => recFacts_of (Bool.and_eq_true_iff.mp e).2) (by rfl) said (by decide +kernel) ⟨rfl, rfl, rfl, rfl, rfl, by decide +kernel⟩ ?hw ?hc
  case hw => w_witness2
  case hc =>
    intro w s₀ s₁ mg mb G y fa o pm cd doc dV kV ho hd hcd hD hmg hg args vals as L hpre hlay hrd hwl hlo
    have y1 : s₀.heap = Yh1 w.params := congrArg Prod.fst y
    have y2 : s₀.toks = 1012 := congrArg Prod.snd y
    have hS : Stat (Aa w.params) s₁.heap := stat_h1 λb o e => L.keeps b o (by rw [y1]; exact e)
    clear hd hcd hD
    refine Ground.open G ?_
    intro T B D TE TW
    have hfa := law_at hS T.g hmg
    subst hfa
    wrow_args hpre hlay hrd hwl hlo
    obtain ⟨hat, hsz⟩ := script_at L
    rw [y1, size_h1] at hat hsz
    subst hat
    all_lens
    rename IntsAre _ _ => hI
    rename _ /\ _ => hB
    rename Heap.IsList _ _ _ => hLst
    rename ¬ _ => h63
    have hobj := script_obj L hLst
    have hlen := hB.1
    refine wpAny_call ?_
    have z := λR go => law_ok (w := w) (b := b3Of w.params) (A := callerA) (s := s₁) (R := R) (sc := 604) (n := 0) rfl rfl ⟨by decide, by decide⟩ hS hobj rfl (by omega) (Ac8 hI) go
    rw [wZ_of] at z
    refine z _ λh' t' hk => ?_
    refine GoodW.toG ⟨.inl ⟨.bool true, .bool true, [], rfl, raisesW_false ?_, .bool true, ?_, λ_ => ⟨List.nodup_nil, λ_ h => nomatch h⟩⟩, hk, rfl, hg⟩
    · wrow_none_raised
    · wrow_post

