import PyProof.Rows.All
import Wide.All
import OpenK.AllK
import Wide.FinOn
import PySem.Challenge.RW_nt0432_01
set_option Elab.async false
set_option genSizeOf false
set_option genSizeOfSpec false
set_option bootstrap.genMatcherCode false
set_option tactic.hygienic false
set_option maxRecDepth 100000
set_option linter.unusedSimpArgs false
set_option linter.unusedVariables false

namespace Mine
set_option genCtorIdx false
set_option genInjectivity false
inductive At where
 | o
 | z (x:Int) (r:At)
 | n (x:Nat) (r:At)
noncomputable def At.hd:At→Int
 | .o=>0
 | .z x _=>x
 | .n x _=>x
noncomputable def At.tl:At→At
 | .o=>.o
 | .z _ r=>r
 | .n _ r=>r
noncomputable def At.int:At→Nat→Int
 | .o,_=>0
 | .z x r,i=>Nat.rec x (fun i _=>r.int i) i
 | .n x r,i=>Nat.rec (x:Int) (fun i _=>r.int i) i
noncomputable def At.nat:At→Nat→Nat
 | .o,_=>0
 | .z x r,i=>Nat.rec x.toNat (fun i _=>r.nat i) i
 | .n x r,i=>Nat.rec x (fun i _=>r.nat i) i
noncomputable def At.isN:At→Nat→Bool
 | .o,_=>false
 | .z _ r,i=>Nat.rec false (fun i _=>r.isN i) i
 | .n _ r,i=>Nat.rec true (fun i _=>r.isN i) i
theorem At.nat_int:∀ (c:At) (i:Nat),c.isN i=true→((c.nat i:Nat):Int)=c.int i
 | .o,_,h=>Bool.noConfusion h
 | .z _ _,0,h=>Bool.noConfusion h
 | .z _ r,i + 1,h=>At.nat_int r i h
 | .n _ _,0,_=>rfl
 | .n _ r,i + 1,h=>At.nat_int r i h
noncomputable def dot:List Int→At→Int
 | [],_=>0
 | a :: l,c=>a * c.hd + dot l c.tl
inductive G where
 | at (i:Nat) | lit (n:Nat) | add (a b:G) | sub (a b:G) | mul (a b:G) | neg (a:G) | cast (a:G)
 | le (a b:G) | lt (a b:G) | eq (a b:G) | leN (a b:G) | ltN (a b:G) | eqN (a b:G)
 | and (a b:G) | or (a b:G) | not (a:G) | imp (a b:G) | iff (a b:G) | ff
noncomputable def gN (c:At):G→Nat
 | .at i=>c.nat i
 | .lit n=>n
 | .add a b=>gN c a + gN c b
 | .mul a b=>gN c a * gN c b
 | _=>0
noncomputable def gI (c:At):G→Int
 | .at i=>c.int i
 | .lit n=>Int.ofNat n
 | .add a b=>gI c a + gI c b
 | .sub a b=>gI c a - gI c b
 | .mul a b=>gI c a * gI c b
 | .neg a=>- gI c a
 | .cast a=>((gN c a:Nat):Int)
 | _=>0
noncomputable def gP (c:At):G→Prop
 | .le a b=>gI c a≤gI c b
 | .lt a b=>gI c a < gI c b
 | .eq a b=>gI c a=gI c b
 | .leN a b=>gN c a≤gN c b
 | .ltN a b=>gN c a < gN c b
 | .eqN a b=>gN c a=gN c b
 | .and a b=>gP c a∧gP c b
 | .or a b=>gP c a∨gP c b
 | .not a=>¬ gP c a
 | .imp a b=>gP c a→gP c b
 | .iff a b=>gP c a ↔ gP c b
 | _=>False
structure Row where
 l:List Int
 c:Int
noncomputable def Row.ev (r:Row) (c:At):Int:=dot r.l c + r.c
noncomputable def addL:List Int→List Int→List Int
 | [],t=>t
 | a :: l,[]=>a :: l
 | a :: l,b :: t=>Int.add a b :: addL l t
noncomputable def mulL (k:Int):List Int→List Int
 | []=>[]
 | a :: l=>Int.mul k a :: mulL k l
theorem add4 (a b x y:Int):(a + b) + (x + y)=(a + x) + (b + y):=by rw [Int.add_assoc,Int.add_assoc,Int.add_left_comm b x y]
theorem dot_add:∀ (l t:List Int) (c:At),dot (addL l t) c=dot l c + dot t c
 | [],t,c=>(Int.zero_add _).symm
 | a :: l,[],c=>(Int.add_zero _).symm
 | a :: l,b :: t,c=>by
  show(a + b) * c.hd + dot (addL l t) c.tl=(a * c.hd + dot l c.tl) + (b * c.hd + dot t c.tl)
  rw [dot_add l t,Int.add_mul,add4]
theorem dot_mul (k:Int):∀ (l:List Int) (c:At),dot (mulL k l) c=k * dot l c
 | [],c=>(Int.mul_zero k).symm
 | a :: l,c=>by
  show(k * a) * c.hd + dot (mulL k l) c.tl=k * (a * c.hd + dot l c.tl)
  rw [dot_mul k l,Int.mul_add,Int.mul_assoc]
noncomputable def Row.add (r s:Row):Row:=⟨addL r.l s.l,Int.add r.c s.c⟩
noncomputable def Row.mul (k:Int) (r:Row):Row:=⟨mulL k r.l,Int.mul k r.c⟩
theorem Row.ev_add (r s:Row) (c:At):(r.add s).ev c=r.ev c + s.ev c:=by
 show dot (addL _ _) _ + (r.c + s.c)=(_ + _) + (_ + _)
 rw [dot_add,add4]
theorem Row.ev_mul (k:Int) (r:Row) (c:At):(r.mul k).ev c=k * r.ev c:=by
 show dot (mulL _ _) _ + k * r.c=k * (_ + _)
 rw [dot_mul,Int.mul_add]
noncomputable def unit:Nat→List Int
 | 0=>[1]
 | i + 1=>0 :: unit i
theorem dot_unit:∀ (i:Nat) (c:At),dot (unit i) c=c.int i
 | 0,c=>by
  show 1 * c.hd + 0=_
  rw [Int.one_mul,Int.add_zero]
  cases c <;> rfl
 | i + 1,c=>by
  show 0 * c.hd + dot (unit i) c.tl=_
  rw [dot_unit i]
  cases c with
  | o=>rw [Int.zero_mul,Int.zero_add];rfl
  | z x r=>rw [Int.zero_mul,Int.zero_add];rfl
  | n x r=>rw [Int.zero_mul,Int.zero_add];rfl
noncomputable def isC:List Int→Bool
 | []=>true
 | a :: l=>match a with
  | .ofNat 0=>isC l
  | _=>false
theorem isC_dot:∀ (l:List Int) (c:At),isC l=true→dot l c=0
 | [],_,_=>rfl
 | a :: l,c,h=>by
  match a,h with
  | .ofNat 0,h=>
   show 0 * c.hd + dot l c.tl=0
   rw [isC_dot l _ h,Int.zero_mul];rfl
  | .ofNat (n + 1),h=>exact Bool.noConfusion h
  | .negSucc n,h=>exact Bool.noConfusion h
noncomputable def lN (c:At):G→Option Row
 | .at i=>match c.isN i with
  | true=>some ⟨unit i,0⟩
  | false=>none
 | .lit n=>some ⟨[],Int.ofNat n⟩
 | .add a b=>match lN c a with
  | none=>none
  | some r=>match lN c b with
   | none=>none
   | some s=>some (r.add s)
 | .mul a b=>match lN c a with
  | none=>none
  | some r=>match lN c b with
   | none=>none
   | some s=>match isC r.l with
    | true=>some (s.mul r.c)
    | false=>match isC s.l with
     | true=>some (r.mul s.c)
     | false=>none
 | _=>none
noncomputable def lI (c:At):G→Option Row
 | .at i=>some ⟨unit i,0⟩
 | .lit n=>some ⟨[],Int.ofNat n⟩
 | .add a b=>match lI c a with
  | none=>none
  | some r=>match lI c b with
   | none=>none
   | some s=>some (r.add s)
 | .sub a b=>match lI c a with
  | none=>none
  | some r=>match lI c b with
   | none=>none
   | some s=>some (r.add (s.mul (-1)))
 | .neg a=>match lI c a with
  | none=>none
  | some r=>some (r.mul (-1))
 | .mul a b=>match lI c a with
  | none=>none
  | some r=>match lI c b with
   | none=>none
   | some s=>match isC r.l with
    | true=>some (s.mul r.c)
    | false=>match isC s.l with
     | true=>some (r.mul s.c)
     | false=>none
 | .cast a=>lN c a
 | _=>none
theorem Row.ev_c {r:Row} (c:At) (h:isC r.l=true):r.ev c=r.c:=by
 show dot r.l c + r.c=r.c
 rw [isC_dot _ _ h,Int.zero_add]
theorem o2 {a b:Option Row} {f:Row→Row→Option Row} {r:Row} (h:(match a with | none=>none | some x=>match b with | none=>none | some y=>f x y)=some r):∃ x y,a=some x∧b=some y∧f x y=some r:=by
 cases a with
 | none=>cases h
 | some x=>
  cases b with
  | none=>cases h
  | some y=>exact⟨x,y,rfl,rfl,h⟩
theorem o1 {a:Option Row} {f:Row→Option Row} {r:Row} (h:(match a with | none=>none | some x=>f x)=some r):∃ x,a=some x∧f x=some r:=by
 cases a with
 | none=>cases h
 | some x=>exact⟨x,rfl,h⟩
theorem mulR {x y r:Row} (c:At) (h:(match isC x.l with | true=>some (y.mul x.c) | false=>match isC y.l with | true=>some (x.mul y.c) | false=>none)=some r):x.ev c * y.ev c=r.ev c:=by
 cases ex:isC x.l with
 | true=>rw [ex] at h;cases h;rw [Row.ev_mul,Row.ev_c c ex]
 | false=>
  rw [ex] at h
  cases ey:isC y.l with
  | true=>rw [ey] at h;cases h;rw [Row.ev_mul,Row.ev_c c ey,Int.mul_comm]
  | false=>rw [ey] at h;cases h
theorem lN_ok (c:At):∀ (g:G) {r:Row},lN c g=some r→((gN c g:Nat):Int)=r.ev c
 | .at i,r,h=>by
  have h:(match c.isN i with | true=>some (⟨unit i,0⟩:Row) | false=>none)=some r:=h
  cases e:c.isN i with
  | false=>rw [e] at h;cases h
  | true=>
   rw [e] at h;cases h
   show((c.nat i:Nat):Int)=dot (unit i) c + 0
   rw [dot_unit,At.nat_int c i e,Int.add_zero]
 | .lit n,r,h=>by cases h;exact(Int.zero_add _).symm
 | .add a b,r,h=>by
  obtain⟨x,y,ea,eb,h⟩:=o2 h
  cases h
  rw [Row.ev_add,← lN_ok c a ea,← lN_ok c b eb];rfl
 | .mul a b,r,h=>by
  obtain⟨x,y,ea,eb,h⟩:=o2 h
  rw [← mulR c h,← lN_ok c a ea,← lN_ok c b eb];rfl
 | .sub _ _,_,h=>nomatch h
 | .neg _,_,h=>nomatch h
 | .cast _,_,h=>nomatch h
 | .le _ _,_,h=>nomatch h
 | .lt _ _,_,h=>nomatch h
 | .eq _ _,_,h=>nomatch h
 | .leN _ _,_,h=>nomatch h
 | .ltN _ _,_,h=>nomatch h
 | .eqN _ _,_,h=>nomatch h
 | .and _ _,_,h=>nomatch h
 | .or _ _,_,h=>nomatch h
 | .not _,_,h=>nomatch h
 | .imp _ _,_,h=>nomatch h
 | .iff _ _,_,h=>nomatch h
 | .ff,_,h=>nomatch h
theorem lI_ok (c:At):∀ (g:G) {r:Row},lI c g=some r→gI c g=r.ev c
 | .at i,r,h=>by
  cases h
  show c.int i=dot (unit i) c + 0
  rw [dot_unit,Int.add_zero]
 | .lit n,r,h=>by cases h;exact(Int.zero_add _).symm
 | .add a b,r,h=>by
  obtain⟨x,y,ea,eb,h⟩:=o2 h
  cases h
  rw [Row.ev_add,← lI_ok c a ea,← lI_ok c b eb];rfl
 | .sub a b,r,h=>by
  obtain⟨x,y,ea,eb,h⟩:=o2 h
  cases h
  rw [Row.ev_add,Row.ev_mul,← lI_ok c a ea,← lI_ok c b eb,Int.neg_mul,Int.one_mul]
  exact Int.sub_eq_add_neg
 | .neg a,r,h=>by
  obtain⟨x,ea,h⟩:=o1 h
  cases h
  rw [Row.ev_mul,← lI_ok c a ea,Int.neg_mul,Int.one_mul];rfl
 | .mul a b,r,h=>by
  obtain⟨x,y,ea,eb,h⟩:=o2 h
  rw [← mulR c h,← lI_ok c a ea,← lI_ok c b eb];rfl
 | .cast a,_,h=>lN_ok c a h
 | .le _ _,_,h=>nomatch h
 | .lt _ _,_,h=>nomatch h
 | .eq _ _,_,h=>nomatch h
 | .leN _ _,_,h=>nomatch h
 | .ltN _ _,_,h=>nomatch h
 | .eqN _ _,_,h=>nomatch h
 | .and _ _,_,h=>nomatch h
 | .or _ _,_,h=>nomatch h
 | .not _,_,h=>nomatch h
 | .imp _ _,_,h=>nomatch h
 | .iff _ _,_,h=>nomatch h
 | .ff,_,h=>nomatch h
noncomputable def hdL:List Int→Int
 | []=>0
 | a :: _=>a
noncomputable def tlL:List Int→List Int
 | []=>[]
 | _ :: l=>l
theorem dot_hd (l:List Int) (c:At):dot l c=hdL l * c.hd + dot (tlL l) c.tl:=by
 cases l with
 | nil=>simp [dot,hdL,tlL]
 | cons a l=>rfl
noncomputable def gcdL:List Int→Nat
 | []=>0
 | a :: l=>Nat.gcd a.natAbs (gcdL l)
noncomputable def divL (g:Int):List Int→List Int
 | []=>[]
 | a :: l=>Int.ediv a g :: divL g l
noncomputable def dvdL (g:Nat):List Int→Bool
 | []=>true
 | a :: l=>match Nat.beq (a.natAbs % g) 0 with
  | true=>dvdL g l
  | false=>false
theorem dvdL_ok (g:Nat):∀ (l:List Int) (c:At),dvdL g l=true→dot l c=g * dot (divL g l) c
 | [],_,_=>by simp [dot,divL]
 | a :: l,c,h=>by
  unfold dvdL at h
  cases e:Nat.beq (a.natAbs % g) 0 with
  | false=>rw [e] at h;cases h
  | true=>
   rw [e] at h
   have e:=Nat.eq_of_beq_eq_true e
   have hd:(g:Int) ∣ a:=by
    rw [← Int.natAbs_dvd_natAbs];exact Nat.dvd_of_mod_eq_zero e
   show a * c.hd + dot l c.tl=g * (a / g * c.hd + dot (divL g l) c.tl)
   rw [dvdL_ok g l _ h,Int.mul_add,← Int.mul_assoc,Int.mul_ediv_cancel' hd]
noncomputable def Row.norm (r:Row):Row:=match Nat.ble 2 (gcdL r.l) with
 | false=>r
 | true=>match dvdL (gcdL r.l) r.l with
  | true=>⟨divL (gcdL r.l) r.l,Int.ediv r.c (gcdL r.l)⟩
  | false=>r
theorem Row.norm_ok {r:Row} {c:At} (h:0≤r.ev c):0≤r.norm.ev c:=by
 unfold Row.norm
 split
 ·exact h
 ·rename_i g0
  have g0:=Nat.le_of_ble_eq_true g0
  split
  ·rename_i hd
   have hg:(0:Int) < (gcdL r.l:Nat):=by omega
   unfold Row.ev at h ⊢
   rw [dvdL_ok _ _ c hd] at h
   show 0≤dot (divL _ _) c + r.c / (gcdL r.l:Nat)
   have:-(dot (divL (gcdL r.l:Nat) r.l) c)≤r.c / (gcdL r.l:Nat):=by
    rw [Int.le_ediv_iff_mul_le hg,Int.neg_mul,Int.mul_comm];omega
   omega
  ·exact h
noncomputable def pos:Int→Bool
 | .ofNat (_ + 1)=>true
 | _=>false
noncomputable def neg:Int→Bool
 | .negSucc _=>true
 | _=>false
theorem pos_ok {a:Int} (h:pos a=true):0 < a:=by
 match a,h with
 | .ofNat (n + 1),_=>show(0:Int) < ((n + 1:Nat):Int);omega
 | .ofNat 0,h=>exact Bool.noConfusion h
 | .negSucc _,h=>exact Bool.noConfusion h
theorem neg_ok {a:Int} (h:neg a=true):a < 0:=by
 match a,h with
 | .negSucc n,_=>exact Int.negSucc_lt_zero n
 | .ofNat _,h=>exact Bool.noConfusion h
noncomputable def Row.tl (r:Row):Row:=⟨tlL r.l,r.c⟩
noncomputable def comb (p q:Row):Row:=((p.tl.mul (Int.neg (hdL q.l))).add (q.tl.mul (hdL p.l))).norm
theorem ev_hd (r:Row) (c:At):r.ev c=hdL r.l * c.hd + r.tl.ev c.tl:=by
 show dot r.l c + r.c=hdL r.l * c.hd + (dot (tlL r.l) c.tl + r.c)
 rw [dot_hd r.l,Int.add_assoc]
theorem comb_ok {p q:Row} {c:At} (hp:pos (hdL p.l)=true) (hq:neg (hdL q.l)=true) (h1:0≤p.ev c) (h2:0≤q.ev c):0≤(comb p q).ev c.tl:=by
 unfold comb
 apply Row.norm_ok
 rw [Row.ev_add,Row.ev_mul,Row.ev_mul]
 rw [ev_hd] at h1 h2
 have hp:=pos_ok hp
 have hq:=neg_ok hq
 generalize hdL p.l=a at *
 generalize hdL q.l=b at *
 generalize p.tl.ev c.tl=x at *
 generalize q.tl.ev c.tl=y at *
 generalize c.hd=z at *
 have e1:0≤(-b) * (a * z + x):=Int.mul_nonneg (by omega) h1
 have e2:0≤a * (b * z + y):=Int.mul_nonneg (by omega) h2
 have e3:(-b) * (a * z + x) + a * (b * z + y)=(-b) * x + a * y:=by
  rw [Int.mul_add,Int.mul_add]
  have:-b * (a * z)=- (a * (b * z)):=by
   rw [Int.neg_mul,← Int.mul_assoc,← Int.mul_assoc,Int.mul_comm b a]
  omega
 show 0≤(-b) * x + a * y
 omega
noncomputable def onlyC (r:Row):Bool:=match isC r.l with
 | true=>!(neg r.c)
 | false=>false
noncomputable def combs1 (p:Row):List Row→List Row→List Row
 | [],out=>out
 | q :: r,out=>match neg (hdL q.l) with
  | true=>match onlyC (comb p q) with
   | true=>combs1 p r out
   | false=>comb p q :: combs1 p r out
  | false=>combs1 p r out
noncomputable def combs (all:List Row):List Row→List Row→List Row
 | [],out=>out
 | p :: r,out=>match pos (hdL p.l) with
  | true=>combs1 p all (combs all r out)
  | false=>combs all r out
noncomputable def zers:List Row→List Row
 | []=>[]
 | r :: t=>match hdL r.l with
  | .ofNat 0=>r.tl :: zers t
  | _=>zers t
noncomputable def Sat (c:At) (rs:List Row):Prop:=∀ r ∈ rs,0≤r.ev c
theorem sat_cons {c:At} {r:Row} {rs:List Row} (h:Sat c (r :: rs)):0≤r.ev c∧Sat c rs:=⟨h r (List.mem_cons_self ..),fun x hx=>h x (List.mem_cons_of_mem _ hx)⟩
theorem sat_mk {c:At} {r:Row} {rs:List Row} (h:0≤r.ev c) (h2:Sat c rs):Sat c (r :: rs):=fun x hx=>by
 cases hx with
 | head=>exact h
 | tail _ hx=>exact h2 x hx
theorem combs1_ok {c:At} {p:Row} (hp:pos (hdL p.l)=true) (h1:0≤p.ev c):∀ {qs out:List Row},Sat c qs→Sat c.tl out→Sat c.tl (combs1 p qs out)
 | [],_,_,h=>h
 | q :: r,out,h,ho=>by
  obtain⟨hq,hr⟩:=sat_cons h
  unfold combs1
  have ih:=combs1_ok hp h1 hr ho
  cases e:neg (hdL q.l) with
  | false=>exact ih
  | true=>
   dsimp only
   split
   ·exact ih
   ·exact sat_mk (comb_ok hp e h1 hq) ih
theorem combs_ok {c:At} {all:List Row} (ha:Sat c all):∀ {ps out:List Row},Sat c ps→Sat c.tl out→Sat c.tl (combs all ps out)
 | [],_,_,h=>h
 | p :: r,out,h,ho=>by
  obtain⟨hp,hr⟩:=sat_cons h
  unfold combs
  have ih:=combs_ok ha hr ho
  cases e:pos (hdL p.l) with
  | false=>exact ih
  | true=>exact combs1_ok e hp ha ih
theorem zers_ok {c:At}:∀ {rs:List Row},Sat c rs→Sat c.tl (zers rs)
 | [],_=>fun _ h=>nomatch h
 | r :: t,h=>by
  obtain⟨hr,ht⟩:=sat_cons h
  unfold zers
  have ih:=zers_ok ht
  split
  ·rename_i e
   rw [ev_hd,e] at hr
   refine sat_mk ?_ ih
   have:Int.ofNat 0 * c.hd=0:=Int.zero_mul _
   omega
  ·exact ih
noncomputable def SatE (c:At) (rs:List Row):Prop:=∀ r ∈ rs,r.ev c=0
theorem sate_cons {c:At} {r:Row} {rs:List Row} (h:SatE c (r :: rs)):r.ev c=0∧SatE c rs:=⟨h r (List.mem_cons_self ..),fun x hx=>h x (List.mem_cons_of_mem _ hx)⟩
theorem sate_mk {c:At} {r:Row} {rs:List Row} (h:r.ev c=0) (h2:SatE c rs):SatE c (r :: rs):=fun x hx=>by
 cases hx with
 | head=>exact h
 | tail _ hx=>exact h2 x hx
noncomputable def outE (e r:Row):Row:=match hdL r.l with
 | .ofNat 0=>r.tl
 | h=>match pos (hdL e.l) with
  | true=>(r.tl.mul (hdL e.l)).add (e.tl.mul (Int.neg h))
  | false=>(r.tl.mul (Int.neg (hdL e.l))).add (e.tl.mul h)
theorem outE_ev {e r:Row} {c:At} (he:e.ev c=0):∃ k:Int,0≤k∧((outE e r).ev c.tl=k * r.ev c):=by
 unfold outE
 split
 ·rename_i h0
  refine⟨1,by omega,?_⟩
  rw [ev_hd r,h0]
  have:Int.ofNat 0 * c.hd=0:=Int.zero_mul _
  omega
 ·split
  ·rename_i hp
   refine⟨hdL e.l,by have:=pos_ok hp;omega,?_⟩
   rw [Row.ev_add,Row.ev_mul,Row.ev_mul,ev_hd r]
   rw [ev_hd] at he
   generalize r.tl.ev c.tl=y at *
   have:e.tl.ev c.tl=-(hdL e.l * c.hd):=by omega
   rw [this]
   show hdL e.l * y + (- hdL r.l) * -(hdL e.l * c.hd)=_
   rw [Int.mul_add,Int.neg_mul_neg,Int.mul_left_comm];omega
  ·rename_i hp
   refine⟨-hdL e.l,?_,?_⟩
   ·generalize hdL e.l=a at hp
    match a,hp with
    | .ofNat 0,_=>exact Int.le_refl 0
    | .ofNat (n + 1),hp=>exact Bool.noConfusion hp
    | .negSucc n,_=>have:=Int.negSucc_lt_zero n;omega
   ·rw [Row.ev_add,Row.ev_mul,Row.ev_mul,ev_hd r]
    rw [ev_hd] at he
    generalize r.tl.ev c.tl=y at *
    have:e.tl.ev c.tl=-(hdL e.l * c.hd):=by omega
    rw [this]
    show(- hdL e.l) * y + hdL r.l * -(hdL e.l * c.hd)=_
    rw [Int.mul_add,Int.mul_neg,Int.neg_mul,Int.neg_mul,Int.mul_left_comm];omega
noncomputable def outR (e:Row):List Row→List Row
 | []=>[]
 | r :: t=>(outE e r).norm :: outR e t
noncomputable def outQ (e:Row):List Row→List Row
 | []=>[]
 | r :: t=>outE e r :: outQ e t
theorem outR_ok {e:Row} {c:At} (he:e.ev c=0):∀ {rs:List Row},Sat c rs→Sat c.tl (outR e rs)
 | [],_=>fun _ h=>nomatch h
 | r :: t,h=>by
  obtain⟨hr,ht⟩:=sat_cons h
  refine sat_mk (Row.norm_ok ?_) (outR_ok he ht)
  obtain⟨k,hk,e⟩:=outE_ev (r:=r) he
  rw [e];exact Int.mul_nonneg hk hr
theorem outQ_ok {e:Row} {c:At} (he:e.ev c=0):∀ {rs:List Row},SatE c rs→SatE c.tl (outQ e rs)
 | [],_=>fun _ h=>nomatch h
 | r :: t,h=>by
  obtain⟨hr,ht⟩:=sate_cons h
  refine sate_mk ?_ (outQ_ok he ht)
  obtain⟨k,_,e⟩:=outE_ev (r:=r) he
  rw [e,hr,Int.mul_zero]
noncomputable def pick:List Row→List Row→Option (Row×List Row)
 | [],_=>none
 | e :: t,seen=>match hdL e.l with
  | .ofNat 0=>pick t (e :: seen)
  | _=>some (e,seen ++ t)
theorem pick_ok {c:At}:∀ {es seen:List Row} {e:Row} {rest:List Row},SatE c es→SatE c seen→pick es seen=some (e,rest)→e.ev c=0∧SatE c rest
 | [],_,_,_,_,_,h=>nomatch h
 | x :: t,seen,e,rest,h,hs,hp=>by
  obtain⟨hx,ht⟩:=sate_cons h
  unfold pick at hp
  split at hp
  ·exact pick_ok ht (sate_mk hx hs) hp
  ·cases hp
   refine⟨hx,fun r hr=>?_⟩
   rcases List.mem_append.1 hr with q | q
   ·exact hs r q
   ·exact ht r q
noncomputable def tls:List Row→List Row
 | []=>[]
 | r :: t=>r.tl :: tls t
theorem tls_ok {c:At}:∀ {es seen:List Row},SatE c es→pick es seen=none→SatE c.tl (tls es)
 | [],_,_,_=>fun _ h=>nomatch h
 | r :: t,seen,h,hp=>by
  obtain⟨hr,ht⟩:=sate_cons h
  unfold pick at hp
  split at hp
  ·rename_i e
   refine sate_mk ?_ (tls_ok ht hp)
   rw [ev_hd,e] at hr
   have:Int.ofNat 0 * c.hd=0:=Int.zero_mul _
   omega
  ·cases hp
noncomputable def lastR:List Row→Bool
 | []=>false
 | r :: t=>match neg r.c with
  | true=>(match r.l with
   | []=>true
   | _=>lastR t)
  | false=>lastR t
noncomputable def lastE:List Row→Bool
 | []=>false
 | r :: t=>match r.c with
  | .ofNat 0=>lastE t
  | _=>(match r.l with
   | []=>true
   | _=>lastE t)
theorem lastR_ok {c:At}:∀ {rs:List Row},Sat c rs→lastR rs=true→False
 | [],_,h=>nomatch h
 | r :: t,h,hl=>by
  obtain⟨hr,ht⟩:=sat_cons h
  unfold lastR at hl
  split at hl
  ·rename_i hn
   have:=neg_ok hn
   split at hl
   ·rename_i e
    have hr:0≤dot r.l c + r.c:=hr
    rw [e] at hr
    have:dot [] c=0:=rfl
    omega
   ·exact lastR_ok ht hl
  ·exact lastR_ok ht hl
set_option tactic.hygienic true in
theorem lastE_ok {c:At}:∀ {rs:List Row},SatE c rs→lastE rs=true→False
 | [],_,h=>nomatch h
 | r :: t,h,hl=>by
  obtain⟨hr,ht⟩:=sate_cons h
  unfold lastE at hl
  split at hl
  ·exact lastE_ok ht hl
  ·rename_i hn
   split at hl
   ·rename_i e
    have hr:dot r.l c + r.c=0:=hr
    rw [e] at hr
    have h0:dot [] c=0:=rfl
    have hc:r.c=0:=by omega
    exact(hn hc).elim
   ·exact lastE_ok ht hl
noncomputable def fm:Nat→List Row→List Row→Bool
 | 0,es,rs=>(match lastR rs with
  | true=>true
  | false=>lastE es)
 | n + 1,es,rs=>(match pick es [] with
  | some (e,es')=>fm n (outQ e es') (outR e rs)
  | none=>(match Nat.ble 400 rs.length with
   | true=>false
   | false=>fm n (tls es) (combs rs rs (zers rs))))
set_option tactic.hygienic true in
theorem fm_ok:∀ (n:Nat) {c:At} {es rs:List Row},SatE c es→Sat c rs→fm n es rs=true→False
 | 0,c,es,rs,he,hr,h=>by
  unfold fm at h
  split at h
  ·rename_i e;exact lastR_ok hr e
  ·exact lastE_ok he h
 | n + 1,c,es,rs,he,hr,h=>by
  unfold fm at h
  split at h
  ·rename_i e es' hp
   obtain⟨h1,h2⟩:=pick_ok (seen:=[]) he (fun _ h=>nomatch h) hp
   exact fm_ok n (outQ_ok h1 h2) (outR_ok h1 hr) h
  ·rename_i hp
   split at h
   ·exact Bool.noConfusion h
   ·exact fm_ok n (tls_ok he hp) (combs_ok hr hr (zers_ok hr)) h
noncomputable def hol (c:At) (f:Bool×G):Prop:=match f.1 with
 | true=>gP c f.2
 | false=>¬ gP c f.2
noncomputable def Hol (c:At) (fs:List (Bool×G)):Prop:=∀ f ∈ fs,hol c f
theorem hol_cons {c:At} {f:Bool×G} {fs:List (Bool×G)} (h:Hol c (f :: fs)):hol c f∧Hol c fs:=⟨h f (List.mem_cons_self ..),fun x hx=>h x (List.mem_cons_of_mem _ hx)⟩
theorem hol_mk {c:At} {f:Bool×G} {fs:List (Bool×G)} (h:hol c f) (h2:Hol c fs):Hol c (f :: fs):=fun x hx=>by
 cases hx with
 | head=>exact h
 | tail _ hx=>exact h2 x hx
noncomputable def dif (a b:Option Row) (k:Int):Option Row:=match a with
 | none=>none
 | some a=>match b with
  | none=>none
  | some b=>some (⟨addL b.l (mulL (-1) a.l),Int.add (Int.sub b.c a.c) k⟩)
theorem dif_ok {c:At} {a b:Option Row} {x y k:Int} {r:Row} (ha:∀ r,a=some r→x=r.ev c) (hb:∀ r,b=some r→y=r.ev c) (h:dif a b k=some r):r.ev c=y - x + k:=by
 cases a with
 | none=>cases h
 | some a=>
  cases b with
  | none=>cases h
  | some b=>
   cases h
   rw [ha a rfl,hb b rfl]
   show dot (addL _ _) c + (b.c - a.c + k)=(_ + _) - (_ + _) + k
   rw [dot_add,dot_mul];omega
noncomputable def push (o:Option Row) (rs:List Row):List Row:=match o with
 | none=>rs
 | some r=>r :: rs
theorem push_ok {c:At} {o:Option Row} {rs:List Row} (h:∀ r,o=some r→0≤r.ev c) (hr:Sat c rs):Sat c (push o rs):=by
 cases o with
 | none=>exact hr
 | some r=>exact sat_mk (h r rfl) hr
theorem pushE_ok {c:At} {o:Option Row} {rs:List Row} (h:∀ r,o=some r→r.ev c=0) (hr:SatE c rs):SatE c (push o rs):=by
 cases o with
 | none=>exact hr
 | some r=>exact sate_mk (h r rfl) hr
noncomputable def ref (c:At) (n:Nat):Nat→List (Bool×G)→List (Bool×G)→List Row→List Row→Bool
 | 0,_,_,_,_=>false
 | k + 1,[],ws,es,rs=>(match fm n es rs with
  | true=>true
  | false=>match ws with
   | []=>false
   | (s,g) :: ws=>match g with
    | .and a b=>(match s with
     | false=>(match ref c n k [(false,a)] ws es rs with
      | true=>ref c n k [(false,b)] ws es rs
      | false=>false)
     | true=>false)
    | .or a b=>(match s with
     | true=>(match ref c n k [(true,a)] ws es rs with
      | true=>ref c n k [(true,b)] ws es rs
      | false=>false)
     | false=>false)
    | .imp a b=>(match s with
     | true=>(match ref c n k [(false,a)] ws es rs with
      | true=>ref c n k [(true,b)] ws es rs
      | false=>false)
     | false=>false)
    | .iff a b=>(match s with
     | true=>(match ref c n k [(true,a),(true,b)] ws es rs with
      | true=>ref c n k [(false,a),(false,b)] ws es rs
      | false=>false)
     | false=>(match ref c n k [(true,a),(false,b)] ws es rs with
      | true=>ref c n k [(false,a),(true,b)] ws es rs
      | false=>false))
    | .eq a b=>(match s with
     | false=>(match ref c n k [(true,.lt a b)] ws es rs with
      | true=>ref c n k [(true,.lt b a)] ws es rs
      | false=>false)
     | true=>false)
    | .eqN a b=>(match s with
     | false=>(match ref c n k [(true,.ltN a b)] ws es rs with
      | true=>ref c n k [(true,.ltN b a)] ws es rs
      | false=>false)
     | true=>false)
    | _=>false)
 | k + 1,(s,g) :: t,ws,es,rs=>(match g with
  | .le a b=>(match s with
   | true=>ref c n k t ws es (push (dif (lI c a) (lI c b) 0) rs)
   | false=>ref c n k t ws es (push (dif (lI c b) (lI c a) (-1)) rs))
  | .lt a b=>(match s with
   | true=>ref c n k t ws es (push (dif (lI c a) (lI c b) (-1)) rs)
   | false=>ref c n k t ws es (push (dif (lI c b) (lI c a) 0) rs))
  | .leN a b=>(match s with
   | true=>ref c n k t ws es (push (dif (lN c a) (lN c b) 0) rs)
   | false=>ref c n k t ws es (push (dif (lN c b) (lN c a) (-1)) rs))
  | .ltN a b=>(match s with
   | true=>ref c n k t ws es (push (dif (lN c a) (lN c b) (-1)) rs)
   | false=>ref c n k t ws es (push (dif (lN c b) (lN c a) 0) rs))
  | .eq a b=>(match s with
   | true=>ref c n k t ws (push (dif (lI c a) (lI c b) 0) es) rs
   | false=>ref c n k t ((s,g) :: ws) es rs)
  | .eqN a b=>(match s with
   | true=>ref c n k t ws (push (dif (lN c a) (lN c b) 0) es) rs
   | false=>ref c n k t ((s,g) :: ws) es rs)
  | .and a b=>(match s with
   | true=>ref c n k ((true,a) :: (true,b) :: t) ws es rs
   | false=>ref c n k t ((s,g) :: ws) es rs)
  | .or a b=>(match s with
   | false=>ref c n k ((false,a) :: (false,b) :: t) ws es rs
   | true=>ref c n k t ((s,g) :: ws) es rs)
  | .imp a b=>(match s with
   | false=>ref c n k ((true,a) :: (false,b) :: t) ws es rs
   | true=>ref c n k t ((s,g) :: ws) es rs)
  | .iff _ _=>ref c n k t ((s,g) :: ws) es rs
  | .not a=>ref c n k ((!s,a) :: t) ws es rs
  | .ff=>(match s with
   | true=>true
   | false=>ref c n k t ws es rs)
  | _=>ref c n k t ws es rs)
theorem both {a b:Bool} (h:(match a with | true=>b | false=>false)=true):a=true∧b=true:=by
 cases a with
 | true=>exact⟨rfl,h⟩
 | false=>cases h
theorem gI_row {c:At} (a:G):∀ r,lI c a=some r→gI c a=r.ev c:=fun _ h=>lI_ok c a h
theorem gN_row {c:At} (a:G):∀ r,lN c a=some r→((gN c a:Nat):Int)=r.ev c:=fun _ h=>lN_ok c a h
theorem one {c:At} {f:Bool×G} (h:hol c f):Hol c [f]:=hol_mk h fun _ h=>nomatch h
theorem two {c:At} {f g:Bool×G} (h:hol c f) (h2:hol c g):Hol c [f,g]:=hol_mk h (one h2)
theorem T1 {c:At} {a:G} (h:gP c a):hol c (true,a):=h
theorem F1 {c:At} {a:G} (h:¬ gP c a):hol c (false,a):=h
theorem hnone {c:At}:Hol c []:=fun _ h=>nomatch h
theorem m2 {b x:Bool} (h:(match b with | true=>true | false=>x)=true):b=true∨x=true:=by
 cases b with
 | true=>exact .inl rfl
 | false=>exact .inr h
theorem ref_ok (c:At) (n:Nat):∀ (k:Nat) {t ws:List (Bool×G)} {es rs:List Row},Hol c t→Hol c ws→SatE c es→Sat c rs→ref c n k t ws es rs=true→False
 | 0,_,_,_,_,_,_,_,_,h=>Bool.noConfusion h
 | k + 1,[],ws,es,rs,_,hw,he,hr,h=>by
  have ih:=@ref_ok c n k
  rcases m2 (b:=fm n es rs) h with hf | h
  ·exact fm_ok n he hr hf
  ·match ws,hw,h with
   | [],_,h=>exact Bool.noConfusion h
   | (s,g) :: ws,hw,h=>
    obtain⟨hg,hw⟩:=hol_cons hw
    have br:∀ {x y:List (Bool×G)},Hol c x∨Hol c y→(match ref c n k x ws es rs with | true=>ref c n k y ws es rs | false=>false)=true→False:=fun hh h=>by
     obtain⟨h1,h2⟩:=both h
     exact hh.elim (fun q=>ih q hw he hr h1) fun q=>ih q hw he hr h2
    cases g with
    | and a b=>
     cases s with
     | true=>exact Bool.noConfusion h
     | false=>exact br ((Classical.em (gP c a)).elim (fun p=>.inr (one (F1 fun q=>hg ⟨p,q⟩))) fun p=>.inl (one (F1 p))) h
    | or a b=>
     cases s with
     | false=>exact Bool.noConfusion h
     | true=>exact br (hg.elim (fun p=>.inl (one (T1 p))) fun p=>.inr (one (T1 p))) h
    | imp a b=>
     cases s with
     | false=>exact Bool.noConfusion h
     | true=>exact br ((Classical.em (gP c a)).elim (fun p=>.inr (one (T1 (hg p)))) fun p=>.inl (one (F1 p))) h
    | iff a b=>
     have hb:=Classical.em (gP c b)
     cases s with
     | true=>exact br ((Classical.em (gP c a)).elim (fun p=>.inl (two (T1 p) (T1 (hg.1 p)))) fun p=>.inr (two (F1 p) (F1 fun q=>p (hg.2 q)))) h
     | false=>exact br ((Classical.em (gP c a)).elim (fun p=>.inl (two (T1 p) (F1 fun q=>hg ⟨fun _=>q,fun _=>p⟩))) fun p=>.inr (two (F1 p) (T1 (hb.elim id fun q=>(hg ⟨fun x=>(p x).elim,fun x=>(q x).elim⟩).elim)))) h
    | eq a b=>
     cases s with
     | true=>exact Bool.noConfusion h
     | false=>exact br ((Int.lt_or_gt_of_ne hg).elim (fun p=>.inl (one (T1 (a:=.lt a b) p))) fun p=>.inr (one (T1 (a:=.lt b a) p))) h
    | eqN a b=>
     cases s with
     | true=>exact Bool.noConfusion h
     | false=>exact br ((Nat.lt_or_gt_of_ne hg).elim (fun p=>.inl (one (T1 (a:=.ltN a b) p))) fun p=>.inr (one (T1 (a:=.ltN b a) p))) h
    | _=>exact Bool.noConfusion h
 | k + 1,(s,g) :: t,ws,es,rs,ht,hw,he,hr,h=>by
  have ih:=@ref_ok c n k
  obtain⟨hg,hT⟩:=hol_cons ht
  clear ht
  have lt:=fun {a b:G} {d:Int} (q:0≤gI c b - gI c a + d) (h:ref c n k t ws es (push (dif (lI c a) (lI c b) d) rs)=true)=>
   ih hT hw he (push_ok (fun r e=>by rw [dif_ok (gI_row a) (gI_row b) e];exact q) hr) h
  have ltN:=fun {a b:G} {d:Int} (q:0≤((gN c b:Nat):Int) - (gN c a:Nat) + d) (h:ref c n k t ws es (push (dif (lN c a) (lN c b) d) rs)=true)=>
   ih hT hw he (push_ok (fun r e=>by rw [dif_ok (gN_row a) (gN_row b) e];exact q) hr) h
  cases g with
  | le a b=>
   cases s with
   | true=>exact lt (by have:gI c a≤gI c b:=hg;omega) h
   | false=>exact lt (by have:¬ gI c a≤gI c b:=hg;omega) h
  | lt a b=>
   cases s with
   | true=>exact lt (by have:gI c a < gI c b:=hg;omega) h
   | false=>exact lt (by have:¬ gI c a < gI c b:=hg;omega) h
  | leN a b=>
   cases s with
   | true=>exact ltN (by have:gN c a≤gN c b:=hg;omega) h
   | false=>exact ltN (by have:¬ gN c a≤gN c b:=hg;omega) h
  | ltN a b=>
   cases s with
   | true=>exact ltN (by have:gN c a < gN c b:=hg;omega) h
   | false=>exact ltN (by have:¬ gN c a < gN c b:=hg;omega) h
  | eq a b=>
   cases s with
   | true=>exact ih hT hw (pushE_ok (fun r e=>by rw [dif_ok (gI_row a) (gI_row b) e];have:gI c a=gI c b:=hg;omega) he) hr h
   | false=>exact ih hT (hol_mk hg hw) he hr h
  | eqN a b=>
   cases s with
   | true=>exact ih hT hw (pushE_ok (fun r e=>by rw [dif_ok (gN_row a) (gN_row b) e];have:gN c a=gN c b:=hg;omega) he) hr h
   | false=>exact ih hT (hol_mk hg hw) he hr h
  | and a b=>
   cases s with
   | true=>exact ih (hol_mk (f:=(true,a)) hg.1 (hol_mk (f:=(true,b)) hg.2 hT)) hw he hr h
   | false=>exact ih hT (hol_mk hg hw) he hr h
  | or a b=>
   cases s with
   | false=>exact ih (hol_mk (f:=(false,a)) (fun q=>hg (.inl q)) (hol_mk (f:=(false,b)) (fun q=>hg (.inr q)) hT)) hw he hr h
   | true=>exact ih hT (hol_mk hg hw) he hr h
  | imp a b=>
   cases s with
   | false=>exact ih (hol_mk (f:=(true,a)) (Classical.byContradiction fun q=>hg fun x=>(q x).elim) (hol_mk (f:=(false,b)) (fun q=>hg fun _=>q) hT)) hw he hr h
   | true=>exact ih hT (hol_mk hg hw) he hr h
  | iff a b=>exact ih hT (hol_mk hg hw) he hr h
  | not a=>
   cases s with
   | true=>exact ih (hol_mk (f:=(false,a)) hg hT) hw he hr h
   | false=>exact ih (hol_mk (f:=(true,a)) (Classical.not_not.1 hg) hT) hw he hr h
  | ff=>
   cases s with
   | true=>exact hg
   | false=>exact ih hT hw he hr h
  | _=>exact ih hT hw he hr h
noncomputable def nns (c:At):Nat→List Row
 | 0=>[]
 | i + 1=>(match c.isN i with
  | true=>⟨unit i,0⟩ :: nns c i
  | false=>nns c i)
theorem nns_ok (c:At):∀ i,Sat c (nns c i)
 | 0=>fun _ h=>nomatch h
 | i + 1=>by
  unfold nns
  cases e:c.isN i with
  | true=>
   refine sat_mk ?_ (nns_ok c i)
   show 0≤dot (unit i) c + 0
   rw [dot_unit,← At.nat_int c i e];omega
  | false=>exact nns_ok c i
noncomputable def At.len:At→Nat
 | .o=>0
 | .z _ r=>Nat.succ r.len
 | .n _ r=>Nat.succ r.len
noncomputable def wrd (t acc:Nat) (st:List G):Nat×List G:=
 match Nat.ble 35 t with
 | true=>(acc,.at (Nat.sub t 35) :: st)
 | false=>match t with
  | 16=>(0,.lit acc :: st)
  | 17=>(acc,match st with | b :: a :: st=>.add a b :: st | st=>st)
  | 18=>(acc,match st with | b :: a :: st=>.sub a b :: st | st=>st)
  | 19=>(acc,match st with | b :: a :: st=>.mul a b :: st | st=>st)
  | 20=>(acc,match st with | a :: st=>.neg a :: st | st=>st)
  | 21=>(acc,match st with | a :: st=>.cast a :: st | st=>st)
  | 22=>(acc,match st with | b :: a :: st=>.le a b :: st | st=>st)
  | 23=>(acc,match st with | b :: a :: st=>.lt a b :: st | st=>st)
  | 24=>(acc,match st with | b :: a :: st=>.eq a b :: st | st=>st)
  | 25=>(acc,match st with | b :: a :: st=>.leN a b :: st | st=>st)
  | 26=>(acc,match st with | b :: a :: st=>.ltN a b :: st | st=>st)
  | 27=>(acc,match st with | b :: a :: st=>.eqN a b :: st | st=>st)
  | 28=>(acc,match st with | b :: a :: st=>.and a b :: st | st=>st)
  | 29=>(acc,match st with | b :: a :: st=>.or a b :: st | st=>st)
  | 30=>(acc,match st with | a :: st=>.not a :: st | st=>st)
  | 31=>(acc,match st with | b :: a :: st=>.imp a b :: st | st=>st)
  | 32=>(acc,match st with | b :: a :: st=>.iff a b :: st | st=>st)
  | 33=>(acc,.ff :: st)
  | d=>(Nat.add (Nat.mul 16 acc) d,st)
noncomputable def txt:Nat→Nat→Nat→List G→G
 | 0,_,_,_=>.ff
 | k + 1,code,acc,st=>match code with
  | 0=>(match st with
   | g :: _=>g
   | []=>.ff)
  | code=>match wrd (Nat.mod code 64) acc st with
   | (acc,st)=>txt k (Nat.div code 64) acc st
noncomputable def lawful (c:At) (g:G):Bool:=ref c c.len 400 [(false,g)] [] [] (nns c c.len)
noncomputable def Pr (c:At) (code:Nat):Prop:=match lawful c (txt 1000 code 0 []) with
 | true=>gP c (txt 1000 code 0 [])
 | false=>True
theorem pr (c:At) (code:Nat):Pr c code:=by
 show match lawful c (txt 1000 code 0 []) with
  | true=>gP c (txt 1000 code 0 [])
  | false=>True
 cases h:lawful c (txt 1000 code 0 []) with
 | true=>
  refine Classical.byContradiction fun q=>ref_ok c _ _ (one (f:=(false,_)) q) hnone (es:=[]) (fun _ h=>nomatch h) (nns_ok c _) h
 | false=>trivial
section
variable {A B C D E F G H I J R:Prop}
theorem li0 (c:At) (n:Nat) (q:R=Pr c n:=by kernel_rfl):R:=cast q.symm (pr c n)
theorem li1 (c:At) (n:Nat) (a:A) (q:(A→R)=Pr c n:=by kernel_rfl):R:=cast q.symm (pr c n) a
theorem li2 (c:At) (n:Nat) (a:A) (b:B) (q:(A→B→R)=Pr c n:=by kernel_rfl):R:=cast q.symm (pr c n) a b
theorem li3 (c:At) (n:Nat) (a:A) (b:B) (x:C) (q:(A→B→C→R)=Pr c n:=by kernel_rfl):R:=cast q.symm (pr c n) a b x
theorem li4 (c:At) (n:Nat) (a:A) (b:B) (x:C) (d:D) (q:(A→B→C→D→R)=Pr c n:=by kernel_rfl):R:=cast q.symm (pr c n) a b x d
theorem li5 (c:At) (n:Nat) (a:A) (b:B) (y:C) (d:D) (e:E) (q:(A→B→C→D→E→R)=Pr c n:=by kernel_rfl):R:=cast q.symm (pr c n) a b y d e
theorem li6 (c:At) (n:Nat) (a:A) (b:B) (y:C) (d:D) (e:E) (f:F) (q:(A→B→C→D→E→F→R)=Pr c n:=by kernel_rfl):R:=cast q.symm (pr c n) a b y d e f
theorem li7 (c:At) (n:Nat) (a:A) (b:B) (y:C) (d:D) (e:E) (f:F) (g:G) (q:(A→B→C→D→E→F→G→R)=Pr c n:=by kernel_rfl):R:=cast q.symm (pr c n) a b y d e f g
theorem li8 (c:At) (n:Nat) (a:A) (b:B) (y:C) (d:D) (e:E) (f:F) (g:G) (h:H) (q:(A→B→C→D→E→F→G→H→R)=Pr c n:=by kernel_rfl):R:=cast q.symm (pr c n) a b y d e f g h
theorem li9 (c:At) (n:Nat) (a:A) (b:B) (y:C) (d:D) (e:E) (f:F) (g:G) (h:H) (i:I) (q:(A→B→C→D→E→F→G→H→I→R)=Pr c n:=by kernel_rfl):R:=cast q.symm (pr c n) a b y d e f g h i
theorem li10 (c:At) (n:Nat) (a:A) (b:B) (y:C) (d:D) (e:E) (f:F) (g:G) (h:H) (i:I) (j:J) (q:(A→B→C→D→E→F→G→H→I→J→R)=Pr c n:=by kernel_rfl):R:=cast q.symm (pr c n) a b y d e f g h i j
end
theorem ldi (x k:Int) (h:decide (0 < k)=true:=by rfl):k * (x / k)≤x∧x < k * (x / k) + k:=by
 have h:=of_decide_eq_true h
 have h3:=Int.mul_ediv_add_emod x k
 refine⟨?_,?_⟩
 ·exact Int.le_of_sub_nonneg (by rw [← Int.emod_def];exact Int.emod_nonneg x (Int.ne_of_gt h))
 ·have:=Int.add_lt_add_left (Int.emod_lt_of_pos x h) (k * (x / k))
  rwa [h3] at this
theorem lmi (x k:Int) (h:decide (0 < k)=true:=by rfl):0≤x % k∧x % k < k∧x % k=x - k * (x / k):=by
 have h:=of_decide_eq_true h
 exact⟨Int.emod_nonneg x (Int.ne_of_gt h),Int.emod_lt_of_pos x h,Int.emod_def x k⟩
theorem ldn (x k:Nat) (h:decide (0 < k)=true:=by rfl):k * (x / k)≤x∧x < k * (x / k) + k:=by
 have h:=of_decide_eq_true h
 refine⟨Nat.mul_div_le x k,?_⟩
 have:=Nat.add_lt_add_left (Nat.mod_lt x h) (k * (x / k))
 rwa [Nat.div_add_mod] at this
theorem lmo (x k:Nat) (h:decide (0 < k)=true:=by rfl):x % k < k∧k * (x / k) + x % k=x:=by
 have h:=of_decide_eq_true h
 exact⟨Nat.mod_lt x h,Nat.div_add_mod x k⟩
theorem lsn (a b:Nat):(b≤a∧a - b + b=a)∨(a < b∧a - b=0):=
 (Nat.lt_or_ge a b).elim (fun h=>.inr ⟨h,Nat.sub_eq_zero_of_le (Nat.le_of_lt h)⟩) fun h=>.inl ⟨h,Nat.sub_add_cancel h⟩
theorem ltn (x:Int):(0≤x∧((x.toNat:Nat):Int)=x)∨(x < 0∧x.toNat=0):=
 (Int.lt_or_le x 0).elim (fun h=>.inr ⟨h,Int.toNat_of_nonpos (Int.le_of_lt h)⟩) fun h=>.inl ⟨h,Int.toNat_of_nonneg h⟩
theorem lab (x:Int):(0≤x∧((x.natAbs:Nat):Int)=x)∨(x < 0∧((x.natAbs:Nat):Int)=-x):=
 (Int.lt_or_le x 0).elim (fun h=>.inr ⟨h,Int.ofNat_natAbs_of_nonpos (Int.le_of_lt h)⟩) fun h=>.inl ⟨h,Int.natAbs_of_nonneg h⟩
theorem lmn (a b:Int):(a≤b∧min a b=a)∨(b < a∧min a b=b):=
 (Int.lt_or_le b a).elim (fun h=>.inr ⟨h,Int.min_eq_right (Int.le_of_lt h)⟩) fun h=>.inl ⟨h,Int.min_eq_left h⟩
theorem lmx (a b:Int):(a≤b∧max a b=b)∨(b < a∧max a b=a):=
 (Int.lt_or_le b a).elim (fun h=>.inr ⟨h,Int.max_eq_left (Int.le_of_lt h)⟩) fun h=>.inl ⟨h,Int.max_eq_right h⟩
theorem lnn (a b:Nat):(a≤b∧min a b=a)∨(b < a∧min a b=b):=
 (Nat.lt_or_ge b a).elim (fun h=>.inr ⟨h,Nat.min_eq_right (Nat.le_of_lt h)⟩) fun h=>.inl ⟨h,Nat.min_eq_left h⟩
theorem lnx (a b:Nat):(a≤b∧max a b=b)∨(b < a∧max a b=a):=
 (Nat.lt_or_ge b a).elim (fun h=>.inr ⟨h,Nat.max_eq_left (Nat.le_of_lt h)⟩) fun h=>.inl ⟨h,Nat.max_eq_right h⟩
end Mine

section
set_option maxHeartbeats 8000000
namespace Mine
open PySem PySem.W PyProof.Rows
noncomputable def runT (p:Program) (w:World) (m:Nat) (ann:Option Value):Nat→SharedT→Thread→Option SharedT
 | 0,_,_=>none
 | n + 1,s,t=>match through t with
  | true=>some s
  | false=>match stepOk m ann t with
   | false=>none
   | true=>match stepT (denote treeTable) p w s t with
    | some (s',t')=>runT p w m ann n s' t'
    | none=>none
noncomputable def runQ (p:Program) (w:World) (m:Nat) (ann:Option Value):Nat→SharedT→Thread→Option SharedT
 | 0,_,_=>none
 | n + 1,s,t=>match through t with
  | true=>some s
  | false=>match Fast.tw6613529449190102663 m ann t with
   | false=>none
   | true=>match Fast.tw10156331382660048174 (Fast.tw11892475500146522536 Fast.tw14364793385576792824) p w s t with
    | some (s',t')=>runQ p w m ann n s' t'
    | none=>none
theorem runT_Q {p:Program} {w:World} {m:Nat} {ann:Option Value}:∀ (n:Nat) (s:SharedT) (t:Thread),runT p w m ann n s t=runQ p w m ann n s t
 | 0,_,_=>rfl
 | n + 1,s,t=>by
  have e1:@stepOk=Fast.tw6613529449190102663:=Fast.te6613529449190102663
  have e2:@stepT=Fast.tw10156331382660048174:=Fast.te10156331382660048174
  have e3:@denote=Fast.tw11892475500146522536:=Fast.te11892475500146522536
  have e4:treeTable=Fast.tw14364793385576792824:=Fast.te14364793385576792824
  have ih:=fun s t=>runT_Q (p:=p) (w:=w) (m:=m) (ann:=ann) n s t
  unfold runT runQ
  rw [← e1,← e2,← e3,← e4]
  cases through t with
  | true=>rfl
  | false=>
   cases stepOk m ann t with
   | false=>rfl
   | true=>
    cases stepT (denote treeTable) p w s t with
    | none=>rfl
    | some x=>exact ih _ _
theorem runT_top {p:Program} {w:World} {m:Nat} {ann:Option Value}:∀ {n:Nat} {s s':SharedT} {t:Thread},runT p w m ann n s t=some s'→topRun treeTable p w m ann n s.abs t=some s'.abs
 | 0,_,_,_,h=>by cases h
 | n + 1,s,s',t,h=>by
  unfold runT at h
  unfold topRun
  cases e:through t with
  | true=>rw [e] at h;cases h;rfl
  | false=>
   rw [e] at h
   cases k:stepOk m ann t with
   | false=>rw [k] at h;cases h
   | true=>
    rw [k] at h
    cases x:stepT (denote treeTable) p w s t with
    | none=>rw [x] at h;cases h
    | some y=>
     rw [x] at h
     rw [stepT_spec x]
     exact runT_top h
noncomputable def bootT (P:Params):BT:=((boot_heap P).objs.toList.foldl (fun (x:BT×Nat) o=>(x.1.ins x.2 o,x.2 + 1)) (.nil,0)).1
noncomputable def bootS (w:World) (os:OsState):SharedT:=⟨bootT w.params,11,(boot_heap w.params).life,#[],boot_drawn,boot_toks,os⟩
theorem boot_abs (w:World) (os:OsState):(bootS w os).abs=⟨boot_heap w.params,#[],boot_drawn,boot_toks,os⟩:=by kernel_rfl
theorem left_once {p q:Program} {loose:List Str} {Xt:Shared→Bool} {α:Type} {Yf:Shared→α} {Ya:World→α} {N M:Nat}
  (open_:∀ w:World,(fencedOpening treeTable p w N).map (fun s=>(s.heap,s.gens,s.drawn,s.toks))=some (boot_heap w.params,#[],boot_drawn,boot_toks))
  (le:Nat.ble M N=true)
  (run:∀ (w:World) (os:OsState),(runT p w 11 (some (.ref 6)) M (bootS w os) (topStub p)).map (fun s=>(staticsOk (importedModules p.main.body) (boot_heap w.params) s.abs.heap && namesBound p s.abs.heap && gensDone s.abs && laidKept (boot_heap w.params) s.abs.heap,
    openSeen q loose (importedModules p.main.body) Xt true s.abs,Yf s.abs))=some (true,openGood q loose,Ya w)):LeftO p q loose Xt Yf Ya N:=fun w=>by
 obtain⟨⟨h,gs,d,k,os⟩,e,e'⟩:=Option.map_eq_some_iff.mp (open_ w)
 obtain⟨rfl,rfl,rfl,rfl⟩:h=boot_heap w.params∧gs=#[]∧d=boot_drawn∧k=boot_toks:=by simpa using e'
 obtain⟨s,r,l⟩:=Option.map_eq_some_iff.mp (run w os)
 obtain⟨l1,l2,l3⟩:_∧_∧_:=by simpa only [Prod.mk.injEq] using l
 have r1:=runT_top r
 rw [boot_abs] at r1
 have r2:=topRun_mono (N - M) _ _ _ _ r1
 rw [show M + (N - M)=N by have:=Nat.le_of_ble_eq_true le;exact li2 (.n M (.n (N - M) (.n N .o))) (nat_lit 0x7df6e54648dd71b40091a8e571b9518e46658d9963) this (lsn (N) (M))] at r2
 have z1:((boot_heap w.params).isNs mainGlobals && (#[]:Array GenState).size == 0)=true:=by kernel_rfl
 have z2:(boot_heap w.params).objs.size=11:=by kernel_rfl
 have z3:(boot_heap w.params).nsMap mainGlobals "__annotations__" = some (.ref 6):=by kernel_rfl
 have t:topFrom treeTable p w N ⟨boot_heap w.params,#[],boot_drawn,boot_toks,os⟩=some s.abs:=by
  unfold topFrom
  dsimp only
  rw [z1,z2,z3,r2]
  show(match staticsOk (importedModules p.main.body) (boot_heap w.params) s.abs.heap && namesBound p s.abs.heap && gensDone s.abs && laidKept (boot_heap w.params) s.abs.heap with | true=>_ | false=>_)=_
  rw [l1]
 unfold openEnds
 rw [e]
 show(topFrom treeTable p w N _).map _=_
 rw [t]
 exact congrArg some (Prod.ext l2 l3)
end Mine
end

section
set_option maxHeartbeats 8000000
namespace Mine
open PySem PySem.W PyProof.Rows
noncomputable def initOf:List Stmt→Arguments×List Stmt×Scope
 | _ :: .ClassDef _ _ _ (.FunctionDef _ a b _ _ _ s _ _ _ :: _) _ _ _ _ _ _ _ :: _=>(a,b,s)
 | _=>(⟨[],[],none,[],[],none,[]⟩,[],⟨.function,[],false,false,[]⟩)
noncomputable def topK (P:Params):Frag:=[
 (3,(Obj.mk (Value.type "dict") (none) (Data.dict (List.toArray [(DictEntry.mk (PyData.keyHash P (Str.mk #[95,95,110,97,109,101,95,95])) (Value.str (Str.mk #[95,95,110,97,109,101,95,95]) 165) (Value.str (Str.mk #[108,97,119,95,110,116,48,52,51,50,95,48,49]) 588)),(DictEntry.mk (PyData.keyHash P (Str.mk #[95,95,100,111,99,95,95])) (Value.str (Str.mk #[95,95,100,111,99,95,95]) 166) Value.none),(DictEntry.mk (PyData.keyHash P (Str.mk #[95,95,112,97,99,107,97,103,101,95,95])) (Value.str (Str.mk #[95,95,112,97,99,107,97,103,101,95,95]) 167) Value.none),(DictEntry.mk (PyData.keyHash P (Str.mk #[95,95,108,111,97,100,101,114,95,95])) (Value.str (Str.mk #[95,95,108,111,97,100,101,114,95,95]) 168) (Value.builtin "__main__.__loader__#opaque")),(DictEntry.mk (PyData.keyHash P (Str.mk #[95,95,115,112,101,99,95,95])) (Value.str (Str.mk #[95,95,115,112,101,99,95,95]) 169) Value.none),(DictEntry.mk (PyData.keyHash P (Str.mk #[95,95,97,110,110,111,116,97,116,105,111,110,115,95,95])) (Value.str (Str.mk #[95,95,97,110,110,111,116,97,116,105,111,110,115,95,95]) 170) (Value.ref 6)),(DictEntry.mk (PyData.keyHash P (Str.mk #[95,95,98,117,105,108,116,105,110,115,95,95])) (Value.str (Str.mk #[95,95,98,117,105,108,116,105,110,115,95,95]) 171) (Value.ref 4)),(DictEntry.mk (PyData.keyHash P (Str.mk #[95,95,102,105,108,101,95,95])) (Value.str (Str.mk #[95,95,102,105,108,101,95,95]) 173) (Value.str (Str.mk #[47,99,108,97,105,109,47,99,117,116,46,112,121]) 172)),(DictEntry.mk (PyData.keyHash P (Str.mk #[95,95,99,97,99,104,101,100,95,95])) (Value.str (Str.mk #[95,95,99,97,99,104,101,100,95,95]) 174) Value.none),(DictEntry.mk (PyData.keyHash P (Str.mk #[67,104,101,115,115,69,114,114,111,114])) (Value.str (Str.mk #[67,104,101,115,115,69,114,114,111,114]) 217) (Value.ref 31)),(DictEntry.mk (PyData.keyHash P (Str.mk #[66,97,100,83,113,117,97,114,101])) (Value.str (Str.mk #[66,97,100,83,113,117,97,114,101]) 242) (Value.ref 51)),(DictEntry.mk (PyData.keyHash P (Str.mk #[66,97,100,80,105,101,99,101])) (Value.str (Str.mk #[66,97,100,80,105,101,99,101]) 267) (Value.ref 70)),(DictEntry.mk (PyData.keyHash P (Str.mk #[66,97,100,77,111,118,101])) (Value.str (Str.mk #[66,97,100,77,111,118,101]) 283) (Value.ref 82)),(DictEntry.mk (PyData.keyHash P (Str.mk #[87,72,73,84,69])) (Value.str (Str.mk #[87,72,73,84,69]) 287) (Value.int 0 286)),(DictEntry.mk (PyData.keyHash P (Str.mk #[66,76,65,67,75])) (Value.str (Str.mk #[66,76,65,67,75]) 289) (Value.int 1 288)),(DictEntry.mk (PyData.keyHash P (Str.mk #[78,79,95,75,73,78,68])) (Value.str (Str.mk #[78,79,95,75,73,78,68]) 291) (Value.int 0 290)),(DictEntry.mk (PyData.keyHash P (Str.mk #[80,65,87,78])) (Value.str (Str.mk #[80,65,87,78]) 293) (Value.int 1 292)),(DictEntry.mk (PyData.keyHash P (Str.mk #[75,78,73,71,72,84])) (Value.str (Str.mk #[75,78,73,71,72,84]) 295) (Value.int 2 294)),(DictEntry.mk (PyData.keyHash P (Str.mk #[66,73,83,72,79,80])) (Value.str (Str.mk #[66,73,83,72,79,80]) 297) (Value.int 3 296)),(DictEntry.mk (PyData.keyHash P (Str.mk #[82,79,79,75])) (Value.str (Str.mk #[82,79,79,75]) 299) (Value.int 4 298)),(DictEntry.mk (PyData.keyHash P (Str.mk #[81,85,69,69,78])) (Value.str (Str.mk #[81,85,69,69,78]) 301) (Value.int 5 300)),(DictEntry.mk (PyData.keyHash P (Str.mk #[69,77,80,84,89])) (Value.str (Str.mk #[69,77,80,84,89]) 303) (Value.int 0 302)),(DictEntry.mk (PyData.keyHash P (Str.mk #[80,82,79,77,79,84,73,79,78])) (Value.str (Str.mk #[80,82,79,77,79,84,73,79,78]) 305) (Value.int 1 304)),(DictEntry.mk (PyData.keyHash P (Str.mk #[69,78,95,80,65,83,83,65,78,84])) (Value.str (Str.mk #[69,78,95,80,65,83,83,65,78,84]) 307) (Value.int 2 306)),(DictEntry.mk (PyData.keyHash P (Str.mk #[67,65,83,84,76,73,78,71])) (Value.str (Str.mk #[67,65,83,84,76,73,78,71]) 309) (Value.int 3 308)),(DictEntry.mk (PyData.keyHash P (Str.mk #[76,69,84,84,69,82,83])) (Value.str (Str.mk #[76,69,84,84,69,82,83]) 311) (Value.str (Str.mk #[46,80,78,66,82,81,75,46,46,112,110,98,114,113,107]) 310)),(DictEntry.mk (PyData.keyHash P (Str.mk #[107,105,110,100,95,111,102])) (Value.str (Str.mk #[107,105,110,100,95,111,102]) 318) (Value.ref 91)),(DictEntry.mk (PyData.keyHash P (Str.mk #[105,115,95,112,105,101,99,101])) (Value.str (Str.mk #[105,115,95,112,105,101,99,101]) 325) (Value.ref 98)),(DictEntry.mk (PyData.keyHash P (Str.mk #[108,101,116,116,101,114,95,111,102])) (Value.str (Str.mk #[108,101,116,116,101,114,95,111,102]) 332) (Value.ref 105)),(DictEntry.mk (PyData.keyHash P (Str.mk #[109,111,118,101,95,102,114,111,109])) (Value.str (Str.mk #[109,111,118,101,95,102,114,111,109]) 339) (Value.ref 112)),(DictEntry.mk (PyData.keyHash P (Str.mk #[109,111,118,101,95,116,111])) (Value.str (Str.mk #[109,111,118,101,95,116,111]) 346) (Value.ref 119)),(DictEntry.mk (PyData.keyHash P (Str.mk #[109,111,118,101,95,115,112,101,99,105,97,108])) (Value.str (Str.mk #[109,111,118,101,95,115,112,101,99,105,97,108]) 353) (Value.ref 126)),(DictEntry.mk (PyData.keyHash P (Str.mk #[109,111,118,101,95,112,114,111,109,111])) (Value.str (Str.mk #[109,111,118,101,95,112,114,111,109,111]) 360) (Value.ref 133)),(DictEntry.mk (PyData.keyHash P (Str.mk #[83,72,79,82,84])) (Value.str (Str.mk #[83,72,79,82,84]) 364) (Value.str (Str.mk #[79,45,79]) 363)),(DictEntry.mk (PyData.keyHash P (Str.mk #[76,79,78,71])) (Value.str (Str.mk #[76,79,78,71]) 366) (Value.str (Str.mk #[79,45,79,45,79]) 365)),(DictEntry.mk (PyData.keyHash P (Str.mk #[116,97,107,101,115])) (Value.str (Str.mk #[116,97,107,101,115]) 374) (Value.ref 140)),(DictEntry.mk (PyData.keyHash P (Str.mk #[99,97,115,116,108,101,95,116,101,120,116])) (Value.str (Str.mk #[99,97,115,116,108,101,95,116,101,120,116]) 381) (Value.ref 147)),(DictEntry.mk (PyData.keyHash P (Str.mk #[99,117,116,95,115,105,103,110])) (Value.str (Str.mk #[99,117,116,95,115,105,103,110]) 388) (Value.ref 154)),(DictEntry.mk (PyData.keyHash P (Str.mk #[70,73,76,69,95,76,69,84,84,69,82,83])) (Value.str (Str.mk #[70,73,76,69,95,76,69,84,84,69,82,83]) 392) (Value.str (Str.mk #[97,98,99,100,101,102,103,104]) 391)),(DictEntry.mk (PyData.keyHash P (Str.mk #[82,65,78,75,95,68,73,71,73,84,83])) (Value.str (Str.mk #[82,65,78,75,95,68,73,71,73,84,83]) 394) (Value.str (Str.mk #[49,50,51,52,53,54,55,56]) 393)),(DictEntry.mk (PyData.keyHash P (Str.mk #[102,105,108,101,95,111,102])) (Value.str (Str.mk #[102,105,108,101,95,111,102]) 402) (Value.ref 161)),(DictEntry.mk (PyData.keyHash P (Str.mk #[114,97,110,107,95,111,102])) (Value.str (Str.mk #[114,97,110,107,95,111,102]) 410) (Value.ref 168)),(DictEntry.mk (PyData.keyHash P (Str.mk #[115,113,117,97,114,101,95,110,97,109,101])) (Value.str (Str.mk #[115,113,117,97,114,101,95,110,97,109,101]) 418) (Value.ref 175)),(DictEntry.mk (PyData.keyHash P (Str.mk #[114,101,97,100,95,115,113,117,97,114,101])) (Value.str (Str.mk #[114,101,97,100,95,115,113,117,97,114,101]) 429) (Value.ref 182)),(DictEntry.mk (PyData.keyHash P (Str.mk #[108,111,110,103,95,111,102])) (Value.str (Str.mk #[108,111,110,103,95,111,102]) 442) (Value.ref 189)),(DictEntry.mk (PyData.keyHash P (Str.mk #[112,105,99,107,95,108,111,110,103])) (Value.str (Str.mk #[112,105,99,107,95,108,111,110,103]) 455) (Value.ref 196)),(DictEntry.mk (PyData.keyHash P (Str.mk #[105,99,99,102,95,115,113,117,97,114,101])) (Value.str (Str.mk #[105,99,99,102,95,115,113,117,97,114,101]) 463) (Value.ref 203)),(DictEntry.mk (PyData.keyHash P (Str.mk #[105,99,99,102,95,112,114,111,109,111])) (Value.str (Str.mk #[105,99,99,102,95,112,114,111,109,111]) 470) (Value.ref 210)),(DictEntry.mk (PyData.keyHash P (Str.mk #[105,99,99,102,95,111,102])) (Value.str (Str.mk #[105,99,99,102,95,111,102]) 479) (Value.ref 217)),(DictEntry.mk (PyData.keyHash P (Str.mk #[114,101,97,100,95,105,99,99,102])) (Value.str (Str.mk #[114,101,97,100,95,105,99,99,102]) 492) (Value.ref 224)),(DictEntry.mk (PyData.keyHash P (Str.mk #[112,105,99,107,95,105,99,99,102])) (Value.str (Str.mk #[112,105,99,107,95,105,99,99,102]) 506) (Value.ref 231)),(DictEntry.mk (PyData.keyHash P (Str.mk #[110,117,109,98,101,114,95,108,105,110,101])) (Value.str (Str.mk #[110,117,109,98,101,114,95,108,105,110,101]) 517) (Value.ref 238)),(DictEntry.mk (PyData.keyHash P (Str.mk #[115,112,108,105,116,95,110,117,109,98,101,114])) (Value.str (Str.mk #[115,112,108,105,116,95,110,117,109,98,101,114]) 526) (Value.ref 245)),(DictEntry.mk (PyData.keyHash P (Str.mk #[105,115,95,110,117,109,98,101,114,95,114,105,103,104,116])) (Value.str (Str.mk #[105,115,95,110,117,109,98,101,114,95,114,105,103,104,116]) 536) (Value.ref 252)),(DictEntry.mk (PyData.keyHash P (Str.mk #[115,112,108,105,116,95,108,105,110,101])) (Value.str (Str.mk #[115,112,108,105,116,95,108,105,110,101]) 551) (Value.ref 259)),(DictEntry.mk (PyData.keyHash P (Str.mk #[112,114,111,109,111,95,108,101,116,116,101,114])) (Value.str (Str.mk #[112,114,111,109,111,95,108,101,116,116,101,114]) 560) (Value.ref 266)),(DictEntry.mk (PyData.keyHash P (Str.mk #[114,101,97,100,95,99,111,111,114,100,115])) (Value.str (Str.mk #[114,101,97,100,95,99,111,111,114,100,115]) 573) (Value.ref 273)),(DictEntry.mk (PyData.keyHash P (Str.mk #[102,105,110,100,95,109,111,118,101])) (Value.str (Str.mk #[102,105,110,100,95,109,111,118,101]) 587) (Value.ref 280)),(DictEntry.mk (PyData.keyHash P (Str.mk #[95,108,97,119,95,115,105,103,110,115])) (Value.str (Str.mk #[95,108,97,119,95,115,105,103,110,115]) 591) (Value.str (Str.mk #[97,98,99,100,101,102,103,104,49,50,51,52,53,54,55,56,78,66,82,81,110,114,113,120,61,43,35,79,45,48,32,46]) 590)),(DictEntry.mk (PyData.keyHash P (Str.mk #[95,108,97,119,95,115,104,97,112,101,115])) (Value.str (Str.mk #[95,108,97,119,95,115,104,97,112,101,115]) 597) (Value.ref 287)),(DictEntry.mk (PyData.keyHash P (Str.mk #[95,108,97,119,95,112,105,101,99,101,115])) (Value.str (Str.mk #[95,108,97,119,95,112,105,101,99,101,115]) 603) (Value.ref 294)),(DictEntry.mk (PyData.keyHash P (Str.mk #[95,108,97,119,95,114,111,97,100,115])) (Value.str (Str.mk #[95,108,97,119,95,114,111,97,100,115]) 626) (Value.ref 303)),(DictEntry.mk (PyData.keyHash P (Str.mk #[95,108,97,119,95,106,117,109,112,115])) (Value.str (Str.mk #[95,108,97,119,95,106,117,109,112,115]) 651) (Value.ref 312)),(DictEntry.mk (PyData.keyHash P (Str.mk #[95,108,97,119,95,108,101,116,116,101,114,115])) (Value.str (Str.mk #[95,108,97,119,95,108,101,116,116,101,114,115]) 657) (Value.ref 319)),(DictEntry.mk (PyData.keyHash P (Str.mk #[95,108,97,119,95,97,116])) (Value.str (Str.mk #[95,108,97,119,95,97,116]) 665) (Value.ref 326)),(DictEntry.mk (PyData.keyHash P (Str.mk #[95,108,97,119,95,103,111])) (Value.str (Str.mk #[95,108,97,119,95,103,111]) 676) (Value.ref 333)),(DictEntry.mk (PyData.keyHash P (Str.mk #[95,108,97,119,95,115,101,101,110])) (Value.str (Str.mk #[95,108,97,119,95,115,101,101,110]) 691) (Value.ref 340)),(DictEntry.mk (PyData.keyHash P (Str.mk #[95,108,97,119,95,100,114,97,119])) (Value.str (Str.mk #[95,108,97,119,95,100,114,97,119]) 709) (Value.ref 347)),(DictEntry.mk (PyData.keyHash P (Str.mk #[95,108,97,119,95,112,97,119,110,95,103,111,97,108,115])) (Value.str (Str.mk #[95,108,97,119,95,112,97,119,110,95,103,111,97,108,115]) 723) (Value.ref 354)),(DictEntry.mk (PyData.keyHash P (Str.mk #[95,108,97,119,95,99,97,115,116,108,105,110,103,115])) (Value.str (Str.mk #[95,108,97,119,95,99,97,115,116,108,105,110,103,115]) 738) (Value.ref 361)),(DictEntry.mk (PyData.keyHash P (Str.mk #[95,108,97,119,95,109,111,118,101,115])) (Value.str (Str.mk #[95,108,97,119,95,109,111,118,101,115]) 744) (Value.ref 366)),(DictEntry.mk (PyData.keyHash P (Str.mk #[95,108,97,119,95,110,117,109,98,101,114])) (Value.str (Str.mk #[95,108,97,119,95,110,117,109,98,101,114]) 752) (Value.ref 373)),(DictEntry.mk (PyData.keyHash P (Str.mk #[95,108,97,119,95,110,97,109,101])) (Value.str (Str.mk #[95,108,97,119,95,110,97,109,101]) 760) (Value.ref 380)),(DictEntry.mk (PyData.keyHash P (Str.mk #[95,108,97,119,95,108,111,110,103])) (Value.str (Str.mk #[95,108,97,119,95,108,111,110,103]) 775) (Value.ref 387)),(DictEntry.mk (PyData.keyHash P (Str.mk #[95,108,97,119,95,100,105,103,105,116,115])) (Value.str (Str.mk #[95,108,97,119,95,100,105,103,105,116,115]) 785) (Value.ref 394)),(DictEntry.mk (PyData.keyHash P (Str.mk #[95,108,97,119,95,98,101,110,100])) (Value.str (Str.mk #[95,108,97,119,95,98,101,110,100]) 798) (Value.ref 401)),(DictEntry.mk (PyData.keyHash P (Str.mk #[95,108,97,119,95,112,105,99,107,101,100])) (Value.str (Str.mk #[95,108,97,119,95,112,105,99,107,101,100]) 808) (Value.ref 408)),(DictEntry.mk (PyData.keyHash P (Str.mk #[95,108,97,119,95,110,97,109,101,100])) (Value.str (Str.mk #[95,108,97,119,95,110,97,109,101,100]) 817) (Value.ref 415)),(DictEntry.mk (PyData.keyHash P (Str.mk #[95,108,97,119,95,115,111,117,103,104,116])) (Value.str (Str.mk #[95,108,97,119,95,115,111,117,103,104,116]) 826) (Value.ref 422)),(DictEntry.mk (PyData.keyHash P (Str.mk #[95,108,97,119,95,102,105,110,100])) (Value.str (Str.mk #[95,108,97,119,95,102,105,110,100]) 835) (Value.ref 429)),(DictEntry.mk (PyData.keyHash P (Str.mk #[95,108,97,119,95,109,111,118,101,115,95,116,111,108,100])) (Value.str (Str.mk #[95,108,97,119,95,109,111,118,101,115,95,116,111,108,100]) 841) (Value.ref 434)),(DictEntry.mk (PyData.keyHash P (Str.mk #[95,108,97,119,95,114,101,97,100])) (Value.str (Str.mk #[95,108,97,119,95,114,101,97,100]) 855) (Value.ref 441)),(DictEntry.mk (PyData.keyHash P (Str.mk #[95,108,97,119,95,115,112,108,105,116])) (Value.str (Str.mk #[95,108,97,119,95,115,112,108,105,116]) 864) (Value.ref 448)),(DictEntry.mk (PyData.keyHash P (Str.mk #[108,97,119])) (Value.str (Str.mk #[108,97,119]) 879) (Value.ref 455))]) 84) (List.toArray []))),
 (27,(Obj.mk (Value.type "code") (none) (Data.fields (List.toArray [(Value.str (Str.mk #[95,95,105,110,105,116,95,95]) 201),(Value.str (Str.mk #[67,104,101,115,115,69,114,114,111,114,46,95,95,105,110,105,116,95,95]) 202),(Value.str (Str.mk #[47,99,108,97,105,109,47,99,117,116,46,112,121]) 203),(Value.int 4 0),(Value.int 2 0),(Value.int 0 0),(Value.int 0 0),(Value.int 3 0),(Value.ref 22),(Value.bool true),(Value.int 181 0),(Value.ref 23),Value.none,(Value.ref 24),(Value.ref 25),(Value.ref 26),(Value.int 206 0),(Value.int 4 0),(Value.str (Str.mk #[47,99,108,97,105,109,47,99,117,116,46,112,121]) 207)])) (List.toArray []))),
 (28,(Obj.mk (Value.type "function") (none) (Data.func (PySem.FuncData.mk (Str.mk #[95,95,105,110,105,116,95,95]) (Str.mk #[67,104,101,115,115,69,114,114,111,114,46,95,95,105,110,105,116,95,95]) (initOf PySem.Challenge.pw_nt0432_01.main.body).1 (PySem.FuncBody.stmts (initOf PySem.Challenge.pw_nt0432_01.main.body).2.1) (initOf PySem.Challenge.pw_nt0432_01.main.body).2.2 3 [] Value.none Value.none Value.none (Value.str (Str.mk #[99,104,101,115,115,46,101,114,114,111,114,115]) 187) (none) (Value.ref 27) Value.none 0)) (List.toArray []))),
 (30,(Obj.mk (Value.type "dict") (none) (Data.dict (List.toArray [(DictEntry.mk (PyData.keyHash P (Str.mk #[95,95,109,111,100,117,108,101,95,95])) (Value.str (Str.mk #[95,95,109,111,100,117,108,101,95,95]) 196) (Value.str (Str.mk #[99,104,101,115,115,46,101,114,114,111,114,115]) 187)),(DictEntry.mk (PyData.keyHash P (Str.mk #[95,95,102,105,114,115,116,108,105,110,101,110,111,95,95])) (Value.str (Str.mk #[95,95,102,105,114,115,116,108,105,110,101,110,111,95,95]) 200) (Value.int 2 199)),(DictEntry.mk (PyData.keyHash P (Str.mk #[95,95,105,110,105,116,95,95])) (Value.str (Str.mk #[95,95,105,110,105,116,95,95]) 208) (Value.ref 28)),(DictEntry.mk (PyData.keyHash P (Str.mk #[95,95,115,116,97,116,105,99,95,97,116,116,114,105,98,117,116,101,115,95,95])) (Value.str (Str.mk #[95,95,115,116,97,116,105,99,95,97,116,116,114,105,98,117,116,101,115,95,95]) 210) (Value.ref 29)),(DictEntry.mk (PyData.keyHash P (Str.mk #[95,95,119,101,97,107,114,101,102,95,95])) (Value.str (Str.mk #[95,95,119,101,97,107,114,101,102,95,95]) 212) (Value.ref 32)),(DictEntry.mk (PyData.keyHash P (Str.mk #[95,95,100,111,99,95,95])) (Value.str (Str.mk #[95,95,100,111,99,95,95]) 213) Value.none)]) 3) (List.toArray []))),
 (31,(Obj.mk (Value.type "type") (none) (Data.cls (PySem.ClassData.mk (Str.mk #[67,104,101,115,115,69,114,114,111,114]) [(Value.type "Exception")] [(Value.ref 31),(Value.type "Exception"),(Value.type "BaseException"),(Value.type "object")] 30 (Str.mk #[67,104,101,115,115,69,114,114,111,114]) true [] [(Value.ref 51),(Value.ref 70),(Value.ref 82)] false (none) false)) (List.toArray [(some (Value.ref 15)),(none),(some (Value.str (Str.mk #[67,104,101,115,115,69,114,114,111,114]) 189)),(some (Value.str (Str.mk #[67,104,101,115,115,69,114,114,111,114]) 197)),(some (Value.builtin "Exception.__new__")),(some (Value.bool true))]))),
 (81,(Obj.mk (Value.type "dict") (none) (Data.dict (List.toArray [(DictEntry.mk (PyData.keyHash P (Str.mk #[95,95,109,111,100,117,108,101,95,95])) (Value.str (Str.mk #[95,95,109,111,100,117,108,101,95,95]) 275) (Value.str (Str.mk #[99,104,101,115,115,46,101,114,114,111,114,115]) 187)),(DictEntry.mk (PyData.keyHash P (Str.mk #[95,95,102,105,114,115,116,108,105,110,101,110,111,95,95])) (Value.str (Str.mk #[95,95,102,105,114,115,116,108,105,110,101,110,111,95,95]) 279) (Value.int 17 278)),(DictEntry.mk (PyData.keyHash P (Str.mk #[95,95,115,116,97,116,105,99,95,97,116,116,114,105,98,117,116,101,115,95,95])) (Value.str (Str.mk #[95,95,115,116,97,116,105,99,95,97,116,116,114,105,98,117,116,101,115,95,95]) 280) (Value.ref 80)),(DictEntry.mk (PyData.keyHash P (Str.mk #[95,95,100,111,99,95,95])) (Value.str (Str.mk #[95,95,100,111,99,95,95]) 281) Value.none)]) 2) (List.toArray []))),
 (82,(Obj.mk (Value.type "type") (none) (Data.cls (PySem.ClassData.mk (Str.mk #[66,97,100,77,111,118,101]) [(Value.ref 31)] [(Value.ref 82),(Value.ref 31),(Value.type "Exception"),(Value.type "BaseException"),(Value.type "object")] 81 (Str.mk #[66,97,100,77,111,118,101]) true [] [] false (none) false)) (List.toArray [(some (Value.ref 73)),(none),(some (Value.str (Str.mk #[66,97,100,77,111,118,101]) 268)),(some (Value.str (Str.mk #[66,97,100,77,111,118,101]) 276)),(some (Value.builtin "Exception.__new__")),(some (Value.bool true))]))),
 (295,(Obj.mk (Value.type "tuple") (none) (Data.seq (List.toArray [(Value.int 0 604),(Value.int 1 605)]) 0) (List.toArray []))),
 (296,(Obj.mk (Value.type "tuple") (none) (Data.seq (List.toArray [(Value.int 1 606),(Value.int 0 607)]) 0) (List.toArray []))),
 (297,(Obj.mk (Value.type "tuple") (none) (Data.seq (List.toArray [(Value.int 0 608),(Value.int (-1) 610)]) 0) (List.toArray []))),
 (298,(Obj.mk (Value.type "tuple") (none) (Data.seq (List.toArray [(Value.int (-1) 612),(Value.int 0 613)]) 0) (List.toArray []))),
 (299,(Obj.mk (Value.type "tuple") (none) (Data.seq (List.toArray [(Value.int 1 614),(Value.int 1 615)]) 0) (List.toArray []))),
 (300,(Obj.mk (Value.type "tuple") (none) (Data.seq (List.toArray [(Value.int 1 616),(Value.int (-1) 618)]) 0) (List.toArray []))),
 (301,(Obj.mk (Value.type "tuple") (none) (Data.seq (List.toArray [(Value.int (-1) 620),(Value.int (-1) 622)]) 0) (List.toArray []))),
 (302,(Obj.mk (Value.type "tuple") (none) (Data.seq (List.toArray [(Value.int (-1) 624),(Value.int 1 625)]) 0) (List.toArray []))),
 (303,(Obj.mk (Value.type "list") (none) (Data.seq (List.toArray [(Value.ref 295),(Value.ref 296),(Value.ref 297),(Value.ref 298),(Value.ref 299),(Value.ref 300),(Value.ref 301),(Value.ref 302)]) 0) (List.toArray []))),
 (304,(Obj.mk (Value.type "tuple") (none) (Data.seq (List.toArray [(Value.int 1 627),(Value.int 2 628)]) 0) (List.toArray []))),
 (305,(Obj.mk (Value.type "tuple") (none) (Data.seq (List.toArray [(Value.int 2 629),(Value.int 1 630)]) 0) (List.toArray []))),
 (306,(Obj.mk (Value.type "tuple") (none) (Data.seq (List.toArray [(Value.int 2 631),(Value.int (-1) 633)]) 0) (List.toArray []))),
 (307,(Obj.mk (Value.type "tuple") (none) (Data.seq (List.toArray [(Value.int 1 634),(Value.int (-2) 636)]) 0) (List.toArray []))),
 (308,(Obj.mk (Value.type "tuple") (none) (Data.seq (List.toArray [(Value.int (-1) 638),(Value.int (-2) 640)]) 0) (List.toArray []))),
 (309,(Obj.mk (Value.type "tuple") (none) (Data.seq (List.toArray [(Value.int (-2) 642),(Value.int (-1) 644)]) 0) (List.toArray []))),
 (310,(Obj.mk (Value.type "tuple") (none) (Data.seq (List.toArray [(Value.int (-2) 646),(Value.int 1 647)]) 0) (List.toArray []))),
 (311,(Obj.mk (Value.type "tuple") (none) (Data.seq (List.toArray [(Value.int (-1) 649),(Value.int 2 650)]) 0) (List.toArray []))),
 (312,(Obj.mk (Value.type "list") (none) (Data.seq (List.toArray [(Value.ref 304),(Value.ref 305),(Value.ref 306),(Value.ref 307),(Value.ref 308),(Value.ref 309),(Value.ref 310),(Value.ref 311)]) 0) (List.toArray [])))]
noncomputable def topA:List Addr:=[3,27,28,30,31,81,82,295,296,297,298,299,300,301,302,303,304,305,306,307,308,309,310,311,312]
end Mine
end

section
set_option maxHeartbeats 8000000
namespace Mine
open PySem PySem.W PyProof.Rows
noncomputable abbrev keepL:List Nat:=[1,2,3,4,6,7,8,9,10,11,12,13,14,15,16,17,18,19,20,21,22,23,24,25,27,28,29,30,31,33,34,35,36,37,38,40,41,42,43,44,45,46,47,48,49,50,52,53,54,56,57,58,59,60,61,62,63,64,65,66,67,68,69,70,71,72,73,74,75,76,77,78,79,80,81]
noncomputable def topV:Program:=view PySem.Challenge.pw_nt0432_01 keepL
noncomputable def topL:List Str:=[Str.ofString "_law_roads",Str.ofString "_law_jumps"]
noncomputable def topLQ:List Str:=[(Str.mk #[95,108,97,119,95,114,111,97,100,115]),(Str.mk #[95,108,97,119,95,106,117,109,112,115])]
theorem topL_Q:topL=topLQ:=by kernel_rfl
noncomputable def topH:Hook:=kHook topK topA (fun _=>by kernel_rfl)
noncomputable def topRun (w:World) (os:OsState):Option SharedT:=runQ PySem.Challenge.pw_nt0432_01 w 11 (some (.ref 6)) 2942 (bootS w os) (topStub PySem.Challenge.pw_nt0432_01)
noncomputable def topMods:List Str:=Fast.tw5923862056798008813 PySem.Challenge.pw_nt0432_01.main.body
noncomputable def topSt (w:World) (s:SharedT):Bool:=staticsOk topMods (boot_heap w.params) s.abs.heap && namesBound PySem.Challenge.pw_nt0432_01 s.abs.heap && gensDone s.abs && laidKept (boot_heap w.params) s.abs.heap
noncomputable def topSeen (s:SharedT):=Fast.tw4187177175401517315 (view PySem.Challenge.pw_nt0432_01 keepL) topLQ topMods (fun s=>xlAt (view PySem.Challenge.pw_nt0432_01 keepL) [] s && recOk (RowW.records PySem.Challenge.rw_nt0432_01.row.toRowW) s) true s.abs
noncomputable def topGood:=openGood (view PySem.Challenge.pw_nt0432_01 keepL) topLQ
theorem quick1 (w:World):(fun os=>(topRun w os).map fun s=>(topSt w s,topH.obs s.abs,(topSeen s).1,(topSeen s).2.1))=fun _=>some (true,topH.val w,expectedOf (view PySem.Challenge.pw_nt0432_01 keepL),bltViewBooted):=by kernel_rfl
theorem quick2 (w:World):(fun os=>(topRun w os).map fun s=>((topSeen s).2.2.1,(topSeen s).2.2.2.1))=fun _=>some (true,true):=by kernel_rfl
theorem quick3 (w:World):(fun os=>(topRun w os).map fun s=>(topSeen s).2.2.2.2)=fun _=>some (pinGoodD (drecsOf (view PySem.Challenge.pw_nt0432_01 keepL)),plainGoodE (view PySem.Challenge.pw_nt0432_01 keepL) (looseW (view PySem.Challenge.pw_nt0432_01 keepL) topLQ),plainGoodD (view PySem.Challenge.pw_nt0432_01 keepL) topLQ,wideGood (view PySem.Challenge.pw_nt0432_01 keepL),clsGoodW (view PySem.Challenge.pw_nt0432_01 keepL) topLQ):=by kernel_rfl
theorem map_inj {α β:Type} {o:Option α} {f:α→β} {b:β} (h:o.map f=some b) {s:α} (e:o=some s):f s=b:=by
 subst e;exact Option.some.inj h
theorem tup5 {A B C D E F G:Type} {st st':A} {ob ob':B} {x y:C×D×E×F×G} (h1:(st,ob,x.1,x.2.1)=(st',ob',y.1,y.2.1)) (h2:(x.2.2.1,x.2.2.2.1)=(y.2.2.1,y.2.2.2.1)) (h3:x.2.2.2.2=y.2.2.2.2):(st,x,ob)=(st',y,ob'):=by
 have a:st=st':=congrArg (fun z=>z.1) h1
 have b:ob=ob':=congrArg (fun z=>z.2.1) h1
 have c:x.1=y.1:=congrArg (fun z=>z.2.2.1) h1
 have d:x.2.1=y.2.1:=congrArg (fun z=>z.2.2.2) h1
 have e:x.2.2.1=y.2.2.1:=congrArg (fun z=>z.1) h2
 have f:x.2.2.2.1=y.2.2.2.1:=congrArg (fun z=>z.2) h2
 have g:x=y:=Prod.ext c (Prod.ext d (Prod.ext e (Prod.ext f h3)))
 rw [a,b,g]
theorem top_quick (w:World) (os:OsState):(topRun w os).map (fun s=>(topSt w s,topSeen s,topH.obs s.abs))=some (true,topGood,topH.val w):=by
 have h1:=congrFun (quick1 w) os
 have h2:=congrFun (quick2 w) os
 have h3:=congrFun (quick3 w) os
 cases e:topRun w os with
 | none=>rw [e] at h2;cases h2
 | some s=>exact congrArg some (tup5 (map_inj h1 e) (map_inj h2 e) (map_inj h3 e))
end Mine
end

section
set_option maxHeartbeats 8000000
namespace Mine
open PySem PySem.W PyProof.Rows
theorem top_run (w:World) (os:OsState):(runT PySem.Challenge.pw_nt0432_01 w 11 (some (.ref 6)) 2942 (bootS w os) (topStub PySem.Challenge.pw_nt0432_01)).map (fun s=>
   (staticsOk (importedModules PySem.Challenge.pw_nt0432_01.main.body) (boot_heap w.params) s.abs.heap && namesBound PySem.Challenge.pw_nt0432_01 s.abs.heap && gensDone s.abs && laidKept (boot_heap w.params) s.abs.heap,
    openSeen topV topL (importedModules PySem.Challenge.pw_nt0432_01.main.body) (fun s=>xlAt topV [] s && recOk (RowW.records PySem.Challenge.rw_nt0432_01.row.toRowW) s) true s.abs,topH.obs s.abs))=
  some (true,openGood topV topL,topH.val w):=by
 have h:=top_quick w os
 have e1:@importedModules=Fast.tw5923862056798008813:=Fast.te5923862056798008813
 have e2:@openSeen=Fast.tw4187177175401517315:=Fast.te4187177175401517315
 rw [runT_Q,topL_Q]
 unfold topV
 rw [e1,e2]
 exact h
theorem top_left:LeftO PySem.Challenge.rw_nt0432_01.row.prog topV topL (fun s=>xlAt topV [] s && recOk (RowW.records PySem.Challenge.rw_nt0432_01.row.toRowW) s) topH.obs topH.val 5982:=
 left_once (boot_open (p:=PySem.Challenge.pw_nt0432_01) (by kernel_rfl) rfl (fun s=>by kernel_rfl)) rfl top_run
end Mine
end

namespace Mine
set_option genCtorIdx false
inductive D where
 | none
 | bool (b:Bool)
 | int (i:Int)
 | str (s:List Nat)
 | tup (l:List D)
 | lst (l:List D)
 deriving Inhabited
noncomputable def D.ctorIdx (x:D):Nat:=@D.casesOn (fun _=>Nat) x (nat_lit 0) (fun _=>nat_lit 1) (fun _=>nat_lit 2) (fun _=>nat_lit 3) (fun _=>nat_lit 4) fun _=>nat_lit 5
set_option genCtorIdx true
inductive Kd where | pl | fr | bo | tr
noncomputable def Kd.isTr:Kd→Bool
 | .tr=>true
 | _=>false
noncomputable def Kd.sto:Kd→Bool
 | .pl=>true
 | .fr=>true
 | _=>false
inductive Bop where | add | sub | mul | fdiv | fmod | shr | band | pow
inductive Cop where | eq | ne | lt | le | gt | ge | isin | isnot
inductive Fn where | len | str | sum | min | max
inductive Mt where | find | split | join | index
set_option genCtorIdx false
set_option genInjectivity false
inductive X where
 | non
 | lit (d:D)
 | var (i:Nat)
 | bin (o:Bop) (a b:X)
 | neg (a:X)
 | cmp (o:Cop) (a b:X)
 | cmp2 (o1 o2:Cop) (a b c:X)
 | not (a:X)
 | and (a b:X)
 | or (a b:X)
 | ite (c a b:X)
 | call (f:Nat) (l:List X)
 | fn1 (f:Fn) (a:X)
 | fn2 (f:Fn) (a b:X)
 | mth (m:Mt) (a b:X)
 | idx (a b:X)
 | slc (a lo hi:X)
 | tup (l:List X)
 | lst (l:List X)
 | comp (elt:X) (v:Nat) (rng:Bool) (it cond:X)
noncomputable def X.ctorIdx (x:X):Nat:=@X.casesOn (fun _=>Nat) x (nat_lit 0) (fun _=>nat_lit 1) (fun _=>nat_lit 2) (fun _ _ _=>nat_lit 3) (fun _=>nat_lit 4) (fun _ _ _=>nat_lit 5) (fun _ _ _ _ _=>nat_lit 6) (fun _=>nat_lit 7) (fun _ _=>nat_lit 8) (fun _ _=>nat_lit 9) (fun _ _ _=>nat_lit 10) (fun _ _=>nat_lit 11) (fun _ _=>nat_lit 12) (fun _ _ _=>nat_lit 13) (fun _ _ _=>nat_lit 14) (fun _ _=>nat_lit 15) (fun _ _ _=>nat_lit 16) (fun _=>nat_lit 17) (fun _=>nat_lit 18) (fun _ _ _ _ _=>nat_lit 19)
noncomputable def isNon:X→Bool
 | .non=>true
 | _=>false
inductive St where
 | asg (i:Nat) (e:X)
 | asgT (is:List Nat) (e:X)
 | setI (i:Nat) (a e:X)
 | app (i:Nat) (e:X)
 | ret (e:X)
 | iff (c:X) (a b:List St)
 | forE (t:Nat) (e:X) (body:List St)
 | forT (ts:List Nat) (e:X) (body:List St)
 | forR (t:Nat) (a b:X) (body:List St)
 | whil (c:X) (body:List St)
 | rais (e:X)
 | tryr (e:X)
 | cont
 | stk
noncomputable def St.ctorIdx (x:St):Nat:=@St.casesOn (fun _=>Nat) x (fun _ _=>nat_lit 0) (fun _ _=>nat_lit 1) (fun _ _ _=>nat_lit 2) (fun _ _=>nat_lit 3) (fun _=>nat_lit 4) (fun _ _ _=>nat_lit 5) (fun _ _ _=>nat_lit 6) (fun _ _ _=>nat_lit 7) (fun _ _ _ _=>nat_lit 8) (fun _ _=>nat_lit 9) (fun _=>nat_lit 10) (fun _=>nat_lit 11) (nat_lit 12) (nat_lit 13)
set_option genInjectivity true
structure Cell where
 d:D
 own:Bool
noncomputable abbrev Sg:=Nat→Option Cell
noncomputable def upd (σ:Sg) (i:Nat) (c:Cell):Sg:=fun k=>if k=i then some c else σ k
theorem upd_same (σ:Sg) (i:Nat) (c:Cell):upd σ i c i=some c:=by simp [upd]
theorem upd_ne (σ:Sg) {i k:Nat} (c:Cell) (h:(k == i)=false):upd σ i c k=σ k:=by
 have:k≠i:=by simpa using h
 simp [upd,this]
inductive Out (α:Type) where
 | ok (a:α)
 | bad
noncomputable def Out.ctorIdx {α:Type} (x:Out α):Nat:=@Out.casesOn α (fun _=>Nat) x (fun _=>nat_lit 0) (nat_lit 1)
noncomputable abbrev Ev (α:Type):=Option (Out α)
noncomputable def Ev.ok {α:Type} (a:α):Ev α:=some (.ok a)
noncomputable def Ev.bad {α:Type}:Ev α:=some .bad
noncomputable def Ev.bind {α β:Type} (m:Ev α) (f:α→Ev β):Ev β:=
 match m with
 | Option.none=>Option.none
 | some .bad=>some .bad
 | some (.ok a)=>f a
theorem Ev.bind_ok {α β:Type} (a:α) (f:α→Ev β):(Ev.ok a).bind f=f a:=rfl
theorem Ev.bind_bad {α β:Type} (f:α→Ev β):(Ev.bad (α:=α)).bind f=Ev.bad:=rfl
noncomputable def Ev.of {α:Type} (o:Option α):Ev α:=o.map .ok
noncomputable def Ev.calm {α:Type} (m:Ev α):Ev α:=
 match m with
 | some .bad=>Option.none
 | x=>x
theorem Ev.calm_ok {α:Type} (a:α):(Ev.ok a).calm=Ev.ok a:=rfl
theorem Ev.of_some {α:Type} (a:α):Ev.of (some a)=Ev.ok a:=rfl
noncomputable def big:Nat:=1048576
noncomputable def eqOk:Nat→D→Bool
 | _,.none=>true
 | _,.int _=>true
 | _,.str _=>true
 | n + 1,.tup l=>l.all (eqOk n)
 | n + 1,.lst l=>l.all (eqOk n)
 | _,_=>false
mutual
noncomputable def deq:D→D→Bool
 | .none,.none=>true
 | .bool a,.bool b=>a == b
 | .int a,.int b=>a == b
 | .str a,.str b=>a == b
 | .tup a,.tup b=>deqs a b
 | .lst a,.lst b=>deqs a b
 | _,_=>false
noncomputable def deqs:List D→List D→Bool
 | [],[]=>true
 | a :: r,b :: t=>deq a b && deqs r t
 | _,_=>false
end
noncomputable def dec (n:Nat):List Nat:=(toString n).toList.map Char.toNat
noncomputable def int1 {α:Type} (y:D) (f:Int→Option α):Option α:=match y with
 | .int b=>f b
 | _=>Option.none
noncomputable def str1 {α:Type} (y:D) (f:List Nat→Option α):Option α:=match y with
 | .str b=>f b
 | _=>Option.none
noncomputable def lst1 {α:Type} (y:D) (f:List D→Option α):Option α:=match y with
 | .lst b=>f b
 | _=>Option.none
noncomputable def bop (o:Bop) (x y:D):Option (D×Kd):=match o with
 | .add=>(match x with
  | .int a=>int1 y fun b=>some (.int (a + b),.pl)
  | .str a=>str1 y fun b=>if a.length + b.length≤big then some (.str (a ++ b),.pl) else Option.none
  | .lst a=>lst1 y fun b=>if a.length + b.length≤big then some (.lst (a ++ b),.fr) else Option.none
  | _=>Option.none)
 | .sub=>int1 x fun a=>int1 y fun b=>some (.int (a - b),.pl)
 | .mul=>(match x with
  | .int a=>int1 y fun b=>if a.natAbs < 4294967296∧b.natAbs < 4294967296 then some (.int (a * b),.pl) else Option.none
  | .lst a=>int1 y fun b=>if 0≤b∧a.length=1∧b≤256 then some (.lst (List.replicate b.toNat (a.headD .none)),.fr) else Option.none
  | _=>Option.none)
 | .fdiv=>int1 x fun a=>int1 y fun b=>if 0 < b∧b.natAbs.log2 < 9000 then some (.int (a / b),.pl) else Option.none
 | .fmod=>int1 x fun a=>int1 y fun b=>if 0 < b then some (.int (a % b),.pl) else Option.none
 | .shr=>int1 x fun a=>int1 y fun b=>if 0≤a∧0≤b∧b≤64 then some (.int (a / 2 ^ b.toNat),.pl) else Option.none
 | .band=>int1 x fun a=>int1 y fun b=>if 0≤a∧0≤b then some (.int ((a.toNat &&& b.toNat:Nat):Int),.pl) else Option.none
 | .pow=>int1 x fun a=>int1 y fun b=>if a=2∧0≤b∧b≤4096 then some (.int (2 ^ b.toNat),.pl) else Option.none
noncomputable def eqO (x y:D):Option Bool:=if eqOk 8 x && eqOk 8 y then some (deq x y) else Option.none
noncomputable def eqD (x y:D):Option Bool:=match x with
 | .int a=>(match y with
  | .int b=>some (decide (a=b))
  | y=>eqO (.int a) y)
 | x=>eqO x y
noncomputable def inL (x:D) (b:List D):Option Bool:=if eqOk 8 x && b.all (eqOk 8) then some (b.any fun y=>deq y x) else Option.none
noncomputable def one1 {α:Type} (l:List Nat) (f:Nat→Option α):Option α:=match l with
 | []=>Option.none
 | c :: l=>(match l with
  | []=>f c
  | _=>Option.none)
noncomputable def cop (o:Cop) (x y:D):Option Bool:=match o with
 | .eq=>eqD x y
 | .ne=>(eqD x y).map (!·)
 | .lt=>int1 x fun a=>int1 y fun b=>some (decide (a < b))
 | .le=>int1 x fun a=>int1 y fun b=>some (decide (a≤b))
 | .gt=>int1 x fun a=>int1 y fun b=>some (decide (b < a))
 | .ge=>int1 x fun a=>int1 y fun b=>some (decide (b≤a))
 | .isin=>(match y with
  | .str b=>str1 x fun a=>one1 a fun c=>some (b.contains c)
  | .lst b=>inL x b
  | .tup b=>inL x b
  | _=>Option.none)
 | .isnot=>(match y with
  | .none=>(match x with
   | .none=>some false
   | .bool _=>Option.none
   | _=>some true)
  | _=>Option.none)
noncomputable def splitAt32:List Nat→List (List Nat)
 | []=>[[]]
 | c :: r=>if c=32 then [] :: splitAt32 r else match splitAt32 r with
  | []=>[[c]]
  | w :: ws=>(c :: w) :: ws
noncomputable def dStrs:List D→Option (List (List Nat))
 | []=>some []
 | .str s :: r=>(dStrs r).map (s :: ·)
 | _=>Option.none
noncomputable def dInts:List D→Option (List Int)
 | []=>some []
 | .int s :: r=>(dInts r).map (s :: ·)
 | _=>Option.none
noncomputable def joinD (sep:List Nat):List (List Nat)→List Nat
 | []=>[]
 | [x]=>x
 | x :: r=>x ++ sep ++ joinD sep r
noncomputable def lenD (n:Nat):Option D:=if n≤big then some (.int n) else Option.none
noncomputable def fn1 (f:Fn) (x:D):Option D:=match f with
 | .len=>(match x with
  | .str s=>lenD s.length
  | .lst s=>lenD s.length
  | .tup s=>lenD s.length
  | _=>Option.none)
 | .str=>int1 x fun i=>if 0≤i∧i < 10000000000 then some (.str (dec i.toNat)) else Option.none
 | .sum=>lst1 x fun l=>(dInts l).map fun xs=>.int xs.sum
 | _=>Option.none
noncomputable def fn2 (f:Fn) (x y:D):Option D:=match f with
 | .min=>int1 x fun a=>int1 y fun b=>some (.int (if b < a then b else a))
 | .max=>int1 x fun a=>int1 y fun b=>some (.int (if a < b then b else a))
 | _=>Option.none
noncomputable def mth (m:Mt) (x y:D):Option (D×Kd):=match m with
 | .find=>str1 x fun s=>str1 y fun t=>one1 t fun c=>if s.length≤big then some (.int (match s.idxOf? c with | some k=>(k:Nat) | Option.none=>-1),.pl) else Option.none
 | .split=>str1 x fun s=>str1 y fun t=>one1 t fun c=>if c=32∧s.length≤1000 then some (.lst ((splitAt32 s).map .str),.fr) else Option.none
 | .join=>str1 x fun sep=>lst1 y fun l=>(dStrs l).bind fun ws=>if (ws.map List.length).sum + sep.length * ws.length≤100000 then some (.str (joinD sep ws),.pl) else Option.none
 | .index=>lst1 x fun l=>str1 y fun a=>(dStrs l).bind fun ws=>if ws.length≤big then (ws.idxOf? a).map fun k=>(.int (k:Nat),.pl) else Option.none
noncomputable def isS:D→Bool
 | .str _=>true
 | _=>false
noncomputable def isL:D→Bool
 | .lst _=>true
 | _=>false
noncomputable def rcv (m:Mt) (x:D):Bool:=match m with
 | .index=>isL x
 | _=>isS x
noncomputable def idxD (l:List D) (i:Int):Option D:=if 0≤i∧i < 1000000000 then l[i.toNat]? else Option.none
noncomputable def sub:D→D→Option D
 | .lst l,.int i=>idxD l i
 | .tup l,.int i=>idxD l i
 | .str s,.int i=>if 0≤i∧i < 1000000000 then (s[i.toNat]?).map fun c=>.str [c] else Option.none
 | _,_=>Option.none
noncomputable def clip (n:Nat):D→Nat→Option Nat
 | .none,d=>some d
 | .int i,_=>if -1000000000 < i∧i < 1000000000 then some (if i < 0 then (i + n).toNat else min i.toNat n) else Option.none
 | _,_=>Option.none
noncomputable def cut {α:Type} (l:List α) (a b:Nat):List α:=(l.take b).drop a
noncomputable def slc:D→D→D→Option (D×Kd)
 | .str s,a,b=>(clip s.length a 0).bind fun lo=>(clip s.length b s.length).bind fun hi=>if s.length≤big then some (.str (cut s lo hi),.pl) else Option.none
 | .lst s,a,b=>(clip s.length a 0).bind fun lo=>(clip s.length b s.length).bind fun hi=>if s.length≤big then some (.lst (cut s lo hi),.fr) else Option.none
 | .tup s,.none,.int k=>if 0≤k∧k < s.length∧s.length≤big then some (.tup (s.take k.toNat),.pl) else Option.none
 | _,_,_=>Option.none
noncomputable def scal:D→Bool
 | .none | .bool _ | .int _ | .str _=>true
 | _=>false
noncomputable def frz:D×Kd→Option D
 | (_,.bo)=>Option.none
 | (_,.tr)=>Option.none
 | (d,_)=>some d
noncomputable def asB:D→Option Bool
 | .bool b=>some b
 | _=>Option.none
noncomputable def items:D→Option (List D)
 | .lst l=>if l.length≤big then some l else Option.none
 | .tup l=>if l.length≤big then some l else Option.none
 | .str s=>if s.length≤big∧s.all (· < 128) then some (s.map fun c=>.str [c]) else Option.none
 | _=>Option.none
noncomputable def rangeD (a b:Int):Option (List D):=
 if -1000000 < a∧a < 1000000∧-1000000 < b∧b < 1000000 then some ((List.range (b - a).toNat).map fun (k:Nat)=>.int (a + (k:Int))) else Option.none
noncomputable def compGo (f:D→Ev (Option D)):List D→Ev (List D)
 | []=>Ev.ok []
 | d :: ds=>(f d).bind fun o=>(compGo f ds).bind fun r=>Ev.ok (match o with | some x=>x :: r | Option.none=>r)
section
variable (Φ:Nat→List D→Ev (D×Kd))
mutual
noncomputable def ev:X→Sg→Ev (D×Kd)
 | .non,_=>Ev.ok (.none,.pl)
 | .lit d,_=>Ev.ok (d,.pl)
 | .var i,σ=>match σ i with
  | some ⟨d,false⟩=>Ev.ok (d,.pl)
  | some ⟨d,true⟩=>Ev.ok (d,.bo)
  | Option.none=>Option.none
 | .bin o a b,σ=>(ev a σ).bind fun x=>(ev b σ).bind fun y=>if x.2.isTr || y.2.isTr then Option.none else Ev.of (bop o x.1 y.1)
 | .neg a,σ=>(ev a σ).bind fun x=>match x.1 with
  | .int i=>Ev.ok (.int (-i),.pl)
  | _=>Option.none
 | .cmp o a b,σ=>(ev a σ).bind fun x=>(ev b σ).bind fun y=>(Ev.of (cop o x.1 y.1)).bind fun r=>Ev.ok (.bool r,.pl)
 | .cmp2 o1 o2 a b c,σ=>(ev a σ).bind fun x=>(ev b σ).bind fun y=>(Ev.of (cop o1 x.1 y.1)).bind fun r=>
   if r then (ev c σ).bind fun z=>(Ev.of (cop o2 y.1 z.1)).bind fun q=>Ev.ok (.bool q,.pl) else Ev.ok (.bool false,.pl)
 | .not a,σ=>(ev a σ).bind fun x=>(Ev.of (asB x.1)).bind fun r=>Ev.ok (.bool (!r),.pl)
 | .and a b,σ=>(ev a σ).bind fun x=>(Ev.of (asB x.1)).bind fun r=>if r then (ev b σ).bind fun y=>(Ev.of (asB y.1)).bind fun q=>Ev.ok (.bool q,.pl) else Ev.ok (.bool false,.pl)
 | .or a b,σ=>(ev a σ).bind fun x=>(Ev.of (asB x.1)).bind fun r=>if r then Ev.ok (.bool true,.pl) else (ev b σ).bind fun y=>(Ev.of (asB y.1)).bind fun q=>Ev.ok (.bool q,.pl)
 | .ite c a b,σ=>(ev c σ).bind fun x=>(Ev.of (asB x.1)).bind fun r=>if r then ev a σ else ev b σ
 | .call f l,σ=>(evs l σ).bind fun xs=>(Φ f (xs.map (·.1))).bind fun r=>if xs.all (fun x=>x.2.sto) then Ev.ok r else if scal r.1 then Ev.ok (r.1,.pl) else Ev.ok (r.1,.tr)
 | .fn1 f a,σ=>(ev a σ).bind fun x=>(Ev.of (fn1 f x.1)).bind fun r=>Ev.ok (r,.pl)
 | .fn2 f a b,σ=>(ev a σ).bind fun x=>(ev b σ).bind fun y=>(Ev.of (fn2 f x.1 y.1)).bind fun r=>Ev.ok (r,.pl)
 | .mth m a b,σ=>(ev a σ).bind fun x=>if rcv m x.1 then (ev b σ).bind fun y=>Ev.of (mth m x.1 y.1) else Option.none
 | .idx a b,σ=>(ev a σ).bind fun x=>(ev b σ).bind fun y=>if x.2.isTr then Option.none else (Ev.of (sub x.1 y.1)).bind fun r=>Ev.ok (r,.pl)
 | .slc a lo hi,σ=>(ev a σ).bind fun x=>(ev lo σ).bind fun y=>(ev hi σ).bind fun z=>if x.2.isTr then Option.none else Ev.of (slc x.1 y.1 z.1)
 | .tup l,σ=>(evs l σ).bind fun xs=>(Ev.of (xs.mapM frz)).bind fun ds=>Ev.ok (.tup ds,.pl)
 | .lst l,σ=>(evs l σ).bind fun xs=>(Ev.of (xs.mapM frz)).bind fun ds=>Ev.ok (.lst ds,.fr)
 | .comp elt v rng it cond,σ=>(ev it σ).bind fun x=>if x.2.isTr then Option.none else
   (Ev.of (if rng then (match x.1 with | .int n=>rangeD 0 n | _=>Option.none) else items x.1)).bind fun ds=>
   (compGo (fun d=>(if isNon cond then Ev.ok true else (ev cond (upd σ v ⟨d,false⟩)).bind fun c=>Ev.of (asB c.1)).bind fun ok=>
    if ok then (ev elt (upd σ v ⟨d,false⟩)).bind fun r=>(Ev.of (frz r)).bind fun y=>Ev.ok (some y) else Ev.ok Option.none) ds).calm.bind fun ys=>
   Ev.ok (.lst ys,.fr)
noncomputable def evs:List X→Sg→Ev (List (D×Kd))
 | [],_=>Ev.ok []
 | x :: r,σ=>(ev x σ).bind fun a=>(evs r σ).bind fun l=>Ev.ok (a :: l)
end
inductive Fl where
 | next | cont
 | ret (d:D) (k:Kd)
noncomputable def Fl.ctorIdx (x:Fl):Nat:=@Fl.casesOn (fun _=>Nat) x (nat_lit 0) (nat_lit 1) (fun _ _=>nat_lit 2)
noncomputable def frzAll (σ:Sg):Sg:=fun k=>(σ k).map fun c=>{ c with own:=false }
noncomputable def frz1 (σ:Sg) (i:Nat):Sg:=fun k=>if k=i then (σ k).map fun c=>{ c with own:=false } else σ k
noncomputable def handOn (e:X) (k:Kd) (σ:Sg):Option Sg:=match k with
 | .bo=>(match e with | .var j=>some (frz1 σ j) | _=>Option.none)
 | .tr=>Option.none
 | _=>some σ
noncomputable def forGo (f:D→Sg→Ev (Fl×Sg)):List D→Sg→Ev (Fl×Sg)
 | [],σ=>Ev.ok (.next,σ)
 | d :: ds,σ=>(f d σ).bind fun r=>match r.1 with
  | .ret _ _=>Ev.ok r
  | _=>forGo f ds r.2
noncomputable def whileGo (c:Sg→Ev Bool) (f:Sg→Ev (Fl×Sg)):Nat→Sg→Ev (Fl×Sg)
 | 0,_=>Option.none
 | n + 1,σ=>(c σ).bind fun b=>if b then (f σ).bind fun r=>(match r.1 with
  | .ret _ _=>Ev.ok r
  | _=>whileGo c f n r.2) else Ev.ok (.next,σ)
noncomputable def bindAll:List Nat→List D→Sg→Option Sg
 | [],[],σ=>some σ
 | i :: is,d :: ds,σ=>bindAll is ds (upd σ i ⟨d,false⟩)
 | _,_,_=>Option.none
mutual
noncomputable def ex:St→Sg→Ev (Fl×Sg)
 | .asg i e,σ=>(ev Φ e σ).bind fun r=>match r.2 with
  | .pl=>Ev.ok (.next,upd σ i ⟨r.1,false⟩)
  | .fr=>Ev.ok (.next,upd σ i ⟨r.1,true⟩)
  | .bo=>(Ev.of (handOn e .bo σ)).bind fun σ'=>Ev.ok (.next,upd σ' i ⟨r.1,false⟩)
  | .tr=>Option.none
 | .asgT is e,σ=>(ev Φ e σ).bind fun r=>match r with
  | (.tup ds,.pl)=>(Ev.of (bindAll is ds σ)).bind fun σ'=>Ev.ok (.next,σ')
  | _=>Option.none
 | .setI i a e,σ=>match σ i with
  | some ⟨.lst ds,true⟩=>(ev Φ e σ).bind fun r=>(ev Φ a σ).bind fun k=>(Ev.of (frz r)).bind fun d=>match k.1 with
   | .int n=>if 0≤n∧n < ds.length∧ds.length≤big then Ev.ok (.next,upd σ i ⟨.lst (ds.set n.toNat d),true⟩) else Option.none
   | _=>Option.none
  | _=>Option.none
 | .app i e,σ=>match σ i with
  | some ⟨.lst ds,true⟩=>(ev Φ e σ).bind fun r=>(Ev.of (frz r)).bind fun d=>if ds.length < big then Ev.ok (.next,upd σ i ⟨.lst (ds ++ [d]),true⟩) else Option.none
  | _=>Option.none
 | .ret e,σ=>match e with
  | .var j=>(match σ j with
   | some ⟨d,true⟩=>Ev.ok (.ret d .fr,σ)
   | some ⟨d,false⟩=>Ev.ok (.ret d .pl,σ)
   | Option.none=>Option.none)
  | _=>(ev Φ e (frzAll σ)).bind fun r=>if r.2.sto then Ev.ok (.ret r.1 r.2,frzAll σ) else Option.none
 | .iff c a b,σ=>(ev Φ c σ).bind fun x=>(Ev.of (asB x.1)).bind fun r=>if r then exs a σ else exs b σ
 | .forE t e body,σ=>(ev Φ e σ).bind fun r=>(Ev.of (handOn e r.2 σ)).bind fun σ'=>(Ev.of (items r.1)).bind fun ds=>
   forGo (fun d σ=>exs body (upd σ t ⟨d,false⟩)) ds σ'
 | .forT ts e body,σ=>(ev Φ e σ).bind fun r=>(Ev.of (handOn e r.2 σ)).bind fun σ'=>(Ev.of (items r.1)).bind fun ds=>
   forGo (fun d σ=>match d with
    | .tup xs=>(Ev.of (bindAll ts xs σ)).bind fun σ''=>exs body σ''
    | _=>Option.none) ds σ'
 | .forR t a b body,σ=>(if isNon a then Ev.ok (.int 0,.pl) else ev Φ a σ).bind fun x=>(ev Φ b σ).bind fun y=>
   (Ev.of (match x.1,y.1 with
    | .int lo,.int hi=>rangeD lo hi
    | _,_=>Option.none)).bind fun ds=>forGo (fun d σ=>exs body (upd σ t ⟨d,false⟩)) ds σ
 | .whil c body,σ=>whileGo (fun σ=>(ev Φ c σ).bind fun x=>Ev.of (asB x.1)) (fun σ=>exs body σ) 100 σ
 | .rais e,σ=>(ev Φ e σ).bind fun r=>match r.1 with
  | .str _=>Ev.bad
  | _=>Option.none
 | .tryr e,σ=>match ev Φ e (frzAll σ) with
  | Option.none=>Option.none
  | some .bad=>Ev.ok (.ret .none .pl,frzAll σ)
  | some (.ok (d,k))=>if k.sto then Ev.ok (.ret d k,frzAll σ) else Option.none
 | .cont,σ=>Ev.ok (.cont,σ)
 | .stk,_=>Option.none
noncomputable def exs:List St→Sg→Ev (Fl×Sg)
 | [],σ=>Ev.ok (.next,σ)
 | s :: r,σ=>(ex s σ).bind fun x=>match x.1 with
  | .next=>exs r x.2
  | _=>Ev.ok x
end
structure Fun where
 n:Nat
 body:List St
noncomputable def start (n:Nat) (ds:List D):Sg:=fun k=>if k < n then (ds[k]?).map fun d=>⟨d,false⟩ else Option.none
noncomputable def runF (F:Fun) (ds:List D):Ev (D×Kd):=if ds.length=F.n then (exs Φ F.body (start F.n ds)).bind fun x=>(match x.1 with
 | .ret d k=>Ev.ok (d,k)
 | .next=>Ev.ok (.none,.pl)
 | .cont=>Option.none) else Option.none
end
noncomputable def callX (tab:Nat→Option Fun):Nat→Nat→List D→Ev (D×Kd)
 | 0,_,_=>Option.none
 | k + 1,f,ds=>match tab f with
  | some F=>runF (callX tab k) F ds
  | Option.none=>Option.none
end Mine

namespace Mine
noncomputable abbrev g_WHITE:D:=.int 0
noncomputable abbrev g_BLACK:D:=.int 1
noncomputable abbrev g_NO_KIND:D:=.int 0
noncomputable abbrev g_PAWN:D:=.int 1
noncomputable abbrev g_KNIGHT:D:=.int 2
noncomputable abbrev g_BISHOP:D:=.int 3
noncomputable abbrev g_ROOK:D:=.int 4
noncomputable abbrev g_QUEEN:D:=.int 5
noncomputable abbrev g_EMPTY:D:=.int 0
noncomputable abbrev g_PROMOTION:D:=.int 1
noncomputable abbrev g_EN_PASSANT:D:=.int 2
noncomputable abbrev g_CASTLING:D:=.int 3
noncomputable abbrev g_LETTERS:D:=.str [46,80,78,66,82,81,75,46,46,112,110,98,114,113,107]
noncomputable abbrev g_SHORT:D:=.str [79,45,79]
noncomputable abbrev g_LONG:D:=.str [79,45,79,45,79]
noncomputable abbrev g_FILE_LETTERS:D:=.str [97,98,99,100,101,102,103,104]
noncomputable abbrev g_RANK_DIGITS:D:=.str [49,50,51,52,53,54,55,56]
noncomputable abbrev g_law_signs:D:=.str [97,98,99,100,101,102,103,104,49,50,51,52,53,54,55,56,78,66,82,81,110,114,113,120,61,43,35,79,45,48,32,46]
noncomputable abbrev g_law_roads:D:=.lst [(.tup [(.int 0),(.int 1)]),(.tup [(.int 1),(.int 0)]),(.tup [(.int 0),(.int (-1))]),(.tup [(.int (-1)),(.int 0)]),(.tup [(.int 1),(.int 1)]),(.tup [(.int 1),(.int (-1))]),(.tup [(.int (-1)),(.int (-1))]),(.tup [(.int (-1)),(.int 1)])]
noncomputable abbrev g_law_jumps:D:=.lst [(.tup [(.int 1),(.int 2)]),(.tup [(.int 2),(.int 1)]),(.tup [(.int 2),(.int (-1))]),(.tup [(.int 1),(.int (-2))]),(.tup [(.int (-1)),(.int (-2))]),(.tup [(.int (-2)),(.int (-1))]),(.tup [(.int (-2)),(.int 1)]),(.tup [(.int (-1)),(.int 2)])]
noncomputable abbrev f_kind_of:Nat:=0
noncomputable abbrev f_is_piece:Nat:=1
noncomputable abbrev f_letter_of:Nat:=2
noncomputable abbrev f_move_from:Nat:=3
noncomputable abbrev f_move_to:Nat:=4
noncomputable abbrev f_move_special:Nat:=5
noncomputable abbrev f_move_promo:Nat:=6
noncomputable abbrev f_takes:Nat:=7
noncomputable abbrev f_castle_text:Nat:=8
noncomputable abbrev f_cut_sign:Nat:=9
noncomputable abbrev f_file_of:Nat:=10
noncomputable abbrev f_rank_of:Nat:=11
noncomputable abbrev f_square_name:Nat:=12
noncomputable abbrev f_read_square:Nat:=13
noncomputable abbrev f_long_of:Nat:=14
noncomputable abbrev f_pick_long:Nat:=15
noncomputable abbrev f_iccf_square:Nat:=16
noncomputable abbrev f_iccf_promo:Nat:=17
noncomputable abbrev f_iccf_of:Nat:=18
noncomputable abbrev f_read_iccf:Nat:=19
noncomputable abbrev f_pick_iccf:Nat:=20
noncomputable abbrev f_number_line:Nat:=21
noncomputable abbrev f_split_number:Nat:=22
noncomputable abbrev f_is_number_right:Nat:=23
noncomputable abbrev f_split_line:Nat:=24
noncomputable abbrev f_promo_letter:Nat:=25
noncomputable abbrev f_read_coords:Nat:=26
noncomputable abbrev f_find_move:Nat:=27
noncomputable abbrev f_law_shapes:Nat:=28
noncomputable abbrev f_law_pieces:Nat:=29
noncomputable abbrev f_law_letters:Nat:=30
noncomputable abbrev f_law_at:Nat:=31
noncomputable abbrev f_law_go:Nat:=32
noncomputable abbrev f_law_seen:Nat:=33
noncomputable abbrev f_law_draw:Nat:=34
noncomputable abbrev f_law_pawn_goals:Nat:=35
noncomputable abbrev f_law_castlings:Nat:=36
noncomputable abbrev f_law_moves:Nat:=37
noncomputable abbrev f_law_number:Nat:=38
noncomputable abbrev f_law_name:Nat:=39
noncomputable abbrev f_law_long:Nat:=40
noncomputable abbrev f_law_digits:Nat:=41
noncomputable abbrev f_law_bend:Nat:=42
noncomputable abbrev f_law_picked:Nat:=43
noncomputable abbrev f_law_named:Nat:=44
noncomputable abbrev f_law_sought:Nat:=45
noncomputable abbrev f_law_find:Nat:=46
noncomputable abbrev f_law_moves_told:Nat:=47
noncomputable abbrev f_law_read:Nat:=48
noncomputable abbrev f_law_split:Nat:=49
noncomputable abbrev f_law:Nat:=50
noncomputable def p_kind_of:Fun:=⟨1,[
 .ret (.bin .band (.var 0) (.lit (.int 7)))]⟩
noncomputable def p_is_piece:Fun:=⟨1,[
 .ret (.and (.cmp2 .lt .lt (.lit (.int 0)) (.var 0) (.lit (.int 15))) (.and (.cmp .ne (.var 0) (.lit (.int 7))) (.cmp .ne (.var 0) (.lit (.int 8)))))]⟩
noncomputable def p_letter_of:Fun:=⟨1,[
 .iff (.and (.cmp .ne (.var 0) (.lit g_EMPTY)) (.not (.call f_is_piece [(.var 0)]))) [
  .stk] [],
 .ret (.idx (.lit g_LETTERS) (.var 0))]⟩
noncomputable def p_move_from:Fun:=⟨1,[
 .ret (.bin .band (.bin .shr (.var 0) (.lit (.int 6))) (.lit (.int 63)))]⟩
noncomputable def p_move_to:Fun:=⟨1,[
 .ret (.bin .band (.var 0) (.lit (.int 63)))]⟩
noncomputable def p_move_special:Fun:=⟨1,[
 .ret (.bin .band (.bin .shr (.var 0) (.lit (.int 14))) (.lit (.int 3)))]⟩
noncomputable def p_move_promo:Fun:=⟨1,[
 .iff (.cmp .ne (.bin .band (.bin .shr (.var 0) (.lit (.int 14))) (.lit (.int 3))) (.lit g_PROMOTION)) [
  .ret (.lit g_NO_KIND)] [],
 .ret (.bin .add (.bin .band (.bin .shr (.var 0) (.lit (.int 12))) (.lit (.int 3))) (.lit g_KNIGHT))]⟩
noncomputable def p_takes:Fun:=⟨2,[
 .ret (.or (.cmp .ne (.idx (.var 0) (.call f_move_to [(.var 1)])) (.lit g_EMPTY)) (.cmp .eq (.call f_move_special [(.var 1)]) (.lit g_EN_PASSANT)))]⟩
noncomputable def p_castle_text:Fun:=⟨1,[
 .iff (.cmp .gt (.call f_move_to [(.var 0)]) (.call f_move_from [(.var 0)])) [
  .ret (.lit g_SHORT)] [],
 .ret (.lit g_LONG)]⟩
noncomputable def p_cut_sign:Fun:=⟨1,[
 .iff (.or (.cmp .eq (.slc (.var 0) (.neg (.lit (.int 1))) .non) (.lit (.str [43]))) (.cmp .eq (.slc (.var 0) (.neg (.lit (.int 1))) .non) (.lit (.str [35])))) [
  .ret (.tup [(.slc (.var 0) .non (.neg (.lit (.int 1)))),(.slc (.var 0) (.neg (.lit (.int 1))) .non)])] [],
 .ret (.tup [(.var 0),(.lit (.str []))])]⟩
noncomputable def p_file_of:Fun:=⟨2,[
 .ret (.bin .fmod (.var 1) (.var 0))]⟩
noncomputable def p_rank_of:Fun:=⟨2,[
 .ret (.bin .fdiv (.var 1) (.var 0))]⟩
noncomputable def p_square_name:Fun:=⟨2,[
 .iff (.or (.cmp .lt (.var 1) (.lit (.int 0))) (.cmp .ge (.var 1) (.bin .mul (.var 0) (.lit (.int 8))))) [
  .stk] [],
 .ret (.bin .add (.idx (.lit g_FILE_LETTERS) (.bin .fmod (.var 1) (.var 0))) (.idx (.lit g_RANK_DIGITS) (.bin .fdiv (.var 1) (.var 0))))]⟩
noncomputable def p_read_square:Fun:=⟨3,[
 .iff (.cmp .ne (.fn1 .len (.var 2)) (.lit (.int 2))) [
  .ret (.neg (.lit (.int 1)))] [],
 .asg 3 (.mth .find (.lit g_FILE_LETTERS) (.idx (.var 2) (.lit (.int 0)))),
 .asg 4 (.mth .find (.lit g_RANK_DIGITS) (.idx (.var 2) (.lit (.int 1)))),
 .iff (.or (.cmp .lt (.var 3) (.lit (.int 0))) (.or (.cmp .ge (.var 3) (.var 0)) (.or (.cmp .lt (.var 4) (.lit (.int 0))) (.cmp .ge (.var 4) (.var 1))))) [
  .ret (.neg (.lit (.int 1)))] [],
 .ret (.bin .add (.bin .mul (.var 4) (.var 0)) (.var 3))]⟩
noncomputable def p_long_of:Fun:=⟨3,[
 .iff (.cmp .eq (.call f_move_special [(.var 2)]) (.lit g_CASTLING)) [
  .ret (.call f_castle_text [(.var 2)])] [],
 .asg 3 (.call f_kind_of [(.idx (.var 1) (.call f_move_from [(.var 2)]))]),
 .asg 4 (.call f_square_name [(.var 0),(.call f_move_from [(.var 2)])]),
 .iff (.cmp .ne (.var 3) (.lit g_PAWN)) [
  .asg 4 (.bin .add (.call f_letter_of [(.var 3)]) (.var 4))] [],
 .iff (.call f_takes [(.var 1),(.var 2)]) [
  .asg 4 (.bin .add (.var 4) (.lit (.str [120])))] [
  .asg 4 (.bin .add (.var 4) (.lit (.str [45])))],
 .asg 4 (.bin .add (.var 4) (.call f_square_name [(.var 0),(.call f_move_to [(.var 2)])])),
 .iff (.cmp .ne (.call f_move_promo [(.var 2)]) (.lit g_NO_KIND)) [
  .asg 4 (.bin .add (.bin .add (.var 4) (.lit (.str [61]))) (.call f_letter_of [(.call f_move_promo [(.var 2)])]))] [],
 .ret (.var 4)]⟩
noncomputable def p_pick_long:Fun:=⟨4,[
 .asgT [4,5] (.call f_cut_sign [(.var 3)]),
 .forE 6 (.var 2) [
  .iff (.cmp .eq (.call f_long_of [(.var 0),(.var 1),(.var 6)]) (.var 4)) [
   .ret (.tup [(.var 6),(.var 5)])] []],
 .rais (.var 3)]⟩
noncomputable def p_iccf_square:Fun:=⟨2,[
 .ret (.bin .add (.fn1 .str (.bin .add (.call f_file_of [(.var 0),(.var 1)]) (.lit (.int 1)))) (.fn1 .str (.bin .add (.call f_rank_of [(.var 0),(.var 1)]) (.lit (.int 1)))))]⟩
noncomputable def p_iccf_promo:Fun:=⟨1,[
 .iff (.cmp .eq (.var 0) (.lit g_QUEEN)) [
  .ret (.lit (.str [49]))] [],
 .iff (.cmp .eq (.var 0) (.lit g_ROOK)) [
  .ret (.lit (.str [50]))] [],
 .iff (.cmp .eq (.var 0) (.lit g_BISHOP)) [
  .ret (.lit (.str [51]))] [],
 .iff (.cmp .eq (.var 0) (.lit g_KNIGHT)) [
  .ret (.lit (.str [52]))] [],
 .ret (.lit (.str []))]⟩
noncomputable def p_iccf_of:Fun:=⟨2,[
 .asg 2 (.bin .add (.call f_iccf_square [(.var 0),(.call f_move_from [(.var 1)])]) (.call f_iccf_square [(.var 0),(.call f_move_to [(.var 1)])])),
 .ret (.bin .add (.var 2) (.call f_iccf_promo [(.call f_move_promo [(.var 1)])]))]⟩
noncomputable def p_read_iccf:Fun:=⟨3,[
 .iff (.and (.cmp .ne (.fn1 .len (.var 2)) (.lit (.int 4))) (.cmp .ne (.fn1 .len (.var 2)) (.lit (.int 5)))) [
  .rais (.var 2)] [],
 .asg 3 (.lst []),
 .forE 4 (.var 2) [
  .app 3 (.mth .find (.lit (.str [49,50,51,52,53,54,55,56])) (.var 4))],
 .forE 5 (.lst [(.lit (.int 0)),(.lit (.int 2))]) [
  .iff (.or (.not (.cmp2 .le .lt (.lit (.int 0)) (.idx (.var 3) (.var 5)) (.var 0))) (.not (.cmp2 .le .lt (.lit (.int 0)) (.idx (.var 3) (.bin .add (.var 5) (.lit (.int 1)))) (.var 1)))) [
   .rais (.var 2)] []],
 .asg 6 (.lit g_NO_KIND),
 .iff (.cmp .eq (.fn1 .len (.var 2)) (.lit (.int 5))) [
  .iff (.not (.cmp2 .le .lt (.lit (.int 0)) (.idx (.var 3) (.lit (.int 4))) (.lit (.int 4)))) [
   .rais (.var 2)] [],
  .asg 6 (.bin .sub (.lit g_QUEEN) (.idx (.var 3) (.lit (.int 4))))] [],
 .ret (.tup [(.bin .add (.bin .mul (.idx (.var 3) (.lit (.int 1))) (.var 0)) (.idx (.var 3) (.lit (.int 0)))),(.bin .add (.bin .mul (.idx (.var 3) (.lit (.int 3))) (.var 0)) (.idx (.var 3) (.lit (.int 2)))),(.var 6)])]⟩
noncomputable def p_pick_iccf:Fun:=⟨4,[
 .asgT [4,5,6] (.call f_read_iccf [(.var 0),(.var 1),(.var 3)]),
 .forE 7 (.var 2) [
  .iff (.and (.cmp .eq (.call f_move_from [(.var 7)]) (.var 4)) (.and (.cmp .eq (.call f_move_to [(.var 7)]) (.var 5)) (.cmp .eq (.call f_move_promo [(.var 7)]) (.var 6)))) [
   .ret (.var 7)] []],
 .rais (.var 3)]⟩
noncomputable def p_number_line:Fun:=⟨3,[
 .asg 3 (.lst []),
 .forE 4 (.var 2) [
  .iff (.cmp .eq (.var 0) (.lit g_WHITE)) [
   .app 3 (.bin .add (.fn1 .str (.var 1)) (.lit (.str [46])))] [
   .iff (.cmp .eq (.var 3) (.lst [])) [
    .app 3 (.bin .add (.fn1 .str (.var 1)) (.lit (.str [46,46,46])))] []],
  .app 3 (.var 4),
  .iff (.cmp .eq (.var 0) (.lit g_BLACK)) [
   .asg 1 (.bin .add (.var 1) (.lit (.int 1)))] [],
  .asg 0 (.bin .sub (.lit (.int 1)) (.var 0))],
 .ret (.mth .join (.lit (.str [32])) (.var 3))]⟩
noncomputable def p_split_number:Fun:=⟨1,[
 .asg 1 (.lit (.int 0)),
 .whil (.and (.cmp .lt (.var 1) (.fn1 .len (.var 0))) (.cmp .isin (.idx (.var 0) (.var 1)) (.lit (.str [48,49,50,51,52,53,54,55,56,57])))) [
  .asg 1 (.bin .add (.var 1) (.lit (.int 1)))],
 .asg 2 (.var 1),
 .whil (.and (.cmp .lt (.var 2) (.fn1 .len (.var 0))) (.cmp .eq (.idx (.var 0) (.var 2)) (.lit (.str [46])))) [
  .asg 2 (.bin .add (.var 2) (.lit (.int 1)))],
 .ret (.tup [(.slc (.var 0) .non (.var 1)),(.bin .sub (.var 2) (.var 1)),(.slc (.var 0) (.var 2) .non)])]⟩
noncomputable def p_is_number_right:Fun:=⟨4,[
 .iff (.cmp .eq (.var 0) (.lit g_WHITE)) [
  .ret (.and (.cmp .eq (.var 3) (.lit (.int 1))) (.cmp .eq (.var 2) (.fn1 .str (.var 1))))] [],
 .ret (.and (.cmp .eq (.var 3) (.lit (.int 3))) (.cmp .eq (.var 2) (.fn1 .str (.var 1))))]⟩
noncomputable def p_split_line:Fun:=⟨3,[
 .asg 3 (.lst []),
 .asg 4 (.lit (.bool false)),
 .forE 5 (.mth .split (.var 2) (.lit (.str [32]))) [
  .asgT [6,7,8] (.call f_split_number [(.var 5)]),
  .iff (.or (.cmp .ne (.var 6) (.lit (.str []))) (.cmp .gt (.var 7) (.lit (.int 0)))) [
   .iff (.or (.var 4) (.not (.call f_is_number_right [(.var 0),(.var 1),(.var 6),(.var 7)]))) [
    .rais (.var 5)] [],
   .asg 4 (.lit (.bool true))] [],
  .iff (.cmp .ne (.var 8) (.lit (.str []))) [
   .app 3 (.var 8),
   .asg 4 (.lit (.bool false)),
   .iff (.cmp .eq (.var 0) (.lit g_BLACK)) [
    .asg 1 (.bin .add (.var 1) (.lit (.int 1)))] [],
   .asg 0 (.bin .sub (.lit (.int 1)) (.var 0))] []],
 .iff (.var 4) [
  .rais (.var 2)] [],
 .ret (.var 3)]⟩
noncomputable def p_promo_letter:Fun:=⟨1,[
 .iff (.cmp .eq (.var 0) (.lit g_KNIGHT)) [
  .ret (.lit (.str [110]))] [],
 .iff (.cmp .eq (.var 0) (.lit g_BISHOP)) [
  .ret (.lit (.str [98]))] [],
 .iff (.cmp .eq (.var 0) (.lit g_ROOK)) [
  .ret (.lit (.str [114]))] [],
 .iff (.cmp .eq (.var 0) (.lit g_QUEEN)) [
  .ret (.lit (.str [113]))] [],
 .ret (.lit (.str []))]⟩
noncomputable def p_read_coords:Fun:=⟨3,[
 .iff (.and (.cmp .ne (.fn1 .len (.var 2)) (.lit (.int 4))) (.cmp .ne (.fn1 .len (.var 2)) (.lit (.int 5)))) [
  .rais (.var 2)] [],
 .asg 3 (.call f_read_square [(.var 0),(.var 1),(.slc (.var 2) .non (.lit (.int 2)))]),
 .asg 4 (.call f_read_square [(.var 0),(.var 1),(.slc (.var 2) (.lit (.int 2)) (.lit (.int 4)))]),
 .iff (.or (.cmp .lt (.var 3) (.lit (.int 0))) (.cmp .lt (.var 4) (.lit (.int 0)))) [
  .rais (.var 2)] [],
 .asg 5 (.lit g_NO_KIND),
 .iff (.cmp .eq (.fn1 .len (.var 2)) (.lit (.int 5))) [
  .forE 6 (.lst [(.lit g_KNIGHT),(.lit g_BISHOP),(.lit g_ROOK),(.lit g_QUEEN)]) [
   .iff (.cmp .eq (.call f_promo_letter [(.var 6)]) (.idx (.var 2) (.lit (.int 4)))) [
    .asg 5 (.var 6)] []],
  .iff (.cmp .eq (.var 5) (.lit g_NO_KIND)) [
   .rais (.var 2)] []] [],
 .ret (.tup [(.var 3),(.var 4),(.var 5)])]⟩
noncomputable def p_find_move:Fun:=⟨4,[
 .asgT [4,5,6] (.call f_read_coords [(.var 0),(.var 1),(.var 3)]),
 .forE 7 (.var 2) [
  .iff (.and (.cmp .eq (.call f_move_from [(.var 7)]) (.var 4)) (.and (.cmp .eq (.call f_move_to [(.var 7)]) (.var 5)) (.cmp .eq (.call f_move_promo [(.var 7)]) (.var 6)))) [
   .ret (.var 7)] []],
 .rais (.var 3)]⟩
noncomputable def p_law_shapes:Fun:=⟨0,[
 .ret (.lst [(.tup [(.lit (.int 4)),(.lit (.int 4))]),(.tup [(.lit (.int 5)),(.lit (.int 5))]),(.tup [(.lit (.int 7)),(.lit (.int 3))]),(.tup [(.lit (.int 6)),(.lit (.int 4))])])]⟩
noncomputable def p_law_pieces:Fun:=⟨0,[
 .ret (.lst [(.lit (.int 1)),(.lit (.int 9)),(.lit (.int 2)),(.lit (.int 10)),(.lit (.int 3)),(.lit (.int 11)),(.lit (.int 4)),(.lit (.int 12)),(.lit (.int 5)),(.lit (.int 13))])]⟩
noncomputable def p_law_letters:Fun:=⟨0,[
 .ret (.lst [(.lit (.str [])),(.lit (.str [])),(.lit (.str [78])),(.lit (.str [66])),(.lit (.str [82])),(.lit (.str [81])),(.lit (.str [75]))])]⟩
noncomputable def p_law_at:Fun:=⟨2,[
 .iff (.cmp .lt (.var 1) (.fn1 .len (.var 0))) [
  .ret (.idx (.var 0) (.var 1))] [],
 .ret (.bin .add (.bin .mul (.lit (.int 5)) (.var 1)) (.lit (.int 2)))]⟩
noncomputable def p_law_go:Fun:=⟨3,[
 .asg 3 (.bin .add (.bin .fmod (.var 1) (.idx (.var 0) (.lit (.int 0)))) (.idx (.var 2) (.lit (.int 0)))),
 .asg 4 (.bin .add (.bin .fdiv (.var 1) (.idx (.var 0) (.lit (.int 0)))) (.idx (.var 2) (.lit (.int 1)))),
 .iff (.and (.cmp2 .le .lt (.lit (.int 0)) (.var 3) (.idx (.var 0) (.lit (.int 0)))) (.cmp2 .le .lt (.lit (.int 0)) (.var 4) (.idx (.var 0) (.lit (.int 1))))) [
  .ret (.bin .add (.bin .mul (.var 4) (.idx (.var 0) (.lit (.int 0)))) (.var 3))] [],
 .ret (.neg (.lit (.int 1)))]⟩
noncomputable def p_law_seen:Fun:=⟨3,[
 .asg 3 (.bin .fmod (.idx (.var 1) (.var 2)) (.lit (.int 8))),
 .asg 4 (.lit g_law_roads),
 .iff (.cmp .eq (.var 3) (.lit (.int 1))) [
  .asg 5 (.bin .sub (.lit (.int 1)) (.bin .mul (.bin .fdiv (.idx (.var 1) (.var 2)) (.lit (.int 8))) (.lit (.int 2)))),
  .asg 4 (.lst [(.tup [(.lit (.int 1)),(.var 5)]),(.tup [(.neg (.lit (.int 1))),(.var 5)])])] [],
 .iff (.cmp .eq (.var 3) (.lit (.int 2))) [
  .asg 4 (.lit g_law_jumps)] [],
 .iff (.cmp .eq (.var 3) (.lit (.int 3))) [
  .asg 4 (.slc (.lit g_law_roads) (.lit (.int 4)) .non)] [],
 .iff (.cmp .eq (.var 3) (.lit (.int 4))) [
  .asg 4 (.slc (.lit g_law_roads) .non (.lit (.int 4)))] [],
 .asg 6 (.lst []),
 .forE 7 (.var 4) [
  .asg 8 (.call f_law_go [(.var 0),(.var 2),(.var 7)]),
  .whil (.cmp .ge (.var 8) (.lit (.int 0))) [
   .app 6 (.var 8),
   .iff (.and (.cmp .isin (.var 3) (.tup [(.lit (.int 3)),(.lit (.int 4)),(.lit (.int 5))])) (.cmp .eq (.idx (.var 1) (.var 8)) (.lit (.int 0)))) [
    .asg 8 (.call f_law_go [(.var 0),(.var 8),(.var 7)])] [
    .asg 8 (.neg (.lit (.int 1)))]]],
 .ret (.var 6)]⟩
noncomputable def p_law_draw:Fun:=⟨1,[
 .asg 1 (.idx (.call f_law_shapes []) (.bin .fmod (.call f_law_at [(.var 0),(.lit (.int 0))]) (.lit (.int 4)))),
 .asg 2 (.bin .mul (.idx (.var 1) (.lit (.int 0))) (.idx (.var 1) (.lit (.int 1)))),
 .asg 3 (.bin .fmod (.call f_law_at [(.var 0),(.lit (.int 1))]) (.lit (.int 2))),
 .asg 4 (.bin .mul (.lst [(.lit (.int 0))]) (.var 2)),
 .asg 5 (.bin .fmod (.call f_law_at [(.var 0),(.lit (.int 2))]) (.bin .add (.var 2) (.lit (.int 8)))),
 .iff (.cmp .ge (.var 5) (.var 2)) [
  .asg 6 (.bin .mul (.var 3) (.bin .sub (.var 2) (.idx (.var 1) (.lit (.int 0))))),
  .asg 5 (.bin .add (.var 6) (.bin .fdiv (.idx (.var 1) (.lit (.int 0))) (.lit (.int 2)))),
  .setI 4 (.var 6) (.bin .add (.bin .mul (.lit (.int 8)) (.var 3)) (.lit (.int 4))),
  .setI 4 (.bin .sub (.bin .add (.var 6) (.idx (.var 1) (.lit (.int 0)))) (.lit (.int 1))) (.bin .add (.bin .mul (.lit (.int 8)) (.var 3)) (.lit (.int 4)))] [],
 .setI 4 (.var 5) (.bin .add (.bin .mul (.lit (.int 8)) (.var 3)) (.lit (.int 6))),
 .forR 7 (.lit (.int 3)) (.lit (.int 11)) [
  .asg 8 (.call f_law_at [(.var 0),(.var 7)]),
  .asg 9 (.bin .fmod (.var 8) (.var 2)),
  .asg 10 (.idx (.call f_law_pieces []) (.bin .fmod (.bin .fdiv (.var 8) (.var 2)) (.lit (.int 10)))),
  .iff (.and (.cmp .eq (.idx (.var 4) (.var 9)) (.lit (.int 0))) (.or (.cmp .ne (.bin .fmod (.var 10) (.lit (.int 8))) (.lit (.int 1))) (.cmp2 .lt .lt (.lit (.int 0)) (.bin .fdiv (.var 9) (.idx (.var 1) (.lit (.int 0)))) (.bin .sub (.idx (.var 1) (.lit (.int 1))) (.lit (.int 1)))))) [
   .setI 4 (.var 9) (.var 10)] []],
 .asg 11 (.bin .fmod (.call f_law_at [(.var 0),(.lit (.int 11))]) (.bin .mul (.lit (.int 2)) (.var 2))),
 .iff (.or (.cmp .ge (.var 11) (.var 2)) (.or (.cmp .ne (.idx (.var 4) (.var 11)) (.lit (.int 0))) (.not (.cmp2 .lt .lt (.lit (.int 0)) (.bin .fdiv (.var 11) (.idx (.var 1) (.lit (.int 0)))) (.bin .sub (.idx (.var 1) (.lit (.int 1))) (.lit (.int 1))))))) [
  .asg 11 (.neg (.lit (.int 1)))] [],
 .ret (.tup [(.var 1),(.var 4),(.var 3),(.var 11)])]⟩
noncomputable def p_law_pawn_goals:Fun:=⟨5,[
 .asg 5 (.lst []),
 .forE 6 (.call f_law_seen [(.var 0),(.var 1),(.var 2)]) [
  .iff (.cmp .eq (.var 6) (.var 4)) [
   .app 5 (.tup [(.var 2),(.var 6),(.lit (.int 2)),(.lit (.int 0))])] [
   .iff (.and (.cmp .ne (.idx (.var 1) (.var 6)) (.lit (.int 0))) (.cmp .ne (.bin .fdiv (.idx (.var 1) (.var 6)) (.lit (.int 8))) (.var 3))) [
    .app 5 (.tup [(.var 2),(.var 6),(.lit (.int 0)),(.lit (.int 0))])] []]],
 .asg 7 (.tup [(.lit (.int 0)),(.bin .sub (.lit (.int 1)) (.bin .mul (.lit (.int 2)) (.var 3)))]),
 .asg 6 (.call f_law_go [(.var 0),(.var 2),(.var 7)]),
 .iff (.cmp .eq (.idx (.var 1) (.var 6)) (.lit (.int 0))) [
  .app 5 (.tup [(.var 2),(.var 6),(.lit (.int 0)),(.lit (.int 0))]),
  .iff (.and (.cmp .eq (.var 0) (.tup [(.lit (.int 5)),(.lit (.int 5))])) (.cmp .eq (.bin .fdiv (.var 2) (.lit (.int 5))) (.bin .add (.lit (.int 1)) (.bin .mul (.lit (.int 2)) (.var 3))))) [
   .asg 6 (.call f_law_go [(.var 0),(.var 6),(.var 7)]),
   .iff (.cmp .eq (.idx (.var 1) (.var 6)) (.lit (.int 0))) [
    .app 5 (.tup [(.var 2),(.var 6),(.lit (.int 0)),(.lit (.int 0))])] []] []] [],
 .ret (.var 5)]⟩
noncomputable def p_law_castlings:Fun:=⟨3,[
 .asg 3 (.lst []),
 .asg 4 (.bin .mul (.var 2) (.bin .sub (.fn1 .len (.var 1)) (.idx (.var 0) (.lit (.int 0))))),
 .asg 5 (.bin .add (.var 4) (.bin .fdiv (.idx (.var 0) (.lit (.int 0))) (.lit (.int 2)))),
 .forT [6,7] (.tup [(.tup [(.lit (.int 1)),(.bin .sub (.bin .add (.var 4) (.idx (.var 0) (.lit (.int 0)))) (.lit (.int 1)))]),(.tup [(.neg (.lit (.int 1))),(.var 4)])]) [
  .asg 8 (.bin .add (.var 5) (.bin .mul (.lit (.int 2)) (.var 6))),
  .iff (.and (.cmp .eq (.idx (.var 1) (.var 5)) (.bin .add (.bin .mul (.lit (.int 8)) (.var 2)) (.lit (.int 6)))) (.and (.cmp .eq (.idx (.var 1) (.var 7)) (.bin .add (.bin .mul (.lit (.int 8)) (.var 2)) (.lit (.int 4)))) (.cmp .gt (.bin .mul (.bin .sub (.var 7) (.var 8)) (.var 6)) (.lit (.int 0))))) [
   .iff (.cmp .eq (.fn1 .sum (.slc (.var 1) (.bin .add (.fn2 .min (.var 5) (.var 7)) (.lit (.int 1))) (.fn2 .max (.var 5) (.var 7)))) (.lit (.int 0))) [
    .app 3 (.tup [(.var 5),(.var 8),(.lit (.int 3)),(.lit (.int 0))])] []] []],
 .ret (.var 3)]⟩
noncomputable def p_law_moves:Fun:=⟨4,[
 .asg 4 (.call f_law_castlings [(.var 0),(.var 1),(.var 2)]),
 .forR 5 .non (.fn1 .len (.var 1)) [
  .iff (.or (.cmp .eq (.idx (.var 1) (.var 5)) (.lit (.int 0))) (.cmp .ne (.bin .fdiv (.idx (.var 1) (.var 5)) (.lit (.int 8))) (.var 2))) [
   .cont] [],
  .iff (.cmp .eq (.bin .fmod (.idx (.var 1) (.var 5)) (.lit (.int 8))) (.lit (.int 1))) [
   .forE 6 (.call f_law_pawn_goals [(.var 0),(.var 1),(.var 5),(.var 2),(.var 3)]) [
    .iff (.cmp .eq (.bin .fdiv (.idx (.var 6) (.lit (.int 1))) (.idx (.var 0) (.lit (.int 0)))) (.bin .mul (.bin .sub (.lit (.int 1)) (.var 2)) (.bin .sub (.idx (.var 0) (.lit (.int 1))) (.lit (.int 1))))) [
     .asg 4 (.bin .add (.var 4) (.comp (.tup [(.var 5),(.idx (.var 6) (.lit (.int 1))),(.lit (.int 1)),(.var 100)]) 100 false (.tup [(.lit (.int 2)),(.lit (.int 3)),(.lit (.int 4)),(.lit (.int 5))]) .non))] [
     .app 4 (.var 6)]]] [
   .forE 7 (.call f_law_seen [(.var 0),(.var 1),(.var 5)]) [
    .iff (.or (.cmp .eq (.idx (.var 1) (.var 7)) (.lit (.int 0))) (.cmp .ne (.bin .fdiv (.idx (.var 1) (.var 7)) (.lit (.int 8))) (.var 2))) [
     .app 4 (.tup [(.var 5),(.var 7),(.lit (.int 0)),(.lit (.int 0))])] []]]],
 .ret (.var 4)]⟩
noncomputable def p_law_number:Fun:=⟨1,[
 .asg 1 (.bin .add (.bin .add (.idx (.var 0) (.lit (.int 1))) (.bin .mul (.lit (.int 64)) (.idx (.var 0) (.lit (.int 0))))) (.bin .mul (.lit (.int 16384)) (.idx (.var 0) (.lit (.int 2))))),
 .iff (.cmp .eq (.idx (.var 0) (.lit (.int 2))) (.lit (.int 1))) [
  .asg 1 (.bin .add (.var 1) (.bin .mul (.lit (.int 4096)) (.bin .sub (.idx (.var 0) (.lit (.int 3))) (.lit (.int 2)))))] [],
 .ret (.var 1)]⟩
noncomputable def p_law_name:Fun:=⟨2,[
 .ret (.bin .add (.idx (.lit (.str [97,98,99,100,101,102,103,104])) (.bin .fmod (.var 1) (.idx (.var 0) (.lit (.int 0))))) (.idx (.lit (.str [49,50,51,52,53,54,55,56])) (.bin .fdiv (.var 1) (.idx (.var 0) (.lit (.int 0))))))]⟩
noncomputable def p_law_long:Fun:=⟨3,[
 .asgT [3,4,5,6] (.var 2),
 .iff (.cmp .eq (.var 5) (.lit (.int 3))) [
  .ret (.ite (.cmp .gt (.var 4) (.var 3)) (.lit (.str [79,45,79])) (.lit (.str [79,45,79,45,79])))] [],
 .asg 7 (.ite (.or (.cmp .ne (.idx (.var 1) (.var 4)) (.lit (.int 0))) (.cmp .eq (.var 5) (.lit (.int 2)))) (.lit (.str [120])) (.lit (.str [45]))),
 .asg 8 (.ite (.cmp .gt (.var 6) (.lit (.int 0))) (.bin .add (.lit (.str [61])) (.idx (.call f_law_letters []) (.var 6))) (.lit (.str []))),
 .ret (.bin .add (.bin .add (.bin .add (.bin .add (.idx (.call f_law_letters []) (.bin .fmod (.idx (.var 1) (.var 3)) (.lit (.int 8)))) (.call f_law_name [(.var 0),(.var 3)])) (.var 7)) (.call f_law_name [(.var 0),(.var 4)])) (.var 8))]⟩
noncomputable def p_law_digits:Fun:=⟨2,[
 .asg 2 (.lit (.str [])),
 .forE 3 (.slc (.var 1) .non (.lit (.int 2))) [
  .asg 2 (.bin .add (.bin .add (.var 2) (.fn1 .str (.bin .add (.bin .fmod (.var 3) (.idx (.var 0) (.lit (.int 0)))) (.lit (.int 1))))) (.fn1 .str (.bin .add (.bin .fdiv (.var 3) (.idx (.var 0) (.lit (.int 0)))) (.lit (.int 1)))))],
 .ret (.bin .add (.var 2) (.idx (.lst [(.lit (.str [])),(.lit (.str [])),(.lit (.str [52])),(.lit (.str [51])),(.lit (.str [50])),(.lit (.str [49]))]) (.idx (.var 1) (.lit (.int 3)))))]⟩
noncomputable def p_law_bend:Fun:=⟨3,[
 .forR 3 (.var 1) (.bin .add (.var 1) (.lit (.int 3))) [
  .asg 4 (.call f_law_at [(.var 0),(.var 3)]),
  .asg 5 (.bin .fmod (.bin .fdiv (.var 4) (.lit (.int 4))) (.bin .add (.fn1 .len (.var 2)) (.lit (.int 1)))),
  .asg 6 (.idx (.lit g_law_signs) (.bin .fmod (.bin .fdiv (.var 4) (.lit (.int 64))) (.lit (.int 32)))),
  .iff (.cmp .eq (.bin .fmod (.var 4) (.lit (.int 4))) (.lit (.int 1))) [
   .asg 2 (.bin .add (.bin .add (.slc (.var 2) .non (.var 5)) (.var 6)) (.slc (.var 2) (.var 5) .non))] [],
  .iff (.cmp .eq (.bin .fmod (.var 4) (.lit (.int 4))) (.lit (.int 2))) [
   .asg 2 (.bin .add (.slc (.var 2) .non (.var 5)) (.slc (.var 2) (.bin .add (.var 5) (.lit (.int 1))) .non))] [],
  .iff (.cmp .eq (.bin .fmod (.var 4) (.lit (.int 4))) (.lit (.int 3))) [
   .asg 2 (.bin .add (.bin .add (.slc (.var 2) .non (.var 5)) (.var 6)) (.slc (.var 2) (.bin .add (.var 5) (.lit (.int 1))) .non))] []],
 .ret (.var 2)]⟩
noncomputable def p_law_picked:Fun:=⟨4,[
 .tryr (.call f_pick_long [(.var 0),(.var 1),(.var 2),(.var 3)])]⟩
noncomputable def p_law_named:Fun:=⟨3,[
 .tryr (.call f_pick_iccf [(.idx (.var 0) (.lit (.int 0))),(.idx (.var 0) (.lit (.int 1))),(.var 1),(.var 2)])]⟩
noncomputable def p_law_sought:Fun:=⟨3,[
 .tryr (.call f_find_move [(.idx (.var 0) (.lit (.int 0))),(.idx (.var 0) (.lit (.int 1))),(.var 1),(.var 2)])]⟩
noncomputable def p_law_find:Fun:=⟨3,[
 .iff (.cmp .isin (.var 2) (.var 0)) [
  .ret (.idx (.var 1) (.mth .index (.var 0) (.var 2)))] [],
 .ret (.lit .none)]⟩
noncomputable def p_law_moves_told:Fun:=⟨1,[
 .asgT [1,2,3,4] (.call f_law_draw [(.var 0)]),
 .asg 5 (.call f_law_at [(.var 0),(.lit (.int 12))]),
 .asg 6 (.call f_law_moves [(.var 1),(.var 2),(.var 3),(.var 4)]),
 .asg 7 (.comp (.idx (.var 6) (.var 100)) 100 true (.fn1 .len (.var 6)) (.cmp .eq (.bin .fmod (.bin .fdiv (.var 5) (.bin .pow (.lit (.int 2)) (.var 100))) (.lit (.int 2))) (.lit (.int 0)))),
 .iff (.cmp .eq (.var 7) (.lst [])) [
  .asg 7 (.var 6)] [],
 .asg 8 (.comp (.call f_law_number [(.var 101)]) 101 false (.var 7) .non),
 .asg 9 (.comp (.call f_law_long [(.var 1),(.var 2),(.var 102)]) 102 false (.var 7) .non),
 .asg 10 (.comp (.call f_law_digits [(.var 1),(.var 103)]) 103 false (.var 7) .non),
 .iff (.cmp .eq (.var 9) (.lst [])) [
  .ret (.lit (.bool true))] [],
 .asg 11 (.bin .fmod (.call f_law_at [(.var 0),(.lit (.int 13))]) (.fn1 .len (.var 7))),
 .iff (.or (.cmp .ne (.call f_long_of [(.idx (.var 1) (.lit (.int 0))),(.var 2),(.idx (.var 8) (.var 11))]) (.idx (.var 9) (.var 11))) (.cmp .ne (.call f_iccf_of [(.idx (.var 1) (.lit (.int 0))),(.idx (.var 8) (.var 11))]) (.idx (.var 10) (.var 11)))) [
  .ret (.lit (.bool false))] [],
 .asg 12 (.call f_law_bend [(.var 0),(.lit (.int 15)),(.idx (.var 9) (.var 11))]),
 .asg 13 (.lit (.str [])),
 .iff (.cmp .isin (.slc (.var 12) (.neg (.lit (.int 1))) .non) (.tup [(.lit (.str [43])),(.lit (.str [35]))])) [
  .asg 13 (.slc (.var 12) (.neg (.lit (.int 1))) .non)] [],
 .asg 14 (.call f_law_find [(.var 9),(.var 8),(.slc (.var 12) .non (.bin .sub (.fn1 .len (.var 12)) (.fn1 .len (.var 13))))]),
 .iff (.cmp .isnot (.var 14) (.lit .none)) [
  .asg 14 (.tup [(.var 14),(.var 13)])] [],
 .iff (.cmp .ne (.call f_law_picked [(.idx (.var 1) (.lit (.int 0))),(.var 2),(.var 8),(.var 12)]) (.var 14)) [
  .ret (.lit (.bool false))] [],
 .asg 12 (.call f_law_bend [(.var 0),(.lit (.int 15)),(.idx (.var 10) (.var 11))]),
 .iff (.cmp .ne (.call f_law_named [(.var 1),(.var 8),(.var 12)]) (.call f_law_find [(.var 10),(.var 8),(.var 12)])) [
  .ret (.lit (.bool false))] [],
 .asg 15 (.comp (.bin .add (.bin .add (.call f_law_name [(.var 1),(.idx (.var 104) (.lit (.int 0)))]) (.call f_law_name [(.var 1),(.idx (.var 104) (.lit (.int 1)))])) (.idx (.lst [(.lit (.str [])),(.lit (.str [])),(.lit (.str [110])),(.lit (.str [98])),(.lit (.str [114])),(.lit (.str [113]))]) (.idx (.var 104) (.lit (.int 3))))) 104 false (.var 7) .non),
 .asg 12 (.call f_law_bend [(.var 0),(.lit (.int 15)),(.idx (.var 15) (.var 11))]),
 .ret (.cmp .eq (.call f_law_sought [(.var 1),(.var 8),(.var 12)]) (.call f_law_find [(.var 15),(.var 8),(.var 12)]))]⟩
noncomputable def p_law_read:Fun:=⟨3,[
 .asg 3 (.lst []),
 .asg 4 (.lit (.bool false)),
 .forE 5 (.mth .split (.var 2) (.lit (.str [32]))) [
  .asg 6 (.bin .add (.bin .add (.bin .mul (.lit (.int 2)) (.var 1)) (.var 0)) (.fn1 .len (.var 3))),
  .asg 7 (.bin .add (.fn1 .str (.bin .fdiv (.var 6) (.lit (.int 2)))) (.slc (.lit (.str [46,46,46])) .non (.bin .add (.lit (.int 1)) (.bin .mul (.lit (.int 2)) (.bin .fmod (.var 6) (.lit (.int 2))))))),
  .iff (.and (.cmp .ne (.slc (.var 5) .non (.lit (.int 1))) (.lit (.str []))) (.cmp .isin (.idx (.var 5) (.lit (.int 0))) (.lit (.str [46,48,49,50,51,52,53,54,55,56,57])))) [
   .iff (.or (.var 4) (.or (.cmp .ne (.slc (.var 5) .non (.fn1 .len (.var 7))) (.var 7)) (.cmp .eq (.slc (.var 5) (.fn1 .len (.var 7)) (.bin .add (.fn1 .len (.var 7)) (.lit (.int 1)))) (.lit (.str [46]))))) [
    .ret (.lit .none)] [],
   .asg 4 (.lit (.bool true)),
   .asg 5 (.slc (.var 5) (.fn1 .len (.var 7)) .non)] [],
  .iff (.cmp .ne (.var 5) (.lit (.str []))) [
   .app 3 (.var 5),
   .asg 4 (.lit (.bool false))] []],
 .iff (.var 4) [
  .ret (.lit .none)] [],
 .ret (.var 3)]⟩
noncomputable def p_law_split:Fun:=⟨3,[
 .tryr (.call f_split_line [(.var 0),(.var 1),(.var 2)])]⟩
noncomputable def p_law:Fun:=⟨1,[
 .asg 0 (.slc (.var 0) .non (.lit (.int 32))),
 .iff (.not (.call f_law_moves_told [(.var 0)])) [
  .ret (.lit (.bool false))] [],
 .asg 1 (.bin .fmod (.call f_law_at [(.var 0),(.lit (.int 18))]) (.lit (.int 2))),
 .asg 2 (.bin .add (.lit (.int 1)) (.bin .fmod (.call f_law_at [(.var 0),(.lit (.int 19))]) (.lit (.int 120)))),
 .asg 3 (.lst []),
 .forR 4 .non (.bin .fmod (.call f_law_at [(.var 0),(.lit (.int 20))]) (.lit (.int 6))) [
  .asg 5 (.call f_law_at [(.var 0),(.bin .add (.lit (.int 21)) (.var 4))]),
  .app 3 (.idx (.lst [(.lit (.str [75,98,51])),(.lit (.str [97,52])),(.lit (.str [82,120,99,50,43])),(.lit (.str [79,45,79])),(.lit (.str [98,52,61,81,35])),(.lit (.str [78,100,50]))]) (.bin .fmod (.var 5) (.lit (.int 6))))],
 .asg 6 (.lst []),
 .forR 4 .non (.fn1 .len (.var 3)) [
  .asg 7 (.bin .add (.bin .add (.bin .mul (.lit (.int 2)) (.var 2)) (.var 1)) (.var 4)),
  .iff (.cmp .eq (.bin .fmod (.var 7) (.lit (.int 2))) (.lit (.int 0))) [
   .app 6 (.bin .add (.fn1 .str (.bin .fdiv (.var 7) (.lit (.int 2)))) (.lit (.str [46])))] [
   .iff (.cmp .eq (.var 4) (.lit (.int 0))) [
    .app 6 (.bin .add (.fn1 .str (.bin .fdiv (.var 7) (.lit (.int 2)))) (.lit (.str [46,46,46])))] []],
  .app 6 (.idx (.var 3) (.var 4))],
 .asg 8 (.call f_number_line [(.var 1),(.var 2),(.var 3)]),
 .iff (.or (.cmp .ne (.var 8) (.mth .join (.lit (.str [32])) (.var 6))) (.or (.cmp .ne (.call f_split_line [(.var 1),(.var 2),(.var 8)]) (.var 3)) (.cmp .ne (.call f_split_line [(.var 1),(.var 2),(.mth .join (.lit (.str [32])) (.var 3))]) (.var 3)))) [
  .ret (.lit (.bool false))] [],
 .asg 8 (.call f_law_bend [(.var 0),(.lit (.int 26)),(.var 8)]),
 .ret (.cmp .eq (.call f_law_split [(.var 1),(.var 2),(.var 8)]) (.call f_law_read [(.var 1),(.var 2),(.var 8)]))]⟩
noncomputable def tabL:List Fun:=[p_kind_of,p_is_piece,p_letter_of,p_move_from,p_move_to,p_move_special,p_move_promo,p_takes,p_castle_text,p_cut_sign,p_file_of,p_rank_of,p_square_name,p_read_square,p_long_of,p_pick_long,p_iccf_square,p_iccf_promo,p_iccf_of,p_read_iccf,p_pick_iccf,p_number_line,p_split_number,p_is_number_right,p_split_line,p_promo_letter,p_read_coords,p_find_move,p_law_shapes,p_law_pieces,p_law_letters,p_law_at,p_law_go,p_law_seen,p_law_draw,p_law_pawn_goals,p_law_castlings,p_law_moves,p_law_number,p_law_name,p_law_long,p_law_digits,p_law_bend,p_law_picked,p_law_named,p_law_sought,p_law_find,p_law_moves_told,p_law_read,p_law_split,p_law]
noncomputable def texts:List (String×Fun×List (String×Nat)):=[
 ("kind_of",p_kind_of,[("piece",0)]),
 ("is_piece",p_is_piece,[("number",0)]),
 ("letter_of",p_letter_of,[("piece",0)]),
 ("move_from",p_move_from,[("move",0)]),
 ("move_to",p_move_to,[("move",0)]),
 ("move_special",p_move_special,[("move",0)]),
 ("move_promo",p_move_promo,[("move",0)]),
 ("takes",p_takes,[("board",0),("move",1)]),
 ("castle_text",p_castle_text,[("move",0)]),
 ("cut_sign",p_cut_sign,[("text",0)]),
 ("file_of",p_file_of,[("files",0),("square",1)]),
 ("rank_of",p_rank_of,[("files",0),("square",1)]),
 ("square_name",p_square_name,[("files",0),("square",1)]),
 ("read_square",p_read_square,[("files",0),("ranks",1),("text",2),("file",3),("rank",4)]),
 ("long_of",p_long_of,[("files",0),("board",1),("move",2),("kind",3),("text",4)]),
 ("pick_long",p_pick_long,[("files",0),("board",1),("moves",2),("text",3),("body",4),("sign",5),("move",6)]),
 ("iccf_square",p_iccf_square,[("files",0),("square",1)]),
 ("iccf_promo",p_iccf_promo,[("kind",0)]),
 ("iccf_of",p_iccf_of,[("files",0),("move",1),("text",2)]),
 ("read_iccf",p_read_iccf,[("files",0),("ranks",1),("text",2),("places",3),("sign",4),("at",5),("promo",6)]),
 ("pick_iccf",p_pick_iccf,[("files",0),("ranks",1),("moves",2),("text",3),("origin",4),("goal",5),("promo",6),("move",7)]),
 ("number_line",p_number_line,[("side",0),("full",1),("words",2),("out",3),("word",4)]),
 ("split_number",p_split_number,[("word",0),("at",1),("end",2)]),
 ("is_number_right",p_is_number_right,[("side",0),("full",1),("digits",2),("dots",3)]),
 ("split_line",p_split_line,[("side",0),("full",1),("text",2),("words",3),("is_numbered",4),("word",5),("digits",6),("dots",7),("rest",8)]),
 ("promo_letter",p_promo_letter,[("kind",0)]),
 ("read_coords",p_read_coords,[("files",0),("ranks",1),("text",2),("origin",3),("goal",4),("promo",5),("kind",6)]),
 ("find_move",p_find_move,[("files",0),("ranks",1),("moves",2),("text",3),("origin",4),("goal",5),("promo",6),("move",7)]),
 ("_law_shapes",p_law_shapes,[]),
 ("_law_pieces",p_law_pieces,[]),
 ("_law_letters",p_law_letters,[]),
 ("_law_at",p_law_at,[("script",0),("i",1)]),
 ("_law_go",p_law_go,[("shape",0),("square",1),("road",2),("x",3),("y",4)]),
 ("_law_seen",p_law_seen,[("shape",0),("cells",1),("square",2),("kind",3),("roads",4),("up",5),("out",6),("road",7),("to",8)]),
 ("_law_draw",p_law_draw,[("script",0),("shape",1),("size",2),("side",3),("cells",4),("king",5),("home",6),("i",7),("number",8),("square",9),("piece",10),("ep",11)]),
 ("_law_pawn_goals",p_law_pawn_goals,[("shape",0),("cells",1),("origin",2),("side",3),("ep",4),("out",5),("to",6),("up",7)]),
 ("_law_castlings",p_law_castlings,[("shape",0),("cells",1),("side",2),("out",3),("home",4),("king",5),("way",6),("corner",7),("goal",8)]),
 ("_law_moves",p_law_moves,[("shape",0),("cells",1),("side",2),("ep",3),("out",4),("origin",5),("move",6),("to",7)]),
 ("_law_number",p_law_number,[("move",0),("number",1)]),
 ("_law_name",p_law_name,[("shape",0),("square",1)]),
 ("_law_long",p_law_long,[("shape",0),("cells",1),("move",2),("origin",3),("to",4),("special",5),("promo",6),("cross",7),("end",8)]),
 ("_law_digits",p_law_digits,[("shape",0),("move",1),("text",2),("square",3)]),
 ("_law_bend",p_law_bend,[("script",0),("first",1),("text",2),("i",3),("number",4),("place",5),("sign",6)]),
 ("_law_picked",p_law_picked,[("files",0),("cells",1),("numbers",2),("text",3)]),
 ("_law_named",p_law_named,[("shape",0),("numbers",1),("text",2)]),
 ("_law_sought",p_law_sought,[("shape",0),("numbers",1),("text",2)]),
 ("_law_find",p_law_find,[("texts",0),("numbers",1),("text",2)]),
 ("_law_moves_told",p_law_moves_told,[("script",0),("shape",1),("cells",2),("side",3),("ep",4),("drop",5),("moves",6),("kept",7),("numbers",8),("longs",9),("digits",10),("k",11),("text",12),("sign",13),("want",14),("wires",15)]),
 ("_law_read",p_law_read,[("side",0),("full",1),("text",2),("words",3),("told",4),("word",5),("ply",6),("mark",7)]),
 ("_law_split",p_law_split,[("side",0),("full",1),("text",2)]),
 ("law",p_law,[("script",0),("side",1),("full",2),("words",3),("i",4),("number",5),("marked",6),("ply",7),("text",8)])]
noncomputable def consts:List (String×D):=[("WHITE",g_WHITE),("BLACK",g_BLACK),("NO_KIND",g_NO_KIND),("PAWN",g_PAWN),("KNIGHT",g_KNIGHT),("BISHOP",g_BISHOP),("ROOK",g_ROOK),("QUEEN",g_QUEEN),("EMPTY",g_EMPTY),("PROMOTION",g_PROMOTION),("EN_PASSANT",g_EN_PASSANT),("CASTLING",g_CASTLING),("LETTERS",g_LETTERS),("SHORT",g_SHORT),("LONG",g_LONG),("FILE_LETTERS",g_FILE_LETTERS),("RANK_DIGITS",g_RANK_DIGITS),("_law_signs",g_law_signs),("_law_roads",g_law_roads),("_law_jumps",g_law_jumps)]
noncomputable def tab (f:Nat):Option Fun:=tabL[f]?
end Mine

namespace Mine
open PySem PySem.W PySem.Calls PyProof.Rows PyProof.V PySem.Spec
mutual
inductive Rd (T:Addr→Prop) (h:Heap):Value→D→Prop
 | none:Rd T h .none .none
 | bool (b:Bool):Rd T h (.bool b) (.bool b)
 | int (i:Int) (t:Tok):Rd T h (.int i t) (.int i)
 | str (x:Str) (t:Tok) (s:List Nat) (e:x.cps.toList=s) (k:PyData.strOk x=true):Rd T h (.str x t) (.str s)
 | tup {a:Addr} {o:Obj} {vs:Array Value} {n:Nat} {ds:List D} (ta:T a) (ho:h.get? a=some o) (hc:o.cls=.type "tuple") (hd:o.data=.seq vs n) (r:RdAll T h vs.toList ds):Rd T h (.ref a) (.tup ds)
 | lst {a:Addr} {o:Obj} {vs:Array Value} {n:Nat} {ds:List D} (ta:T a) (ho:h.get? a=some o) (hc:o.cls=.type "list") (hd:o.data=.seq vs n) (hx:o.dict=none) (r:RdAll T h vs.toList ds):Rd T h (.ref a) (.lst ds)
inductive RdAll (T:Addr→Prop) (h:Heap):List Value→List D→Prop
 | nil:RdAll T h [] []
 | cons {v:Value} {vs:List Value} {d:D} {ds:List D} (hd:Rd T h v d) (r:RdAll T h vs ds):RdAll T h (v :: vs) (d :: ds)
end
theorem RdAll.ind {T:Addr→Prop} {h:Heap} {P:List Value→List D→Prop} (n:P [] []) (c:∀ {v vs d ds},Rd T h v d→RdAll T h vs ds→P vs ds→P (v :: vs) (d :: ds)) {vs:List Value} {ds:List D} (r:RdAll T h vs ds):P vs ds:=
 @RdAll.rec T h (fun _ _ _=>True) (fun vs ds _=>P vs ds) trivial (fun _=>trivial) (fun _ _=>trivial) (fun _ _ _ _ _=>trivial) (fun _ _ _ _ _ _=>trivial) (fun _ _ _ _ _ _ _=>trivial) n (fun a b _ d=>c a b d) vs ds r
theorem Rd.mono {T T':Addr→Prop} {h h':Heap} (ht:∀ a,T a→T' a) (hk:∀ a o,T a→h.get? a=some o→h'.get? a=some o) {v:Value} {d:D} (r:Rd T h v d):Rd T' h' v d:=
 @Rd.rec T h (fun v d _=>Rd T' h' v d) (fun vs ds _=>RdAll T' h' vs ds) .none .bool .int .str (fun ta ho hc hd _ r=>.tup (ht _ ta) (hk _ _ ta ho) hc hd r) (fun ta ho hc hd hx _ r=>.lst (ht _ ta) (hk _ _ ta ho) hc hd hx r) .nil (fun _ _ a b=>.cons a b) v d r
theorem RdAll.mono {T T':Addr→Prop} {h h':Heap} (ht:∀ a,T a→T' a) (hk:∀ a o,T a→h.get? a=some o→h'.get? a=some o) {vs:List Value} {ds:List D} (r:RdAll T h vs ds):RdAll T' h' vs ds:=
 r.ind .nil fun hd _ q=>.cons (hd.mono ht hk) q
mutual
noncomputable def toPy:D→PyData
 | .none=>.none
 | .bool b=>.bool b
 | .int i=>.int i
 | .str s=>.str ⟨s.toArray⟩
 | .tup l=>.tuple (toPys l)
 | .lst l=>.list (toPys l)
noncomputable def toPys:List D→List PyData
 | []=>[]
 | d :: r=>toPy d :: toPys r
end
theorem str_mk {x:Str} {s:List Nat} (e:x.cps.toList=s):x=⟨s.toArray⟩:=by
 subst e;cases x;simp
theorem Rd.reads {T:Addr→Prop} {h:Heap} {v:Value} {d:D} (r:Rd T h v d):∃ as,Reads h v (toPy d) as:=
 @Rd.rec T h (fun v d _=>∃ as,Reads h v (toPy d) as) (fun vs ds _=>∃ as,ReadsAll h vs (toPys ds) as) ⟨_,Reads.none⟩ (fun b=>⟨_,Reads.bool b⟩) (fun i t=>⟨_,Reads.int i t⟩)
  (fun x t s e _=>by cases str_mk e;exact⟨_,Reads.str _ t⟩) (fun _ ho hc hd _ q=>q.elim fun _ q=>⟨_,Reads.tuple ho hc hd q⟩) (fun _ ho hc hd _ _ q=>q.elim fun _ q=>⟨_,Reads.list ho hc hd q⟩)
  ⟨_,ReadsAll.nil⟩ (fun _ _ q p=>q.elim fun _ q=>p.elim fun _ p=>⟨_,ReadsAll.cons q p⟩) v d r
theorem RdAll.reads {T:Addr→Prop} {h:Heap} {vs:List Value} {ds:List D} (r:RdAll T h vs ds):∃ as,ReadsAll h vs (toPys ds) as:=
 RdAll.ind (P:=fun vs ds=>∃ as,ReadsAll h vs (toPys ds) as) ⟨_,ReadsAll.nil⟩ (fun hd _ p=>hd.reads.elim fun _ q=>p.elim fun _ p=>⟨_,ReadsAll.cons q p⟩) r
theorem Rd.lay {T:Addr→Prop} {h:Heap} {v:Value} {d:D} (r:Rd T h v d):(toPy d).canLay0=true:=
 @Rd.rec T h (fun _ d _=>(toPy d).canLay0=true) (fun _ ds _=>PyData.canLayAll0 (toPys ds)=true) rfl (fun _=>rfl) (fun _ _=>rfl)
  (fun x t s e k=>by cases str_mk e;exact k) (fun _ _ _ _ _ q=>q) (fun _ _ _ _ _ _ q=>q) rfl (fun _ _ a b=>by show(_ && _)=true;rw [a,b];rfl) v d r
theorem RdAll.length {T:Addr→Prop} {h:Heap} {vs:List Value} {ds:List D} (r:RdAll T h vs ds):vs.length=ds.length:=
 RdAll.ind (P:=fun vs ds=>vs.length=ds.length) rfl (fun _ _ e=>congrArg (· + 1) e) r
theorem RdAll.append {T:Addr→Prop} {h:Heap} {vs:List Value} {ds:List D} {ws:List Value} {es:List D} (r:RdAll T h vs ds) (k:RdAll T h ws es):RdAll T h (vs ++ ws) (ds ++ es):=
 RdAll.ind (P:=fun vs ds=>RdAll T h (vs ++ ws) (ds ++ es)) k (fun hd _ q=>.cons hd q) r
theorem RdAll.get {T:Addr→Prop} {h:Heap} {vs:List Value} {ds:List D} {k:Nat} {d:D} (r:RdAll T h vs ds):ds[k]?=some d→∃ v,vs[k]?=some v∧Rd T h v d:=
 RdAll.ind (P:=fun vs ds=>∀ k d,ds[k]?=some d→∃ v,vs[k]?=some v∧Rd T h v d) (fun k _ e=>by cases k <;> cases e)
  (fun hd _ ih k d e=>by
   cases k with
   | zero=>cases e;exact⟨_,rfl,hd⟩
   | succ k=>exact ih k d e) r k d
theorem RdAll.set {T:Addr→Prop} {h:Heap} {v:Value} {d:D} (hv:Rd T h v d) {vs:List Value} {ds:List D} (k:Nat) (r:RdAll T h vs ds):RdAll T h (vs.set k v) (ds.set k d):=
 RdAll.ind (P:=fun vs ds=>∀ k,RdAll T h (vs.set k v) (ds.set k d)) (fun _=>.nil) (fun hd r ih k=>by cases k;exact .cons hv r;exact .cons hd (ih _)) r k
theorem RdAll.take {T:Addr→Prop} {h:Heap} {vs:List Value} {ds:List D} (k:Nat) (r:RdAll T h vs ds):RdAll T h (vs.take k) (ds.take k):=
 RdAll.ind (P:=fun vs ds=>∀ k,RdAll T h (vs.take k) (ds.take k)) (fun k=>by cases k <;> exact .nil) (fun hd _ ih k=>by cases k;exact .nil;exact .cons hd (ih _)) r k
theorem RdAll.drop {T:Addr→Prop} {h:Heap} {vs:List Value} {ds:List D} (k:Nat) (r:RdAll T h vs ds):RdAll T h (vs.drop k) (ds.drop k):=
 RdAll.ind (P:=fun vs ds=>∀ k,RdAll T h (vs.drop k) (ds.drop k)) (fun k=>by cases k <;> exact .nil) (fun hd r ih k=>by cases k;exact .cons hd r;exact ih _) r k
theorem RdAll.replicate {T:Addr→Prop} {h:Heap} {v:Value} {d:D} (hv:Rd T h v d):∀ k,RdAll T h (List.replicate k v) (List.replicate k d)
 | 0=>.nil
 | k + 1=>by simpa [List.replicate_succ] using RdAll.cons hv (RdAll.replicate hv k)
theorem nob {n:Nat} {b:Bool} (h:eqOk n (.bool b)=true):False:=by cases n <;> cases h
theorem noz {l:List D} (h:eqOk 0 (.tup l)=true):False:=nomatch h
theorem nol {l:List D} (h:eqOk 0 (.lst l)=true):False:=nomatch h
theorem dep:∀ (n:Nat) (d:D),eqOk n d=true→(toPy d).depth≤n:=by
 have all:∀ n,(∀ d,eqOk n d=true→(toPy d).depth≤n)→∀ ds:List D,(∀ d ∈ ds,eqOk n d=true)→PyData.depthAll (toPys ds)≤n:=by
  intro n ih ds
  induction ds with
  | nil=>exact fun _=>Nat.zero_le _
  | cons d ds hi=>
   intro h
   have h1:=ih d (h d (.head _))
   have h2:=hi fun e he=>h e (.tail _ he)
   exact Nat.max_le.mpr ⟨h1,h2⟩
 intro n
 induction n with
 | zero=>
  intro d h
  cases d with
  | bool=>exact(nob h).elim
  | tup=>exact(noz h).elim
  | lst=>exact(nol h).elim
  | _=>exact Nat.zero_le _
 | succ n ih=>
  intro d h
  cases d with
  | tup l=>have q:=all n ih l (List.all_eq_true.mp h);exact Nat.succ_le_succ q
  | lst l=>have q:=all n ih l (List.all_eq_true.mp h);exact Nat.succ_le_succ q
  | bool=>exact(nob h).elim
  | _=>exact Nat.zero_le _
theorem st_eq (a b:List Nat):((⟨a.toArray⟩:Str) == ⟨b.toArray⟩)=(a == b):=by
 rw [Bool.eq_iff_iff,beq_iff_eq,beq_iff_eq]
 constructor
 ·intro e;simpa using e
 ·intro e;rw [e]
theorem eqv_deq:∀ (n:Nat) (d e:D) (k:Nat),eqOk n d=true→eqOk k e=true→PyData.eqv (toPy d) (toPy e)=deq d e:=by
 have all:∀ n,(∀ d e k,eqOk n d=true→eqOk k e=true→PyData.eqv (toPy d) (toPy e)=deq d e)→∀ k ds es,(∀ d ∈ ds,eqOk n d=true)→(∀ d ∈ es,eqOk k d=true)→
   PyData.eqvAll (toPys ds) (toPys es)=deqs ds es:=by
  intro n ih k ds
  induction ds with
  | nil=>intro es _ _;cases es <;> rfl
  | cons d ds hi=>
   intro es h1 h2
   cases es with
   | nil=>rfl
   | cons e es=>exact congr (congrArg and (ih d e k (h1 d (.head _)) (h2 e (.head _)))) (hi es (fun x hx=>h1 x (.tail _ hx)) fun x hx=>h2 x (.tail _ hx))
 have flat:∀ d e,scal d=true→(∀ b,d=.bool b→False)→(∀ b,e=.bool b→False)→PyData.eqv (toPy d) (toPy e)=deq d e:=by
  intro d e hs hd he
  cases d with
  | bool b=>exact(hd b rfl).elim
  | tup=>exact nomatch hs
  | lst=>exact nomatch hs
  | str s=>cases e with
   | str=>exact st_eq _ _
   | bool b=>exact(he b rfl).elim
   | _=>rfl
  | _=>cases e with
   | bool b=>exact(he b rfl).elim
   | _=>rfl
 intro n
 induction n with
 | zero=>
  intro d e k h1 h2
  have hb:∀ b,e=.bool b→False:=fun b x=>nob (x ▸ h2)
  cases d with
  | bool=>exact(nob h1).elim
  | tup=>exact(noz h1).elim
  | lst=>exact(nol h1).elim
  | _=>exact flat _ e rfl nofun hb
 | succ n ih=>
  intro d e k h1 h2
  have hb:∀ b,e=.bool b→False:=fun b x=>nob (x ▸ h2)
  cases d with
  | tup ds=>
   cases e with
   | tup es=>
    cases k with
    | zero=>exact(noz h2).elim
    | succ k=>exact all n ih k ds es (List.all_eq_true.mp h1) (List.all_eq_true.mp h2)
   | bool=>exact(nob h2).elim
   | _=>rfl
  | lst ds=>
   cases e with
   | lst es=>
    cases k with
    | zero=>exact(nol h2).elim
    | succ k=>exact all n ih k ds es (List.all_eq_true.mp h1) (List.all_eq_true.mp h2)
   | bool=>exact(nob h2).elim
   | _=>rfl
  | bool=>exact(nob h1).elim
  | _=>exact flat _ e rfl nofun hb
theorem Rd.shaped {T:Addr→Prop} {h:Heap} {v:Value} {d:D} {n:Nat} (r:Rd T h v d) (k:eqOk n d=true) (hn:n≤64):SeqAt.shaped (toPy d)=true:=by
 unfold SeqAt.shaped
 rw [r.lay,Bool.true_and]
 exact decide_eq_true (Nat.le_trans (dep n d k) hn)
theorem toPys_eq:∀ l:List D,toPys l=l.map toPy
 | []=>rfl
 | d :: r=>congrArg (toPy d :: ·) (toPys_eq r)
end Mine

namespace Mine
open PySem PySem.W PySem.Calls PyProof.Rows PyProof.V PySem.Spec
structure Cx where
 prog:Program
 w:World
 A:Around
 env:Env
 outs:List Env
 base:Heap
 cls:Value
namespace Cx
variable (C:Cx)
noncomputable abbrev M:Model:=model C.prog C.w
noncomputable abbrev L:Addr:=C.env.locals
noncomputable abbrev FS:List Addr:=C.outs.filterMap (·.frame)
noncomputable def N (a:Addr):Prop:=a≠C.L∧a ∉ C.FS∧∀ p ∈ C.env.cells,a≠p.2
end Cx
structure Kx (C:Cx) (m:Str→Option Value) (h h':Heap):Prop where
 ns:h'.Ns C.L m
 keep:∀ b o,b≠C.L→h.get? b=some o→∃ sl,h'.get? b=some { o with slots:=sl }∧(b ∉ C.FS→sl=o.slots)
theorem Kx.of {C:Cx} {m:Str→Option Value} {h h':Heap} (hn:h'.Ns C.L m) (hk:∀ b o,b≠C.L→h.get? b=some o→h'.get? b=some o):Kx C m h h':=
 ⟨hn,fun b o hb e=>⟨o.slots,hk b o hb e,fun _=>rfl⟩⟩
theorem Kx.refl {C:Cx} {m:Str→Option Value} {h:Heap} (hn:h.Ns C.L m):Kx C m h h:=.of hn fun _ _ _ e=>e
theorem Kx.trans {C:Cx} {m:Str→Option Value} {h h' h'':Heap} (x:Kx C m h h') (y:Kx C m h' h''):Kx C m h h'':=
 ⟨y.ns,fun b o hb e=>by
  obtain⟨sl,e1,p1⟩:=x.keep b o hb e
  obtain⟨sl2,e2,p2⟩:=y.keep b _ hb e1
  exact⟨sl2,e2,fun hf=>(p2 hf).trans (p1 hf)⟩⟩
theorem Kx.at {C:Cx} {m:Str→Option Value} {h h':Heap} (x:Kx C m h h') {b:Addr} {o:Obj} (hb:C.N b) (e:h.get? b=some o):h'.get? b=some o:=by
 obtain⟨sl,e1,p1⟩:=x.keep b o hb.1 e
 rw [p1 hb.2.1] at e1;exact e1
theorem Kx.live {C:Cx} {m:Str→Option Value} {h h':Heap} (x:Kx C m h h') {b:Addr} (e:h'.get? b=none) (_:∃ o,h.get? C.L=some o):h.get? b=none:=by
 cases q:h.get? b with
 | none=>rfl
 | some o=>
  by_cases hb:b=C.L
  ·obtain⟨o',es,ep,ho,_⟩:=x.ns
   rw [hb,ho] at e;cases e
  ·obtain⟨sl,e1,_⟩:=x.keep b o hb q
   rw [e1] at e;cases e
theorem ns_live {h:Heap} {a:Addr} {m:Str→Option Value} (x:h.Ns a m):∃ o,h.get? a=some o:=let ⟨o,_,_,e,_⟩:=x;⟨o,e⟩
structure TExt (T:Addr→Prop) (h:Heap) (T':Addr→Prop) (h':Heap):Prop where
 up:∀ a,T a→T' a
 new:∀ a,T' a→T a∨h.get? a=none
 live:∀ a,T' a→∃ o,h'.get? a=some o
theorem TExt.trans {C:Cx} {m:Str→Option Value} {T T' T'':Addr→Prop} {h h' h'':Heap} (x:TExt T h T' h') (y:TExt T' h' T'' h'') (k:Kx C m h h') (hl:∃ o,h.get? C.L=some o):TExt T h T'' h'':=
 ⟨fun a q=>y.up a (x.up a q),fun a q=>(y.new a q).elim (x.new a) fun z=>.inr (k.live z hl),y.live⟩
theorem Kx.frames {C:Cx} {m:Str→Option Value} {h h' base:Heap} (k:Kx C m h h'):∀ {l:List Env},h.FunFrames base l→h'.FunFrames base l
 | [],_=>trivial
 | env :: r,⟨h1,⟨L,o,h2,h3,h4,h5⟩,h6⟩=>⟨h1,by
   by_cases hb:L=C.L
   ·obtain⟨o',es,ep,ho,hd,_⟩:=k.ns
    exact⟨L,o',h2,h3,hb ▸ ho,fun vs q=>by rw [hd] at q;cases q⟩
   ·obtain⟨sl,e,_⟩:=k.keep L o hb h4
    exact⟨L,_,h2,h3,e,h5⟩,k.frames h6⟩
structure Ok (C:Cx) (m:Str→Option Value) (T:Addr→Prop) (h:Heap):Prop where
 ns:h.Ns C.L m
 sub:∀ a,T a→C.N a
 live:∀ a ∈ C.FS,∃ o,h.get? a=some o
 cells:∀ p ∈ C.env.cells,∃ o,h.get? p.2=some o
 ex:∀ a,T a→∃ o,h.get? a=some o
 bs:∀ a o,C.base.get? a=some o→T a
 stay:C.base.StaysIn h
 fr:h.FunFrames C.base C.outs
theorem Ok.new {C:Cx} {m:Str→Option Value} {T:Addr→Prop} {h:Heap} (x:Ok C m T h) {a:Addr} (e:h.get? a=none):C.N a:=
  ⟨fun q=>(by obtain⟨o,ho⟩:=ns_live x.ns;rw [q,ho] at e;cases e),fun q=>(by obtain⟨o,ho⟩:=x.live a q;rw [ho] at e;cases e),
   fun p hp q=>(by obtain⟨o,ho⟩:=x.cells p hp;rw [← q,e] at ho;cases ho)⟩
theorem Ok.step {C:Cx} {m:Str→Option Value} {T T':Addr→Prop} {h h':Heap} (x:Ok C m T h) (k:Kx C m h h') (t:TExt T h T' h'):Ok C m T' h':=
 by
 have z:∀ a,(∃ o,h.get? a=some o)→∃ o,h'.get? a=some o:=fun a ⟨o,ho⟩=>by
  by_cases hb:a=C.L
  ·rw [hb];exact ns_live k.ns
  ·obtain⟨sl,e,_⟩:=k.keep a o hb ho
   exact⟨_,e⟩
 exact⟨k.ns,fun a q=>(t.new a q).elim (x.sub a) fun z=>x.new z,fun a ha=>z a (x.live a ha),fun p hp=>z _ (x.cells p hp),t.live,fun a o e=>t.up a (x.bs a o e),fun a o e=>k.at (x.sub a (x.bs a o e)) (x.stay a o e),k.frames x.fr⟩
noncomputable def lobj (vs:Array Value) (n:Nat):Obj:={ cls:=.type "list",data:=.seq vs n }
theorem Ok.keep {C:Cx} {m:Str→Option Value} {T:Addr→Prop} {h h':Heap} (x:Ok C m T h) (k:Kx C m h h'):TExt T h T h':=
 ⟨fun _ q=>q,fun _ q=>.inl q,fun a q=>by obtain⟨o,ho⟩:=x.ex a q;exact⟨o,k.at (x.sub a q) ho⟩⟩
theorem Ok.add {C:Cx} {m:Str→Option Value} {T:Addr→Prop} {h h':Heap} (x:Ok C m T h) (k:Kx C m h h') {a:Addr} (e:h.get? a=none) (e':∃ o,h'.get? a=some o):TExt T h (fun b=>T b∨b=a) h':=
 ⟨fun _ q=>.inl q,fun _ q=>q.elim .inl fun z=>.inr (z ▸ e),fun b q=>q.elim (fun z=>by obtain⟨o,ho⟩:=x.ex b z;exact⟨o,k.at (x.sub b z) ho⟩) fun z=>z ▸ e'⟩
inductive Res (C:Cx) (T:Addr→Prop) (h₀ h:Heap):Value→D×Kd→Prop
 | pl {v:Value} {d:D} (r:Rd T h v d):Res C T h₀ h v (d,.pl)
 | fr {a:Addr} {vs:Array Value} {n:Nat} {ds:List D} (ta:¬ T a) (hn:C.N a) (hf:h₀.get? a=none) (ho:h.get? a=some (lobj vs n)) (r:RdAll T h vs.toList ds):Res C T h₀ h (.ref a) (.lst ds,.fr)
 | bo {a:Addr} {vs:Array Value} {n:Nat} {ds:List D} (hn:C.N a) (ho:h.get? a=some (lobj vs n)) (r:RdAll T h vs.toList ds):Res C T h₀ h (.ref a) (.lst ds,.bo)
 | tr {v:Value} {d:D} (r:Rd C.N h v d):Res C T h₀ h v (d,.tr)
section
variable {C:Cx} {m:Str→Option Value} {T T':Addr→Prop} {h₀ h h':Heap} {v:Value} {r:D×Kd}
theorem Rd.step {d:D} (x:Rd T h v d) (o:Ok C m T h) (k:Kx C m h h') (t:TExt T h T' h'):Rd T' h' v d:=
 x.mono t.up fun a _ ta e=>k.at (o.sub a ta) e
theorem RdAll.step {vs:List Value} {ds:List D} (x:RdAll T h vs ds) (o:Ok C m T h) (k:Kx C m h h') (t:TExt T h T' h'):RdAll T' h' vs ds:=
 x.mono t.up fun a _ ta e=>k.at (o.sub a ta) e
theorem Rd.stepN {d:D} (x:Rd C.N h v d) (k:Kx C m h h'):Rd C.N h' v d:=
 x.mono (fun _ q=>q) fun _ _ ta e=>k.at ta e
theorem Res.step (x:Res C T h₀ h v r) (o:Ok C m T h) (k:Kx C m h h') (t:TExt T h T' h'):Res C T' h₀ h' v r:=by
 cases x with
 | pl q=>exact .pl (q.step o k t)
 | fr ta hn hf ho q=>exact .fr (fun z=>(t.new _ z).elim ta fun e=>by rw [ho] at e;cases e) hn hf (k.at hn ho) (q.step o k t)
 | bo hn ho q=>exact .bo hn (k.at hn ho) (q.step o k t)
 | tr q=>exact .tr (q.stepN k)
theorem Res.older {h₁:Heap} (x:Res C T h₁ h v r) (hf:∀ a,h₁.get? a=none→h₀.get? a=none):Res C T h₀ h v r:=by
 cases x with
 | pl q=>exact .pl q
 | fr ta hn h0 ho q=>exact .fr ta hn (hf _ h0) ho q
 | bo hn ho q=>exact .bo hn ho q
 | tr q=>exact .tr q
theorem Res.any {d:D} {k:Kd} (x:Res C T h₀ h v (d,k)) (o:Ok C m T h):Rd C.N h v d:=by
 cases x with
 | pl q=>exact q.mono (fun a=>o.sub a) fun _ _ _ e=>e
 | fr ta hn hf ho q=>exact .lst hn ho rfl rfl rfl (q.mono (fun a=>o.sub a) fun _ _ _ e=>e)
 | bo hn ho q=>exact .lst hn ho rfl rfl rfl (q.mono (fun a=>o.sub a) fun _ _ _ e=>e)
 | tr q=>exact q
inductive SeqOf (T:Addr→Prop) (h:Heap) (c:String) (v:Value) (ds:List D):Prop
 | mk (a:Addr) (o:Obj) (vs:Array Value) (n:Nat) (e:v=.ref a) (ho:h.get? a=some o) (hc:o.cls=.type c) (hd:o.data=.seq vs n) (r:RdAll T h vs.toList ds):SeqOf T h c v ds
theorem Res.items {ds:List D} {k:Kd} (x:Res C T h₀ h v (.lst ds,k)) (hk:k.isTr=false):SeqOf T h "list" v ds:=by
 cases x with
 | pl q=>cases q with | lst ta ho hc hd _ r=>exact⟨_,_,_,_,rfl,ho,hc,hd,r⟩
 | fr ta hn hf ho q=>exact⟨_,_,_,_,rfl,ho,rfl,rfl,q⟩
 | bo hn ho q=>exact⟨_,_,_,_,rfl,ho,rfl,rfl,q⟩
 | tr q=>cases hk
theorem Res.itemsT {ds:List D} {k:Kd} (x:Res C T h₀ h v (.tup ds,k)) (hk:k.isTr=false):SeqOf T h "tuple" v ds:=by
 cases x with
 | pl q=>cases q with | tup ta ho hc hd r=>exact⟨_,_,_,_,rfl,ho,hc,hd,r⟩
 | tr q=>cases hk
end
inductive Exc (C:Cx) (m:Str→Option Value) (s:Shared) (e:Value) (s':Shared):Prop
 | mk (ea:Addr) (h':Heap) (tk:Nat) (B:Heap) (a0:Value) (e1:e=.ref ea) (e2:s'={ s with heap:=h',toks:=tk }) (st:C.base.StaysIn B) (fl:Heap.FlyingW B C.outs ea C.cls a0 h')
  (h1:∀ b o,b≠C.L→b ∉ C.FS→s.heap.get? b=some o→B.get? b=some o)
  (h2:∀ b o,b≠C.L→s.heap.get? b=some o→b ∈ C.FS→∃ sl,h'.get? b=some { o with slots:=sl }) (h3:h'.Ns C.L m):Exc C m s e s'
noncomputable def PostG {α β:Type} (C:Cx) (m:Str→Option Value) (rel:(Addr→Prop)→Heap→Heap→β→α→Prop) (r:Ev α) (T:Addr→Prop) (s:Shared) (Q:β→Shared→Prop) (E:Value→Shared→Prop):Prop:=
 match r with
 | Option.none=>False
 | some (.ok r)=>∀ v h' tk T',Kx C m s.heap h'→TExt T s.heap T' h'→rel T' s.heap h' v r→Q v { s with heap:=h',toks:=tk }
 | some .bad=>∀ e s',Exc C m s e s'→E e s'
noncomputable abbrev Post (C:Cx) (m:Str→Option Value) (r:Ev (D×Kd)) (T:Addr→Prop) (s:Shared) (Q:Value→Shared→Prop) (E:Value→Shared→Prop):Prop:=PostG C m (Res C) r T s Q E
noncomputable def Older {α β:Type} (rel:(Addr→Prop)→Heap→Heap→β→α→Prop):Prop:=∀ T h₀ h₁ h v r,(∀ a,h₁.get? a=none→h₀.get? a=none)→rel T h₁ h v r→rel T h₀ h v r
theorem Res.old (C:Cx):Older (Res C):=fun _ _ _ _ _ _ hf x=>x.older hf
inductive ResAll (C:Cx) (T:Addr→Prop) (h₀ h:Heap):List Value→List (D×Kd)→Prop
 | nil:ResAll C T h₀ h [] []
 | cons {v:Value} {vs:List Value} {r:D×Kd} {rs:List (D×Kd)} (x:Res C T h₀ h v r) (y:ResAll C T h₀ h vs rs):ResAll C T h₀ h (v :: vs) (r :: rs)
theorem ResAll.old (C:Cx):Older (ResAll C):=fun _ _ _ _ _ _ hf x=>by
 induction x with
 | nil=>exact .nil
 | cons x _ ih=>exact .cons (x.older hf) ih
section
variable {α β γ δ:Type} {C:Cx} {m:Str→Option Value} {T T':Addr→Prop} {s:Shared} {Q:β→Shared→Prop} {Q':δ→Shared→Prop} {E:Value→Shared→Prop}
 {rel:(Addr→Prop)→Heap→Heap→β→α→Prop} {rel':(Addr→Prop)→Heap→Heap→δ→γ→Prop}
theorem ResAll.step {h₀ h h':Heap} {vs:List Value} {rs:List (D×Kd)} (x:ResAll C T h₀ h vs rs) (o:Ok C m T h) (k:Kx C m h h') (t:TExt T h T' h'):ResAll C T' h₀ h' vs rs:=by
 induction x with
 | nil=>exact .nil
 | cons x _ ih=>exact .cons (x.step o k t) ih
theorem Exc.step {h':Heap} {tk:Nat} {e:Value} {s':Shared} (k:Kx C m s.heap h') (x:Exc C m { s with heap:=h',toks:=tk } e s'):Exc C m s e s':=by
 obtain⟨ea,h2,tk2,B,a0,rfl,rfl,hB,hf,hk,hs,hns⟩:=x
 refine⟨ea,h2,tk2,B,a0,rfl,rfl,hB,hf,fun b o h1 h3 ho=>hk b o h1 h3 ?_,fun b o h1 ho hF=>?_,hns⟩
 ·obtain⟨sl,e1,p1⟩:=k.keep b o h1 ho
  rw [p1 h3] at e1;exact e1
 ·obtain⟨sl,e1,_⟩:=k.keep b o h1 ho
  obtain⟨sl2,e2⟩:=hs b _ h1 e1 hF
  exact⟨sl2,e2⟩
theorem PostG.step (hold:Older rel) {r:Ev α} {h':Heap} {tk:Nat} (hP:PostG C m rel r T s Q E) (o:Ok C m T s.heap) (k:Kx C m s.heap h') (t:TExt T s.heap T' h'):PostG C m rel r T' { s with heap:=h',toks:=tk } Q E:=by
 have hl:=ns_live o.ns
 match r,hP with
 | some (.ok r),hP=>exact fun v h2 tk2 T2 k2 t2 r2=>hP v h2 tk2 T2 (k.trans k2) (t.trans t2 k hl) (hold _ _ _ _ _ _ (fun a e=>k.live e hl) r2)
 | some .bad,hP=>exact fun e s' x=>hP e s' (x.step k)
theorem PostG.bind (hold:Older rel) {r:Ev γ} {f:γ→Ev α} (hP:PostG C m rel (r.bind f) T s Q E) (o:Ok C m T s.heap)
  (h:∀ x v h' tk T',r=some (.ok x)→Kx C m s.heap h'→TExt T s.heap T' h'→rel' T' s.heap h' v x→Ok C m T' h'→PostG C m rel (f x) T' { s with heap:=h',toks:=tk } Q E→Q' v { s with heap:=h',toks:=tk }):
  PostG C m rel' r T s Q' E:=by
 match r,hP,h with
 | some (.ok x),hP,h=>exact fun v h' tk T' k t res=>h x v h' tk T' rfl k t res (o.step k t) (PostG.step hold (r:=f x) hP o k t)
 | some .bad,hP,_=>exact hP
theorem PostG.of_some {ζ:Type} {o:Option ζ} {f:ζ→Ev α} (hP:PostG C m rel ((Ev.of o).bind f) T s Q E):∃ a,o=some a∧PostG C m rel (f a) T s Q E:=by
 cases o with
 | none=>exact hP.elim
 | some a=>exact⟨a,rfl,hP⟩
theorem PostG.of_some' {o:Option α} (hP:PostG C m rel (Ev.of o) T s Q E):∃ a,o=some a∧PostG C m rel (Ev.ok a) T s Q E:=by
 cases o with
 | none=>exact hP.elim
 | some a=>exact⟨a,rfl,hP⟩
end
section
variable {C:Cx} {m:Str→Option Value} {T T':Addr→Prop} {s:Shared} {Q Q':Value→Shared→Prop} {E:Value→Shared→Prop}
theorem PostG.pl {d:D} {v:Value} (hP:Post C m (Ev.ok (d,.pl)) T s Q E) (o:Ok C m T s.heap) (r:Rd T s.heap v d) {tk:Nat}:Q v { s with toks:=tk }:=
 hP v s.heap tk T (Kx.refl o.ns) (o.keep (Kx.refl o.ns)) (.pl r)
end
end Mine

namespace Mine
open PySem PySem.W PySem.Calls PyProof.Rows PyProof.V PySem.Spec
noncomputable def nw (L:Addr) (h:Heap):List (Addr×Obj):=(List.range h.objs.size).filterMap fun b=>if b=L then none else (h.get? b).map (b,·)
theorem get_empty (b:Addr):({}:Heap).get? b=none:=by simp [Heap.get?]
theorem mem_nw {L b:Addr} {o:Obj} {h:Heap}:(b,o) ∈ nw L h ↔ b≠L∧h.get? b=some o:=by
 unfold nw
 rw [List.mem_filterMap]
 constructor
 ·rintro⟨a,_,ha⟩
  split at ha
  ·cases ha
  ·rename_i hne
   cases hq:h.get? a with
   | none=>rw [hq] at ha;cases ha
   | some o'=>rw [hq] at ha;cases ha;exact⟨hne,hq⟩
 ·rintro⟨hne,hq⟩
  exact⟨b,List.mem_range.mpr (Heap.lt_size hq),by rw [if_neg hne,hq];rfl⟩
theorem nw_fr {L:Addr} {h:Heap} {m:Str→Option Value} (hn:h.Ns L m):Fr {} L h m:=⟨hn,fun b o e=>(by rw [get_empty] at e;cases e),Nat.zero_le _⟩
theorem nw_news (L:Addr) (h:Heap):News {} L h (nw L h):=fun p hp=>by
 obtain⟨a,o⟩:=p
 obtain⟨h1,h2⟩:=mem_nw.mp hp
 exact⟨h2,h1,get_empty _⟩
theorem Kx.nw {C:Cx} {m:Str→Option Value} {h h':Heap} (F:Fr {} C.L h' m) (N:News {} C.L h' (nw C.L h)):Kx C m h h':=
 .of F.ns fun b o hb e=>(N (b,o) (mem_nw.mpr ⟨hb,e⟩)).1
theorem ntl {h₀ h:Heap} {L:Addr} {p:Addr×Obj} {n:List (Addr×Obj)} (N:News h₀ L h (p :: n)):News h₀ L h n:=fun q hq=>N q (.tail _ hq)
noncomputable def opB:Bop→Operator
 | .add=>.Add | .sub=>.Sub | .mul=>.Mult | .fdiv=>.FloorDiv | .fmod=>.Mod | .shr=>.RShift | .band=>.BitAnd | .pow=>.Pow
noncomputable def opC:Cop→CmpOp
 | .eq=>.Eq | .ne=>.NotEq | .lt=>.Lt | .le=>.LtE | .gt=>.Gt | .ge=>.GtE | .isin=>.In | .isnot=>.IsNot
section
variable {T:Addr→Prop} {h:Heap} {v:Value}
theorem Rd.int_inv {i:Int} (x:Rd T h v (.int i)):∃ t,v=.int i t:=by cases x;exact⟨_,rfl⟩
theorem Rd.bool_inv {i:Bool} (x:Rd T h v (.bool i)):v=.bool i:=by cases x;rfl
theorem Rd.none_inv (x:Rd T h v .none):v=.none:=by cases x;rfl
theorem Rd.str_inv {l:List Nat} (x:Rd T h v (.str l)):∃ y t,v=.str y t∧y.cps.toList=l∧PyData.strOk y=true:=by cases x with | str y t _ e k=>exact⟨y,t,rfl,e,k⟩
theorem len_cps {y:Str} {l:List Nat} (e:y.cps.toList=l):y.length=l.length:=by rw [← e];simp [Str.length]
theorem strOk_append {x y:Str} (a:PyData.strOk x=true) (b:PyData.strOk y=true):PyData.strOk (x ++ y)=true:=by
 unfold PyData.strOk at *
 rw [Str.cps_append,Array.all_append,a,b];rfl
end
theorem big_line:big≤sizeLine:=by decide
section
variable {C:Cx} {m:Str→Option Value} {T:Addr→Prop} {s:Shared} {A:Around} {Q:Value→Shared→Prop} {E:Value→Shared→Prop} {h₀ h₁:Heap}
theorem PostG.newL {ds:List D} {vs:Array Value} {n:Nat} {h':Heap} {tk:Nat} (hP:Post C m (Ev.ok (.lst ds,.fr)) T s Q E) (ok:Ok C m T s.heap) {a:Addr} (hf:s.heap.get? a=none)
  (k:Kx C m s.heap h') (ho:h'.get? a=some (lobj vs n)) (r:RdAll T h' vs.toList ds):Q (.ref a) { s with heap:=h',toks:=tk }:=
 hP (.ref a) h' tk T k (ok.keep k) (.fr (fun ta=>by obtain⟨o,e⟩:=ok.ex a ta;rw [hf] at e;cases e) (ok.new hf) hf ho r)
theorem PostG.newT {ds:List D} {o:Obj} {vs:Array Value} {n:Nat} {h':Heap} {tk:Nat} (hP:Post C m (Ev.ok (.tup ds,.pl)) T s Q E) (ok:Ok C m T s.heap) {a:Addr} (hf:s.heap.get? a=none)
  (k:Kx C m s.heap h') (ho:h'.get? a=some o) (hc:o.cls=.type "tuple") (hd:o.data=.seq vs n) (r:RdAll T h' vs.toList ds):Q (.ref a) { s with heap:=h',toks:=tk }:=
 hP (.ref a) h' tk _ k (ok.add k hf ⟨_,ho⟩) (.pl (.tup (.inr rfl) ho hc hd (r.mono (fun _ q=>.inl q) fun _ _ _ e=>e)))
theorem PostG.plk {d:D} {v:Value} {h':Heap} {tk:Nat} (hP:Post C m (Ev.ok (d,.pl)) T s Q E) (ok:Ok C m T s.heap) (k:Kx C m s.heap h') (r:Rd T h' v d):Q v { s with heap:=h',toks:=tk }:=
 hP v h' tk T k (ok.keep k) (.pl r)
theorem none_size (h:Heap):h.get? h.objs.size=none:=Heap.get?_none_of_le (Nat.le_refl _)
theorem Kx.push {h:Heap} (hn:h.Ns C.L m) (o:Obj):Kx C m h (h.push o):=
 .of (let ⟨o',es,ep,e,r⟩:=hn;⟨o',es,ep,Heap.get?_push_of_some _ e,r⟩) fun _ _ _ e=>Heap.get?_push_of_some _ e
theorem int1_inv {α:Type} {y:D} {f:Int→Option α} {r:α} (h:int1 y f=some r):∃ b,y=.int b∧f b=some r:=by
 cases y with
 | int b=>exact⟨b,rfl,h⟩
 | _=>exact nomatch h
theorem str1_inv {α:Type} {y:D} {f:List Nat→Option α} {r:α} (h:str1 y f=some r):∃ b,y=.str b∧f b=some r:=by
 cases y with
 | str b=>exact⟨b,rfl,h⟩
 | _=>exact nomatch h
theorem lst1_inv {α:Type} {y:D} {f:List D→Option α} {r:α} (h:lst1 y f=some r):∃ b,y=.lst b∧f b=some r:=by
 cases y with
 | lst b=>exact⟨b,rfl,h⟩
 | _=>exact nomatch h
theorem two_int {α:Type} {N:Addr→Prop} {hp:Heap} {x y:Value} {a b:D} {f:Int→Int→Option α} {r:α} {P:Value→Value→Prop} (h:(int1 a fun p=>int1 b fun q=>f p q)=some r) (nx:Rd N hp x a) (ny:Rd N hp y b) (k:∀ p q t u,f p q=some r→P (.int p t) (.int q u)):P x y:=by
 obtain⟨p,e,h1⟩:=int1_inv h
 subst e
 obtain⟨q,e,h2⟩:=int1_inv h1
 subst e
 obtain⟨t,rfl⟩:=nx.int_inv
 obtain⟨u,rfl⟩:=ny.int_inv
 exact k p q t u h2
theorem ifs {α:Type} {c:Prop} [Decidable c] {v r:α} (h:(if c then some v else Option.none)=some r):c∧r=v:=by
 by_cases hc:c
 ·rw [if_pos hc] at h;exact⟨hc,(Option.some.inj h).symm⟩
 ·rw [if_neg hc] at h;exact nomatch h
theorem bop_int {o:Bop} {x y:Value} {a b:D} {r:D×Kd} {f:Int→Int→Option (D×Kd)} (h:(int1 a fun p=>int1 b fun q=>f p q)=some r) (hP:Post C m (Ev.ok r) T s Q E) (ok:Ok C m T s.heap) (nx:Rd C.N s.heap x a) (ny:Rd C.N s.heap y b)
  (k:∀ p q t u,f p q=some r→∃ z,r=(.int z,.pl)∧((∀ w tk,Q (.int z w) { s with toks:=tk })→wpAny C.M A (binaryOp (opB o) (.int p t) (.int q u)) Q E s)):wpAny C.M A (binaryOp (opB o) x y) Q E s:=by
 refine two_int (P:=fun x y=>wpAny C.M A (binaryOp (opB o) x y) Q E s) h nx ny fun p q t u e=>?_
 obtain⟨z,rfl,hk⟩:=k p q t u e
 exact hk fun w tk=>hP.pl (tk:=tk) ok (.int _ w)
theorem bop_ok {o:Bop} {x y:Value} {a b:D×Kd} (hP:Post C m (Ev.of (bop o a.1 b.1)) T s Q E) (ok:Ok C m T s.heap) (rx:Res C T h₀ s.heap x a) (ry:Res C T h₁ s.heap y b)
  (ka:a.2.isTr=false) (kb:b.2.isTr=false):wpAny C.M A (binaryOp (opB o) x y) Q E s:=by
 obtain⟨a,ka'⟩:=a
 obtain⟨b,kb'⟩:=b
 obtain⟨r,hr,hP'⟩:=hP.of_some'
 clear hP
 have hP:=hP'
 clear hP'
 have nx:=rx.any ok
 have ny:=ry.any ok
 dsimp only at hr
 cases o with
 | add=>
  cases a with
  | int p=>exact bop_int (a:=.int p) (f:=fun p q=>some (.int (p + q),.pl)) hr hP ok nx ny fun p q t u h=>⟨p + q,(Option.some.inj h).symm,fun g=>add_int (g _ _)⟩
  | str p=>
   obtain⟨q,rfl,h⟩:=str1_inv hr
   obtain⟨hl,rfl⟩:=ifs h
   obtain⟨x,t,rfl,ex,kx⟩:=nx.str_inv
   obtain⟨y,u,rfl,ey,ky⟩:=ny.str_inv
   exact SBL.add (fun t' k _=>hP.pl ok (.str _ _ _ (by rw [Str.cps_append];simp [ex,ey]) (strOk_append kx ky)))
    (by rw [len_cps ex,len_cps ey];exact Nat.le_trans hl big_line)
  | lst p=>
   obtain⟨q,rfl,h⟩:=lst1_inv hr
   obtain⟨hl,rfl⟩:=ifs h
   obtain⟨l1,o1,v1,n1,rfl,h1,c1,d1,r1⟩:=rx.items ka
   obtain⟨l2,o2,v2,n2,rfl,h2,c2,d2,r2⟩:=ry.items kb
   refine add_arrays (nw_fr ok.ns) (nw_news C.L s.heap) ⟨o1,h1,c1,n1,d1⟩ ⟨o2,h2,c2,n2,d2⟩ (fun h' F N=>?_) ?_
   ·have k:Kx C m s.heap h':=Kx.nw F (ntl N)
    refine hP.newL ok (none_size _) k (N _ (.head _)).1 ?_
    simpa using (r1.append r2).mono (fun _ q=>q) fun a _ ta e=>k.at (ok.sub a ta) e
   ·have e1:=r1.length
    have e2:=r2.length
    simp only [Array.length_toList] at e1 e2
    rw [e1,e2];exact Nat.le_trans hl big_line
  | _=>exact nomatch hr
 | sub=>exact bop_int hr hP ok nx ny fun p q t u h=>⟨p - q,(Option.some.inj h).symm,fun g=>sub_int (g _ _)⟩
 | mul=>
  cases a with
  | int p=>exact bop_int (a:=.int p) (f:=fun a b=>if a.natAbs < 4294967296∧b.natAbs < 4294967296 then some (.int (a * b),.pl) else Option.none) hr hP ok nx ny fun p q t u h=>⟨p * q,(ifs h).2,fun g=>mul_int (g _ _) (IntMulOk.of_left (intBits_le_64 (by have:=(ifs h).1;omega) (by have:=(ifs h).1;omega)))⟩
  | lst p=>
   obtain⟨q,rfl,h⟩:=int1_inv hr
   obtain⟨⟨h0,hlen,h256⟩,rfl⟩:=ifs h
   obtain⟨l1,o1,v1,n1,rfl,h1,c1,d1,r1⟩:=rx.items ka
   obtain⟨u,rfl⟩:=ny.int_inv
   match p,hlen,r1,hP with
   | [p0],_,r1,hP=>
    generalize hv:v1.toList=vl at r1
    cases r1 with
    | @cons v0 _ _ _ hd rr=>
     cases rr
     refine PySem.W.KMa.mul (vs:=[v0]) (ws:=List.replicate q.toNat v0) (nw_fr ok.ns) (nw_news C.L s.heap) ⟨o1,h1,c1,n1,by rw [← hv,Array.toArray_toList];exact d1⟩ (by omega) (by omega) (by simp;exact li1 (.z q .o) (nat_lit 0x1f590000063590000063) h256) ?_ fun D h' F N hDl=>?_
     ·induction q.toNat with
      | zero=>rfl
      | succ n ih=>rw [List.replicate_succ,List.flatten_cons,ih];rfl
     ·have k:Kx C m s.heap h':=Kx.nw F (ntl N)
      refine hP.newL ok ?_ k (N _ (.head _)).1 ?_
      ·cases hq:s.heap.get? D with
       | none=>rfl
       | some oD=>exact absurd (hDl _ (mem_nw.mpr ⟨(N _ (.head _)).2.1,hq⟩)) (Nat.lt_irrefl _)
      ·simpa using (RdAll.replicate hd q.toNat).mono (fun _ q=>q) fun a _ ta e=>k.at (ok.sub a ta) e
  | _=>exact nomatch hr
 | fdiv=>exact bop_int hr hP ok nx ny fun p q t u h=>⟨p / q,(ifs h).2,fun g=>floordiv_int (Int.ne_of_gt (ifs h).1.1) (by rw [Int.fdiv_eq_ediv_of_nonneg _ (Int.le_of_lt (ifs h).1.1)];exact g _ _) (.inl (PyProof.noPylong_of_log2 (ifs h).1.2))⟩
 | fmod=>exact bop_int hr hP ok nx ny fun p q t u h=>⟨p % q,(ifs h).2,fun g=>mod_int' (Int.ne_of_gt (ifs h).1) (by rw [Int.fmod_eq_emod_of_nonneg _ (Int.le_of_lt (ifs h).1)];exact g _ _)⟩
 | shr=>exact bop_int hr hP ok nx ny fun p q t u h=>⟨p / 2 ^ q.toNat,(ifs h).2,fun g=>rshift_int (ifs h).1.2.1 (by rw [Int.fdiv_eq_ediv_of_nonneg _ (Int.le_of_lt (Int.pow_pos (by decide)))];exact g _ _)⟩
 | band=>exact bop_int hr hP ok nx ny fun p q t u h=>⟨_,(ifs h).2,fun g=>and_int (by
   have:Builtin.bitAnd p q=((p.toNat &&& q.toNat:Nat):Int):=by
    unfold Builtin.bitAnd
    rw [decide_eq_true (ifs h).1.1,decide_eq_true (ifs h).1.2]
   rw [this]
   exact g _ _)⟩
 | pow=>exact bop_int hr hP ok nx ny fun p q t u h=>⟨2 ^ q.toNat,(ifs h).2,fun g=>by
   obtain⟨⟨rfl,h0,h1⟩,_⟩:=ifs h
   exact pow_int_small h0 (by exact li1 (.z q .o) (nat_lit 0x7d640010210f8d6400000063) h1) (by decide) (g _ _)⟩
end
end Mine

namespace Mine
open PySem PySem.W PySem.Calls PyProof.Rows PyProof.V PySem.Spec
section
variable {C:Cx} {m:Str→Option Value} {T:Addr→Prop} {s:Shared} {A:Around} {Q:Value→Shared→Prop} {E:Value→Shared→Prop} {h₀ h₁:Heap}
theorem str_one {y:Str} {c:Nat} (e:y.cps.toList=[c]):y=⟨#[c]⟩:=by
 obtain⟨a⟩:=y
 have:a=#[c]:=by apply Array.toList_inj.mp;simpa using e
 rw [this]
theorem any_eqv {b:List D} {a:D} (ha:eqOk 8 a=true) (hb:b.all (eqOk 8)=true):((toPys b).any fun y=>PyData.eqv y (toPy a))=b.any fun x=>deq x a:=by
 induction b with
 | nil=>rfl
 | cons x r ih=>
  have hb':eqOk 8 x=true∧r.all (eqOk 8)=true:=by simpa using hb
  rw [toPys,List.any_cons,List.any_cons,eqv_deq 8 x a 8 hb'.1 ha,ih hb'.2]
theorem cop_ok {o:Cop} {x y:Value} {a b:D} {r:Bool} (hr:cop o a b=some r) (nx:Rd C.N s.heap x a) (ny:Rd C.N s.heap y b) (hu:A.units + 80 < cLine)
  (h:Q (.bool r) s):wpAny C.M A (compareOp (opC o) x y) Q E s:=by
 have E1:∀ {a b:D},Rd C.N s.heap x a→Rd C.N s.heap y b→eqOk 8 a=true→eqOk 8 b=true→Q (.bool (deq a b)) s→wpAny C.M A (compareOp .Eq x y) Q E s:=by
  intro a b nx ny ha hb h
  obtain⟨as,ra⟩:=nx.reads
  obtain⟨bs,rb⟩:=ny.reads
  exact eq_dataH ra rb (nx.shaped ha (by decide)) (ny.shaped hb (by decide)) (by exact li1 (.n (A.units) (.n cLine .o)) (nat_lit 0x1f6a44500048da911400163) hu) (by rw [eqv_deq 8 a b 8 ha hb];exact h)
 have E2:∀ {a b:D},Rd C.N s.heap x a→Rd C.N s.heap y b→eqOk 8 a=true→eqOk 8 b=true→Q (.bool (!deq a b)) s→wpAny C.M A (compareOp .NotEq x y) Q E s:=by
  intro a b nx ny ha hb h
  obtain⟨as,ra⟩:=nx.reads
  obtain⟨bs,rb⟩:=ny.reads
  exact ne_dataH ra rb (nx.shaped ha (by decide)) (ny.shaped hb (by decide)) (by exact li1 (.n (A.units) (.n cLine .o)) (nat_lit 0x1f6a44500048da911400163) hu) (by rw [eqv_deq 8 a b 8 ha hb];exact h)
 have ii:∀ {c:CmpOp} {f:Int→Int→Bool},(int1 a fun p=>int1 b fun q=>some (f p q))=some r→(∀ p q t u,Q (.bool (f p q)) s→wpAny C.M A (compareOp c (.int p t) (.int q u)) Q E s)→wpAny C.M A (compareOp c x y) Q E s:=fun {c} {_} hi k=>
  two_int (P:=fun x y=>wpAny C.M A (compareOp c x y) Q E s) hi nx ny fun p q t u e=>k p q t u (Option.some.inj e ▸ h)
 have inl:∀ {l:List D},inL a l=some r→eqOk 8 a=true∧l.all (eqOk 8)=true∧(l.any fun y=>deq y a)=r:=fun hi=>by
  obtain⟨hk,rfl⟩:=ifs hi
  rw [Bool.and_eq_true] at hk
  exact⟨hk.1,hk.2,rfl⟩
 cases o with
 | eq=>
  have g:eqO a b=some r→wpAny C.M A (compareOp .Eq x y) Q E s:=fun e=>by
   obtain⟨hk,rfl⟩:=ifs e
   rw [Bool.and_eq_true] at hk
   exact E1 nx ny hk.1 hk.2 h
  cases a with
  | int p=>
   cases b with
   | int q=>
    obtain⟨t,rfl⟩:=nx.int_inv
    obtain⟨u,rfl⟩:=ny.int_inv
    refine eq_int ?_
    rw [show(p == q)=decide (p=q) from by by_cases e:p=q <;> simp [e],show decide (p=q)=r from Option.some.inj hr];exact h
   | _=>exact g hr
  | _=>exact g hr
 | ne=>
  obtain⟨r,he,rfl⟩:=Option.map_eq_some_iff.1 (show(eqD a b).map (!·)=some r from hr)
  clear hr
  have hr:=he
  clear he
  have g:eqO a b=some r→wpAny C.M A (compareOp .NotEq x y) Q E s:=fun e=>by
   obtain⟨hk,rfl⟩:=ifs e
   rw [Bool.and_eq_true] at hk
   exact E2 nx ny hk.1 hk.2 h
  cases a with
  | int p=>
   cases b with
   | int q=>
    obtain⟨t,rfl⟩:=nx.int_inv
    obtain⟨u,rfl⟩:=ny.int_inv
    refine ne_int ?_
    rw [show(p != q)=!decide (p=q) from by by_cases e:p=q <;> simp [e],show decide (p=q)=r from Option.some.inj hr];exact h
   | _=>exact g hr
  | _=>exact g hr
 | lt=>exact ii hr fun _ _ _ _=>lt_int
 | le=>exact ii hr fun _ _ _ _=>le_int
 | gt=>exact ii hr fun _ _ _ _=>gt_int
 | ge=>exact ii hr fun _ _ _ _=>ge_int
 | isin=>
  cases b with
  | str b=>
   obtain⟨l,rfl,hr⟩:=str1_inv hr
   obtain⟨x,t,rfl,ex,kx⟩:=nx.str_inv
   obtain⟨y,u,rfl,ey,ky⟩:=ny.str_inv
   match l,hr,ex with
   | [c],hr,ex=>
    rw [str_one ex]
    refine PyProof.Rows.in_str ?_
    rw [StrLaws.found_one,ey]
    rw [show decide (c ∈ b)=b.contains c from by by_cases e:c ∈ b <;> simp [e],show b.contains c=r from Option.some.inj hr]
    exact h
  | lst b=>
   obtain⟨h1,h2,rfl⟩:=inl hr
   obtain⟨as,ra⟩:=nx.reads
   obtain⟨bs,rb⟩:=ny.reads
   have lb:=ny.lay
   rw [toPy] at rb lb
   have dp:=dep 8 _ h1
   refine SeqAt.in_list_reads rb ra (by simpa [PyData.canLay0] using lb) nx.lay ?_ ?_
   ·exact Nat.lt_of_le_of_lt (Nat.add_le_add_left (Nat.min_le_right _ _) _) (by exact li2 (.n (A.units) (.n ((toPy a).depth) (.n cLine .o))) (nat_lit 0x1f7da9519114018d940891a951400163) hu dp)
   ·rw [any_eqv h1 h2];exact h
  | tup b=>
   obtain⟨h1,h2,rfl⟩:=inl hr
   obtain⟨as,ra⟩:=nx.reads
   obtain⟨bs,rb⟩:=ny.reads
   have lb:=ny.lay
   rw [toPy] at rb lb
   have dp:=dep 8 _ h1
   refine SeqAt.in_tuple_reads rb ra (by simpa [PyData.canLay0] using lb) nx.lay ?_ ?_
   ·exact Nat.lt_of_le_of_lt (Nat.add_le_add_left (Nat.min_le_right _ _) _) (by exact li2 (.n (A.units) (.n ((toPy a).depth) (.n cLine .o))) (nat_lit 0x1f7da9519114018d940891a951400163) hu dp)
   ·rw [any_eqv h1 h2];exact h
  | _=>exact nomatch hr
 | isnot=>
  cases b with
  | none=>
   rw [ny.none_inv]
   cases nx with
   | none=>cases hr;exact wpAny_isNot_self rfl h
   | bool=>exact nomatch hr
   | _=>cases hr;exact wpAny_isNot_other rfl (by intro e;cases e) h
  | _=>exact nomatch hr
end
end Mine

namespace Mine
open PySem PySem.W PySem.Calls PyProof.Rows PyProof.V PySem.Spec
theorem subd_ops (slice:PySem.Expr) (o i:Value):∃ ops,subscripted slice false o i=operate ops (getItem o i):=by
 cases slice with
 | Slice l u st p=>cases st <;> exact⟨_,rfl⟩
 | _=>exact⟨_,rfl⟩
theorem StrLawsIdx_at {x:Str} {i:Int} {n:Nat} (h0:0≤i) (hn:x.cps[i.toNat]?=some n):(seqIndex? i x.length).bind (x.cps[·]?)=some n:=StrLaws.at_nonneg h0 hn
theorem strOk_get {x:Str} {k c:Nat} (h:PyData.strOk x=true) (hx:x.cps[k]?=some c):PyData.strOk ⟨#[c]⟩=true:=by
 unfold PyData.strOk at *
 rw [Array.all_eq_true_iff_forall_mem] at h
 have:=h c (Array.mem_of_getElem? hx)
 simpa using this
theorem strOk_sub {x:Str} {l:List Nat} (h:PyData.strOk x=true) (hs:∀ c ∈ l,c ∈ x.cps.toList):PyData.strOk ⟨l.toArray⟩=true:=by
 unfold PyData.strOk at *
 rw [Array.all_eq_true_iff_forall_mem] at h
 simp only [List.all_toArray,List.all_eq_true]
 exact fun c hc=>h c (by simpa using hs c hc)
section
variable {C:Cx} {m:Str→Option Value} {T:Addr→Prop} {s:Shared} {A:Around} {Q:Value→Shared→Prop} {E:Value→Shared→Prop} {h₀ h₁:Heap}
theorem tl_any {value slice:PySem.Expr} {o i:Value} {T id:String} (hT:s.TypeIs o T)
  (hl:typeLookup (.type T) "__getitem__" = pure (some (.builtin id))) (hg:wpAny C.M A (getItem o i) Q E s):wpAny C.M A (subscriptTail value slice o i) Q E s:=
 let ⟨_,hs⟩:=subd_ops slice o i
 tail_any hT hl hg hs
theorem if_inv {α:Type} {p:Prop} [Decidable p] {x:Option α} {r:α} (h:(if p then x else Option.none)=some r):p∧x=some r:=by
 by_cases e:p
 ·rw [if_pos e] at h;exact⟨e,h⟩
 ·rw [if_neg e] at h;cases h
theorem idxD_some {l:List D} {i:Int} {r:D} (h:idxD l i=some r):0≤i∧i < 1000000000∧l[i.toNat]?=some r:=by
 unfold idxD at h
 split at h
 ·rename_i c;exact⟨c.1,c.2,h⟩
 ·cases h
theorem sub_ok {value slice:PySem.Expr} {x y:Value} {a b:D×Kd} {d:D} (hd:sub a.1 b.1=some d) (hP:Post C m (Ev.ok (d,.pl)) T s Q E) (ok:Ok C m T s.heap) (rx:Res C T h₀ s.heap x a) (ry:Res C T h₁ s.heap y b)
    (ka:a.2.isTr=false):wpAny C.M A (subscriptTail value slice x y) Q E s:=by
  obtain⟨a,ka'⟩:=a
  obtain⟨b,kb'⟩:=b
  have nx:=rx.any ok
  have ny:=ry.any ok
  dsimp only at hd
  cases b with
  | int i=>cases a with
    | lst l=>
     obtain⟨h0,h1,hi⟩:=idxD_some hd
     obtain⟨u,rfl⟩:=ny.int_inv
     obtain⟨l1,o1,v1,n1,rfl,ho,hc,hdat,r1⟩:=rx.items ka
     obtain⟨v,hv,hr⟩:=r1.get hi
     have hl:s.heap.IsList l1 v1:=⟨o1,ho,hc,n1,hdat⟩
     exact tl_any hl.typeIs slot_list_getitem.lookup (wpAny_getItem_list hl h0 (by omega) (by simpa using hv) (hP.plk ok (Kx.refl ok.ns) hr))
    | tup l=>
     obtain⟨h0,h1,hi⟩:=idxD_some hd
     obtain⟨u,rfl⟩:=ny.int_inv
     obtain⟨l1,o1,v1,n1,rfl,ho,hc,hdat,r1⟩:=rx.itemsT ka
     obtain⟨v,hv,hr⟩:=r1.get hi
     have ht:IsTup s.heap l1 v1:=⟨o1,ho,hc,n1,hdat⟩
     obtain⟨hlt,hv'⟩:_∧_:=⟨(List.getElem?_eq_some_iff.mp hv).1,Array.getElem?_toList ▸ hv⟩
     simp only [Array.length_toList] at hlt
     exact tl_any ht.typeIs slot_tuple_getitem.lookup (PyProof.Rows.getItem_tuple ht (by omega) (by omega) (StrLaws.seqIndex_nonneg h0 (by omega)) hv' (hP.plk ok (Kx.refl ok.ns) hr))
    | str l=>
      obtain⟨hb,hd⟩:=if_inv hd
      obtain⟨u,rfl⟩:=ny.int_inv
      obtain⟨x,t,rfl,ex,kx⟩:=nx.str_inv
      cases hc:l[i.toNat]? with
      | none=>rw [hc] at hd;cases hd
      | some c=>
        rw [hc] at hd
        cases hd
        have hx:x.cps[i.toNat]?=some c:=by rw [← ex] at hc;simpa using hc
        refine tl_any (typeIs_str s x t) PySem.F.slot_str_getitem.lookup ?_
        refine PyProof.Rows.getItem_str ?_ (StrLawsIdx_at hb.1 hx) ?_
        · simp;exact li2 (.z i .o) (nat_lit 0x1f7dc5d00000000000000000000000088d68d440000000000000000000000021740000a30a24b0e35a3400) hb.1 hb.2
        · exact hP.pl ok (.str _ _ _ rfl (strOk_get kx hx))
    | _=>exact nomatch hd
  | _=>cases a <;> exact nomatch hd
theorem part_inv {y:Value} {d:D} {dflt n k:Nat} (ny:Rd C.N s.heap y d) (hc:clip n d dflt=some k):∃ lo:Option (Int×Tok),y=partValue lo∧(lo.map (·.1)).elim dflt (clipAt n)=k:=by
 cases d with
 | none=>
  cases hc
  rw [ny.none_inv]
  exact⟨Option.none,rfl,rfl⟩
 | int i=>
   obtain⟨hb,hc⟩:=if_inv hc
   cases hc
   obtain⟨u,rfl⟩:=ny.int_inv
   refine⟨some (i,u),rfl,?_⟩
   have:=clipAt_cast n i
   simp only [Option.map_some,Option.elim]
   split
   ·rename_i hneg;rw [if_pos hneg] at this;exact li5 (.n (clipAt n i) (.n ((i + ↑n).toNat) (.z i (.z (max 0 (min (i + ↑n) ↑n)) (.n n (.z (min (i + ↑n) ↑n) .o)))))) (nat_lit 0x1f7df7df6e48dd718567a174559e55677184559e5a165674559e575c6100265d0028718a265a840075c6d00245d001156795c6115679559164559e54005d0025626563) this hneg (ltn (i + ↑n)) (lmx (0) (min (i + ↑n) ↑n)) (lmn (i + ↑n) (↑n))
   ·rename_i hneg;rw [if_neg hneg] at this;exact li5 (.n (clipAt n i) (.n (min i.toNat n) (.z i (.z (max 0 (min i ↑n)) (.n (i.toNat) (.n n (.z (min i ↑n) .o))))))) (nat_lit 0x7df7df7db92375c615a295e5568718969595a2575c6d00275d00257189559d695001d718400997400a5c629996a5001d71ba246a7a1c6e7919a27626563) this (lnn (i.toNat) (n)) (lmx (0) (min i ↑n)) (ltn (i)) (lmn (i) (↑n))
 | _=>exact nomatch hc
theorem isPart_of (lo:Option (Int×Tok)):IsPart (partValue lo) (lo.map (·.1)):=by
 cases lo with
 | none=>exact .none
 | some p=>exact .int _ _
theorem clipAt_le (n:Nat) (i:Int):clipAt n i≤n:=by
 have:=clipAt_cast n i
 exact li3 (.n (clipAt n i) (.n n (.z (max 0 (min (if i < 0 then i + ↑n else i) ↑n)) (.z (min (if i < 0 then i + ↑n else i) ↑n) (.z (if i < 0 then i + ↑n else i) .o))))) (nat_lit 0x7df7d992375c6159265e75647189e659592775c6100255d00267189a55a6400625563) this (lmx (0) (min (if i < 0 then i + ↑n else i) ↑n)) (lmn (if i < 0 then i + ↑n else i) (↑n))
theorem elim_le {n d:Nat} (hd:d≤n) (lo:Option Int):lo.elim d (clipAt n)≤n:=by
 cases lo with
 | none=>exact hd
 | some i=>exact clipAt_le n i
theorem str_idx (n:Nat) (lo hi:Option Int):Builtin.Str.strSliceIndices lo hi 1 n=(List.range (hi.elim n (clipAt n) - lo.elim 0 (clipAt n))).map (lo.elim 0 (clipAt n) + ·):=by
 have s:=sliceBounds_plain lo hi n
 rw [← sliceRange_one]
 unfold Builtin.Str.strSliceIndices
 unfold sliceBounds at s
 simp only [Option.getD_none,Prod.mk.injEq] at s
 obtain⟨s1,s2,_⟩:=s
 rw [← s1,← s2]
 cases lo <;> cases hi <;> rfl
theorem str_picked (x:Str) (lo hi:Option Int):
  (Builtin.Str.strSliceIndices lo hi 1 x.length).filterMap (x.cps[·]?)=cut x.cps.toList (lo.elim 0 (clipAt x.length)) (hi.elim x.length (clipAt x.length)):=by
 rw [str_idx]
 have l1:=elim_le (Nat.zero_le x.length) lo
 have l2:=elim_le (Nat.le_refl x.length) hi
 have h:=StrLaws.picks x.cps.toList (hi.elim x.length (clipAt x.length) - lo.elim 0 (clipAt x.length)) (lo.elim 0 (clipAt x.length)) (by
  have:x.cps.toList.length=x.length:=by simp [Str.length]
  exact li4 (.n (lo.elim 0 (clipAt x.length)) (.n (hi.elim x.length (clipAt x.length) - lo.elim 0 (clipAt x.length)) (.n (x.cps.toList.length) (.n (x.length) (.n (hi.elim x.length (clipAt x.length)) .o))))) (nat_lit 0x7df7df6654648dd71b40091a8e771b9d18e46678db9a56669d99a3) l1 l2 this (lsn (hi.elim x.length (clipAt x.length)) (lo.elim 0 (clipAt x.length))))
 unfold cut
 rw [List.drop_take,← h]
 congr 1
 funext k
 simp
theorem cut_mem {α:Type} {l:List α} {a b:Nat} {x:α} (h:x ∈ cut l a b):x ∈ l:=List.mem_of_mem_take (List.mem_of_mem_drop h)
theorem tup_slice {t sl:Addr} {o:Obj} {items:Array Value} {n k:Nat} {u:Tok} (ho:s.heap.get? t=some o) (hc:o.cls=.type "tuple") (hd:o.data=.seq items n)
  (hi:s.heap.get? sl=some { cls:=.type "slice",data:=.fields #[.none,.int k u,.none] }) (hk:k < items.size) (hz:items.size≤sizeLine)
  (h:Q (.ref s.heap.objs.size) { s with heap:=s.heap.push { cls:=.type "tuple",data:=.seq (items.toList.take k).toArray } }):wpAny C.M A (getItem (.ref t) (.ref sl)) Q E s:=by
 have hT:s.TypeIs (.ref t) "tuple" := ⟨o,ho,hc⟩
 have hTs:s.TypeIs (.ref sl) "slice" := ⟨_,hi,rfl⟩
 refine wpAny_getItem_slot hT (by decide) PySem.F.slot_tuple_getitem (wpAny_call_entry PySem.F.slot_tuple_getitem hT PySem.F.entry_tuple_getitem ?_ (PySem.F.args_tuple_getitem_2 _ _))
 show wpAny C.M _ (do
  let xs ← Builtin.Tuple.tupleItemsOf (.ref t)
  if (← typeOf (.ref sl)) == .type "slice" then
   let (lo,step,n) ← Builtin.Slice.sliceApplied (.ref sl) (pure xs.size)
   if lo == 0 && step == 1 && n == xs.size then
    if ← Builtin.Tuple.tupleIsExact (.ref t) then rule "tuple.getitem.whole";return ← ret (.ref t)
   return ← ret (← Builtin.Tuple.tupleExact ((List.range n).filterMap fun (k:Nat)=>xs[(lo + (k:Int) * step).toNat]?).toArray)
  if (← specialOf (.ref sl) "__index__").isNone then
   rule "tuple.getitem.bad-subscript";raiseError "TypeError" s!"tuple indices must be integers or slices, not {← typeNameOf (.ref sl)}"
  let k ← asIndex (.ref sl)
  if k < -(2 ^ 63) || k ≥ 2 ^ 63 then
   rule "tuple.getitem.overflow";raiseError "IndexError" s!"cannot fit '{← typeNameOf (.ref sl)}' into an index-sized integer"
  match (seqIndex? k xs.size).bind (xs[·]?) with
  | some x=>ret x
  | none=>rule "tuple.getitem.out-of-range";raiseError "IndexError" "tuple index out of range") _ _ s
 refine wpAny_bind (wpAny_tupleItemsOf ho hd ?_)
 refine wpAny_bind (wpAny_typeOf hTs ?_)
 rw [if_pos (by decide)]
 refine wpAny_bind ?_
 unfold Builtin.Slice.sliceApplied Builtin.Slice.sliceFields
 refine wpAny_bind (wpAny_bind (wpAny_field hi rfl (x:=.none) rfl (wpAny_bind (wpAny_field hi rfl (x:=.int k u) rfl (wpAny_bind (wpAny_field hi rfl (x:=.none) rfl (wpAny_pure ?_)))))))
 dsimp only
 refine wpAny_bind (wpAny_pure ?_)
 rw [if_neg (by decide)]
 refine wpAny_bind (wpAny_pure ?_)
 refine wpAny_bind ?_
 unfold Builtin.Slice.slicePartIndex
 rw [if_neg (show ¬ ((Value.int k u == Value.none)=true) from Bool.false_ne_true)]
 refine wpAny_bind (wpAny_specialOf (T:="int") (typeIs_int s k u) int_index ?_)
 simp only [Option.isNone_some,Bool.false_eq_true,if_false]
 refine wpAny_bind (wpAny_of_eq (a:=(k:Int)) rfl (wpAny_pure (wpAny_bind (wpAny_pure (wpAny_pure ?_)))))
 have e1:Builtin.Slice.sliceAdjust Option.none (some (k:Int)) 1 items.size=(0,(k:Int)):=by
  unfold Builtin.Slice.sliceAdjust
  simp;omega
 have e2:Builtin.Slice.slicePlaces 0 (k:Int) 1=k:=by
  unfold Builtin.Slice.slicePlaces
  simp;omega
 simp only [Option.getD_none,e1,e2]
 rw [if_neg (by simp;exact li1 (.n k (.n (items.size) .o)) (nat_lit 0x7de6e48da923) hk)]
 have e3:(List.filterMap (fun (j:Nat)=>items[((0:Int) + j * 1).toNat]?) (List.range k))=items.toList.take k:=by
  have:=StrLaws.picks items.toList k 0 (by simp;exact li1 (.n k (.n (items.size) .o)) (nat_lit 2157760588067) hk)
  simpa using this
 rw [e3]
 refine wpAny_bind (wpAny_newObj_type (wpAny_pure ⟨_,rfl,h⟩) ?_)
 show(items.toList.take k).toArray.size≤sizeLine
 simp only [List.size_toArray,List.length_take,Array.length_toList]
 exact li2 (.n (min k items.size) (.n sizeLine (.n k (.n (items.size) .o)))) (nat_lit 0x1f7d992375c6e68da96671b963666959926) hz (lnn (k) (items.size))
theorem slc_ok {value slice:PySem.Expr} {x vl vu:Value} {a b c r:D×Kd} {i:Addr} (hr:slc a.1 b.1 c.1=some r) (hP:Post C m (Ev.ok r) T s Q E) (ok:Ok C m T s.heap) (rx:Res C T h₀ s.heap x a)
    (ny:Rd C.N s.heap vl b.1) (nz:Rd C.N s.heap vu c.1) (ka:a.2.isTr=false) (hi:s.heap.get? i=some { cls:=.type "slice",data:=.fields #[vl,vu,.none] }):wpAny C.M A (subscriptTail value slice x (.ref i)) Q E s:=by
  obtain⟨a,ka'⟩:=a
  obtain⟨b,kb'⟩:=b
  obtain⟨c,kc'⟩:=c
  have nx:=rx.any ok
  dsimp only at hr ny nz
  cases a with
  | str a=>
    obtain⟨lo,hlo,hr⟩:=Option.bind_eq_some_iff.mp hr
    obtain⟨hi',hhi,hr⟩:=Option.bind_eq_some_iff.mp hr
    obtain⟨hsz,hr⟩:=if_inv hr
    · cases hr
      obtain⟨y,t,rfl,ey,ky⟩:=nx.str_inv
      have hl:=len_cps ey
      rw [← hl] at hlo hhi
      obtain⟨pl,rfl,e1⟩:=part_inv ny hlo
      obtain⟨pu,rfl,e2⟩:=part_inv nz hhi
      refine tl_any (typeIs_str s y t) PySem.F.slot_str_getitem.lookup (wpAny_getItem_str_slice (l:=pl) (u:=pu) (st:=Option.none) ⟨_,hi,rfl,rfl⟩ rfl ?_)
      have hp:=str_picked y (pl.map (·.1)) (pu.map (·.1))
      rw [e1,e2,ey] at hp
      unfold sliceMade
      split
      · rename_i hw
        refine hP.plk ok (Kx.refl ok.ns) (.str _ _ _ ?_ ky)
        rw [Bool.and_eq_true] at hw
        have hw2:(slicePicked y pl pu Option.none).length=y.length:=by simpa using hw.2
        unfold slicePicked at hw2
        have hw3:=str_idx y.length (pl.map (·.1)) (pu.map (·.1))
        rw [e1,e2] at hw3
        have hw4:(Builtin.Str.strSliceIndices (pl.map (·.1)) (pu.map (·.1)) 1 y.length).length=y.length:=hw2
        rw [hw3,List.length_map,List.length_range] at hw4
        have l2:=elim_le (Nat.le_refl y.length) (pu.map (·.1))
        rw [e2] at l2
        rw [ey]
        unfold cut
        by_cases h0:y.length=0
        · have:‹List Nat›=[]:=List.length_eq_zero_iff.mp (by omega)
          rw [this];simp
        · have:lo=0:=by exact li4 (.n lo (.n (y.length) (.n (hi' - lo) (.n hi' .o)))) (nat_lit 0x1f7df7db4008dd71b40095a8e671b9918e56668de6d002466499b925) hw4 l2 h0 (lsn (hi') (lo))
          rw [this,List.drop_zero,List.take_of_length_le (by omega)]
      · have hp':(slicePicked y pl pu Option.none).filterMap (y.cps[·]?)=cut _ lo hi':=hp
        rw [hp']
        refine⟨?_,?_⟩
        · show(cut _ lo hi').toArray.size≤_
          rw [List.size_toArray]
          unfold cut
          rw [List.length_drop,List.length_take]
          have:=big_line
          omega
        · exact hP.pl ok (.str _ _ _ (by simp) (strOk_sub ky fun c hc=>by rw [ey];exact cut_mem hc))
  | lst a=>
    obtain⟨lo,hlo,hr⟩:=Option.bind_eq_some_iff.mp hr
    obtain⟨hi',hhi,hr⟩:=Option.bind_eq_some_iff.mp hr
    obtain⟨hsz,hr⟩:=if_inv hr
    · cases hr
      obtain⟨l1,o1,v1,n1,rfl,ho,hc,hdat,r1⟩:=rx.items ka
      have hl:=r1.length
      simp only [Array.length_toList] at hl
      rw [← hl] at hlo hhi
      obtain⟨pl,rfl,e1⟩:=part_inv ny hlo
      obtain⟨pu,rfl,e2⟩:=part_inv nz hhi
      have hls:s.heap.IsList l1 v1:=⟨o1,ho,hc,n1,hdat⟩
      refine tl_any hls.typeIs slot_list_getitem.lookup (wpAny_getItem_list_slice hls ⟨_,hi,rfl,rfl⟩ (isPart_of pl) (isPart_of pu) .none (by simp) ?_ (by rw [hl];exact Nat.le_trans hsz big_line))
      refine hP.newL ok (none_size _) (Kx.push ok.ns _) (Heap.get?_push_size _ rfl) ?_
      rw [slicePick_plain,e1,e2]
      have k:Kx C m s.heap (s.heap.push { cls:=.type "list",data:=.seq (slicePick v1 (pl.map (·.1)) (pu.map (·.1)) Option.none) }):=Kx.push ok.ns _
      rw [slicePick_plain,e1,e2] at k
      have r2:=((r1.take hi').drop lo).mono (fun _ q=>q) fun a o ta e=>k.at (ok.sub a ta) e
      unfold cut
      rw [List.drop_take] at r2
      simpa using r2
  | tup a=>
   cases b with
   | none=>cases c with
    | int kk=>
      obtain⟨hk,hr⟩:=if_inv hr
      cases hr
      obtain⟨u,rfl⟩:=nz.int_inv
      rw [ny.none_inv] at hi
      obtain⟨l1,o1,v1,n1,rfl,ho,hc,hdat,r1⟩:=rx.itemsT ka
      have hl:=r1.length
      simp only [Array.length_toList] at hl
      obtain⟨kn,rfl⟩:=Int.eq_ofNat_of_zero_le hk.1
      have hT:s.TypeIs (.ref l1) "tuple" := ⟨o1,ho,hc⟩
      refine tl_any hT slot_tuple_getitem.lookup (tup_slice ho hc hdat hi (by omega) (by have:=big_line;omega) ?_)
      have k:Kx C m s.heap (s.heap.push { cls:=.type "tuple",data:=.seq (v1.toList.take kn).toArray }):=Kx.push ok.ns _
      refine hP.newT ok (none_size _) k (Heap.get?_push_size _ rfl) rfl rfl ?_
      simpa using (r1.take kn).mono (fun _ q=>q) fun a o ta e=>k.at (ok.sub a ta) e
    | _=>exact nomatch hr
   | _=>exact nomatch hr
  | _=>exact nomatch hr
end
end Mine

namespace Mine
open PySem PySem.W PySem.Calls PyProof.Rows PyProof.V PySem.Spec
theorem dec_str (n:Nat):(Str.ofString (toString (n:Int))).cps.toList=dec n:=by
 rw [Str.ofString_eq_toList]
 simp only [dec]
 rfl
theorem dec_dig (n:Nat):∀ c ∈ dec n,48≤c∧c≤57:=by
 intro c hc
 unfold dec at hc
 obtain⟨ch,hch,rfl⟩:=List.mem_map.mp hc
 have h:=Nat.isDigit_of_mem_toDigits (b:=10) (n:=n) (c:=ch) (by decide) (by decide) (by simpa using hch)
 unfold Char.isDigit at h
 simp only [Bool.and_eq_true,decide_eq_true_eq] at h
 exact⟨h.1,h.2⟩
theorem ints_are {T:Addr→Prop} {h:Heap} {vs:List Value} {ds:List D} {ns:List Int} (r:RdAll T h vs ds):dInts ds=some ns→IntsAre vs ns:=
 RdAll.ind (P:=fun vs ds=>∀ ns,dInts ds=some ns→IntsAre vs ns) (fun _ e=>by cases e;exact .nil) (fun {v vs d ds} hd _ ih ns e=>by
  cases d with
  | int i=>
   obtain⟨ns',hn,rfl⟩:=Option.map_eq_some_iff.mp e
   obtain⟨t,rfl⟩:=hd.int_inv
   exact .cons _ _ (ih _ hn)
  | _=>cases e) r ns
theorem strs_are {T:Addr→Prop} {h:Heap} {vs:List Value} {ds:List D} {ws:List (List Nat)} (r:RdAll T h vs ds):dStrs ds=some ws→
  ∃ l:List (Str×Tok),vs=strValues l∧l.map (fun p=>p.1.cps.toList)=ws∧∀ p ∈ l,PyData.strOk p.1=true:=
 RdAll.ind (P:=fun vs ds=>∀ ws,dStrs ds=some ws→∃ l:List (Str×Tok),vs=strValues l∧l.map (fun p=>p.1.cps.toList)=ws∧∀ p ∈ l,PyData.strOk p.1=true)
  (fun _ e=>by cases e;exact⟨[],rfl,rfl,fun _ hp=>nomatch hp⟩) (fun {v vs d ds} hd _ ih ws e=>by
  cases d with
  | str i=>
   obtain⟨ns',hn,rfl⟩:=Option.map_eq_some_iff.mp e
   obtain⟨x,t,rfl,ex,kx⟩:=hd.str_inv
   obtain⟨l,rfl,h2,h3⟩:=ih _ hn
   exact⟨(x,t) :: l,rfl,by simp [ex,h2],fun p hp=>by
    rcases List.mem_cons.mp hp with rfl | hp
    ·exact kx
    ·exact h3 p hp⟩
  | _=>cases e) r ws
theorem rdall_strs (T:Addr→Prop) (h:Heap):∀ l:List (Str×Tok),(∀ p ∈ l,PyData.strOk p.1=true)→RdAll T h (strValues l) (l.map (D.str ∘ fun p=>p.1.cps.toList))
 | [],_=>.nil
 | p :: r,k=>.cons (.str _ _ _ rfl (k p (.head _))) (rdall_strs T h r fun q hq=>k q (.tail _ hq))
theorem strsAre_of:∀ l:List (Str×Tok),StrsAre (strValues l) (l.map (·.1))
 | []=>.nil
 | p :: r=>.cons _ _ (strsAre_of r)
theorem idx_none {c:Nat}:∀ {l:List Nat},(∀ i:Nat,l[i]?≠some c)→l.idxOf? c=Option.none
 | [],_=>rfl
 | a :: r,h=>by
  have h0:a≠c:=fun e=>h 0 (by simp [e])
  have ih:=idx_none (c:=c) (l:=r) fun i=>by simpa using h (i + 1)
  rw [List.idxOf?_cons,ih]
  simp [h0]
theorem idx_some {c:Nat}:∀ {l:List Nat} {k:Nat},l[k]?=some c→(∀ j,j < k→l[j]?≠some c)→l.idxOf? c=some k
 | [],_,h,_=>by simp at h
 | a :: r,0,h,_=>by
  have:a=c:=by simpa using h
  rw [List.idxOf?_cons]
  simp [this]
 | a :: r,k + 1,h,hn=>by
  have h0:a≠c:=fun e=>hn 0 (by exact li0 (.n k .o) (nat_lit 1805228848128)) (by simp [e])
  have ih:=idx_some (c:=c) (l:=r) (k:=k) (by simpa using h) fun j hj=>by simpa using hn (j + 1) (by exact li1 (.n j (.n k .o)) (nat_lit 0x1f6914019114018da923) hj)
  rw [List.idxOf?_cons,ih]
  simp [h0]
theorem idx_spec {a:List Nat}:∀ {l:List (List Nat)} {k:Nat},l.idxOf? a=some k→k < l.length∧l[k]?=some a∧∀ j,j < k→l[j]?≠some a
 | [],k,h=>by simp at h
 | b :: r,k,h=>by
  rw [List.idxOf?_cons] at h
  by_cases e:b=a
  ·subst e
   simp at h
   subst h
   exact⟨by simp,by simp,fun j hj=>absurd hj (Nat.not_lt_zero _)⟩
  ·simp [e] at h
   obtain⟨k',hk',rfl⟩:=h
   obtain⟨h1,h2,h3⟩:=idx_spec hk'
   exact⟨by simpa using h1,by simpa using h2,fun j hj=>by
    cases j with
    | zero=>simpa using e
    | succ j=>simpa using h3 j (by exact li1 (.n j (.n k' .o)) (nat_lit 0x1f6a48da450064450063) hj)⟩
theorem find_one (x:Str) (c:Nat):Txt.find x ⟨#[c]⟩=match x.cps.toList.idxOf? c with | some k=>((k:Nat):Int) | Option.none=>-1:=by
 unfold Txt.find
 rcases StrLaws.occ_head x ⟨#[c]⟩ 1 (by decide) with ⟨e,hn⟩ | ⟨i,r,e,ha,hn⟩
 ·rw [e,idx_none fun i q=>hn i ((StrLaws.subAt_one x c i).mpr q)]
 ·rw [e,idx_some ((StrLaws.subAt_one x c i).mp ha) fun j hj q=>hn j hj ((StrLaws.subAt_one x c j).mpr q)]
theorem join_list (sep:Str):∀ l:List Str,(Str.join sep l).cps.toList=joinD sep.cps.toList (l.map fun p=>p.cps.toList)
 | []=>rfl
 | [x]=>rfl
 | x :: y :: r=>by
  show(x ++ sep ++ Str.join sep (y :: r)).cps.toList=_
  rw [Str.cps_append,Str.cps_append,Array.toList_append,Array.toList_append,join_list sep (y :: r)]
  rfl
theorem join_one (sep:Str) (l:List Str):(Txt.join sep l).cps.toList=joinD sep.cps.toList (l.map fun p=>p.cps.toList):=by
 show(Builtin.Str.glued sep l).cps.toList=_
 rw [StrLaws.glued_eq_join,join_list]
theorem split_free1:∀ {w r:List Nat},32 ∉ w→splitAt32 (w ++ r)=(match splitAt32 r with | []=>[w] | a :: t=>(w ++ a) :: t)
 | [],r,_=>by
  cases h:splitAt32 r with
  | nil=>
   exfalso
   cases r with
   | nil=>cases h
   | cons c r=>
    unfold splitAt32 at h
    split at h
    ·cases h
    ·split at h <;> cases h
  | cons a t=>simp [h]
 | c :: w,r,hn=>by
  have h1:c≠32:=fun e=>hn (by simp [e])
  have h2:32 ∉ w:=fun e=>hn (by simp [e])
  have ih:=split_free1 (r:=r) h2
  rw [List.cons_append,splitAt32,if_neg h1,ih]
  cases splitAt32 r <;> rfl
theorem split_join:∀ {ws:List (List Nat)},ws≠[]→(∀ w ∈ ws,32 ∉ w)→splitAt32 (joinD [32] ws)=ws
 | [],h,_=>absurd rfl h
 | [w],_,hf=>by
  have:=split_free1 (w:=w) (r:=[]) (hf w (.head _))
  rw [List.append_nil] at this
  simpa [joinD,splitAt32] using this
 | w :: v :: r,_,hf=>by
  have ih:=split_join (ws:=v :: r) (by simp) fun x hx=>hf x (.tail _ hx)
  have h1:=split_free1 (w:=w) (r:=[32] ++ joinD [32] (v :: r)) (hf w (.head _))
  have h2:splitAt32 ([32] ++ joinD [32] (v :: r))=[] :: (v :: r):=by
   rw [List.singleton_append,splitAt32,if_pos rfl,ih]
  rw [h2] at h1
  simpa [joinD,List.append_assoc] using h1
theorem split_ne (x y:Str):Txt.split x y≠[]:=by
 unfold Txt.split
 split
 ·simp
 ·split
  ·simp
  ·rw [StrLaws.partsBetween_eq]
   obtain⟨p,r,e⟩:=StrLaws.partsFrom_ne x y.length 0 (Builtin.Str.occurrences x y 0 x.length (x.length + 1))
   rw [e];simp
theorem split_one (x:Str):(Txt.split x ⟨#[32]⟩).map (fun p=>p.cps.toList)=splitAt32 x.cps.toList:=by
 have h:=join_list ⟨#[32]⟩ (Txt.split x ⟨#[32]⟩)
 rw [StrLaws.join_split] at h
 rw [h]
 refine(split_join ?_ ?_).symm
 ·intro e
  exact split_ne x _ (List.map_eq_nil_iff.mp e)
 ·intro w hw
  obtain⟨p,hp,rfl⟩:=List.mem_map.mp hw
  exact StrLaws.split_free x 32 p hp
theorem joinD_mem {sep:List Nat} {c:Nat}:∀ {ws:List (List Nat)},c ∈ joinD sep ws→c ∈ sep∨∃ w ∈ ws,c ∈ w
 | [],h=>by simp [joinD] at h
 | [w],h=>.inr ⟨w,.head _,by simpa [joinD] using h⟩
 | w :: v :: r,h=>by
  have h':c ∈ w∨c ∈ sep∨c ∈ joinD sep (v :: r):=by simpa [joinD,List.append_assoc] using h
  rcases h' with h | h | h
  ·exact .inr ⟨w,.head _,h⟩
  ·exact .inl h
  ·rcases joinD_mem h with h | ⟨x,hx,h⟩
   ·exact .inl h
   ·exact .inr ⟨x,.tail _ hx,h⟩
theorem mem_join {c:Nat} {ws:List (List Nat)} {w:List Nat} (hw:w ∈ ws) (hc:c ∈ w):c ∈ joinD [32] ws:=by
 induction ws with
 | nil=>cases hw
 | cons x r ih=>
  cases r with
  | nil=>
   rcases List.mem_cons.mp hw with rfl | hw
   ·simpa [joinD] using hc
   ·cases hw
  | cons y r=>
   rcases List.mem_cons.mp hw with rfl | hw
   ·simp [joinD,hc]
   ·have:=ih hw
    simp [joinD,this]
theorem strOk_iff {x:Str}:PyData.strOk x=true ↔ ∀ c ∈ x.cps.toList,c < 1114112:=by
 unfold PyData.strOk
 rw [Array.all_eq_true_iff_forall_mem]
 simp
section
variable {C:Cx} {m:Str→Option Value} {T:Addr→Prop} {s:Shared} {A:Around} {Q:Value→Shared→Prop} {E:Value→Shared→Prop} {h₀ h₁:Heap}
theorem one1_inv {α:Type} {y:List Nat} {f:Nat→Option α} {r:α} (h:one1 y f=some r):∃ b,y=[b]∧f b=some r:=by
 cases y with
 | nil=>exact nomatch h
 | cons b l=>cases l with
  | nil=>exact⟨b,rfl,h⟩
  | cons=>exact nomatch h
theorem fn1_len {x:Value} {a d:D} (hd:fn1 .len a=some d) (hP:Post C m (Ev.ok (d,.pl)) T s Q E) (ok:Ok C m T s.heap) (nx:Rd C.N s.heap x a):wpAny C.M A (call (.builtin "len") [x]) Q E s:=by
 cases a with
 | str a=>
   obtain⟨hz,hd⟩:=if_inv hd
   cases hd
   obtain⟨y,t,rfl,ey,ky⟩:=nx.str_inv
   have hl:=len_cps ey
   rw [big] at hz
   refine SBL.len (by omega) ?_
   rw [hl]
   exact hP.pl ok (.int _ _)
 | lst a=>
   obtain⟨hz,hd⟩:=if_inv hd
   cases hd
   cases nx with
   | lst ta ho hc hdt _ r=>
    have hl:=r.length
    simp only [Array.length_toList] at hl
    rw [big] at hz
    refine len_list ⟨_,ho,hc,_,hdt⟩ (by omega) ?_
    rw [hl]
    exact hP.pl ok (.int _ _)
 | tup a=>
   obtain⟨hz,hd⟩:=if_inv hd
   cases hd
   cases nx with
   | tup ta ho hc hdt r=>
    have hl:=r.length
    simp only [Array.length_toList] at hl
    rw [big] at hz
    refine PyProof.Rows.len_tuple ⟨_,ho,hc,_,hdt⟩ (by omega) ?_
    rw [hl]
    exact hP.pl ok (.int _ _)
 | _=>exact nomatch hd
theorem fn1_str {x:Value} {a d:D} (hd:fn1 .str a=some d) (hP:Post C m (Ev.ok (d,.pl)) T s Q E) (ok:Ok C m T s.heap) (nx:Rd C.N s.heap x a):wpAny C.M A (call (.type "str") [x]) Q E s:=by
 obtain⟨i,rfl,hd⟩:=int1_inv hd
 obtain⟨hz,hd⟩:=if_inv hd
 ·
  ·cases hd
   obtain⟨t,rfl⟩:=nx.int_inv
   obtain⟨n,rfl⟩:=Int.eq_ofNat_of_zero_le hz.1
   refine P.str_of_int ?_ ?_
   ·by_cases h0:n=0
    ·subst h0;decide
    ·rw [Int.natAbs_natCast,Nat.log2_lt h0]
     exact Nat.lt_of_lt_of_le (show n < 2 ^ 34 by omega) (Nat.pow_le_pow_right (by decide) (by decide))
   ·refine hP.pl ok (.str _ _ _ (dec_str n) (strOk_iff.mpr fun c hc=>?_))
    rw [dec_str] at hc
    have:=dec_dig n c hc
    exact li1 (.n c .o) (nat_lit 0x1f6900000000418d94090e3) this.2
theorem fn1_sum {x:Value} {a d:D} (hd:fn1 .sum a=some d) (hP:Post C m (Ev.ok (d,.pl)) T s Q E) (ok:Ok C m T s.heap) (nx:Rd C.N s.heap x a) (hh:A.handled=none):wpAny C.M A (call (.builtin "sum") [x]) Q E s:=by
 obtain⟨l,rfl,hd⟩:=lst1_inv hd
 ·obtain⟨xs,hx,rfl⟩:=Option.map_eq_some_iff.mp hd
  cases nx with
  | lst ta ho hc hdt _ r=>
   refine sumK hh (nw_fr ok.ns) (nw_news C.L s.heap) (vs:=_) ⟨_,ho,hc,_,by rw [Array.toArray_toList];exact hdt⟩ (ints_are r hx) fun h' tk t' F N=>?_
   exact hP.plk ok (Kx.nw F N) (.int _ _)
theorem fn2_min {x y:Value} {a b d:D} (hd:fn2 .min a b=some d) (hP:Post C m (Ev.ok (d,.pl)) T s Q E) (ok:Ok C m T s.heap) (nx:Rd C.N s.heap x a) (ny:Rd C.N s.heap y b) (hh:A.handled=none):
  wpAny C.M A (call (.builtin "min") [x,y]) Q E s:=by
 obtain⟨i,rfl,hd⟩:=int1_inv hd
 obtain⟨j,rfl,hd⟩:=int1_inv hd
 cases hd
 obtain⟨t,rfl⟩:=nx.int_inv
 obtain⟨u,rfl⟩:=ny.int_inv
 exact min_two_N hh (nw_fr ok.ns) (nw_news C.L s.heap) fun h' tk F N=>hP.plk ok (Kx.nw F N) (.int _ _)
theorem fn2_max {x y:Value} {a b d:D} (hd:fn2 .max a b=some d) (hP:Post C m (Ev.ok (d,.pl)) T s Q E) (ok:Ok C m T s.heap) (nx:Rd C.N s.heap x a) (ny:Rd C.N s.heap y b) (hh:A.handled=none):
  wpAny C.M A (call (.builtin "max") [x,y]) Q E s:=by
 obtain⟨i,rfl,hd⟩:=int1_inv hd
 obtain⟨j,rfl,hd⟩:=int1_inv hd
 cases hd
 obtain⟨t,rfl⟩:=nx.int_inv
 obtain⟨u,rfl⟩:=ny.int_inv
 exact max_two_N hh (nw_fr ok.ns) (nw_news C.L s.heap) fun h' tk F N=>hP.plk ok (Kx.nw F N) (.int _ _)
theorem mth_find {x y:Value} {a b:D} {r:D×Kd} (hd:mth .find a b=some r) (hP:Post C m (Ev.ok r) T s Q E) (ok:Ok C m T s.heap) (nx:Rd C.N s.heap x a) (ny:Rd C.N s.heap y b):
  wpAny C.M A (call (.builtin "str.find") [x,y]) Q E s:=by
 obtain⟨s1,rfl,hd⟩:=str1_inv hd
 obtain⟨t1,rfl,hd⟩:=str1_inv hd
 obtain⟨c,rfl,hd⟩:=one1_inv hd
 obtain⟨_,hd⟩:=if_inv hd
 cases hd
 obtain⟨x,t,rfl,ex,kx⟩:=nx.str_inv
 obtain⟨y,u,rfl,ey,ky⟩:=ny.str_inv
 rw [str_one ey]
 refine SC.find ?_
 rw [find_one,ex]
 exact hP.pl ok (.int _ _)
theorem mth_split {x y:Value} {a b:D} {r:D×Kd} (hd:mth .split a b=some r) (hP:Post C m (Ev.ok r) T s Q E) (ok:Ok C m T s.heap) (nx:Rd C.N s.heap x a) (ny:Rd C.N s.heap y b):
  wpAny C.M A (call (.builtin "str.split") [x,y]) Q E s:=by
 obtain⟨s1,rfl,hd⟩:=str1_inv hd
 obtain⟨t1,rfl,hd⟩:=str1_inv hd
 obtain⟨c,rfl,hd⟩:=one1_inv hd
 obtain⟨⟨rfl,hz⟩,he⟩:=if_inv hd
 ·
  ·cases he
   obtain⟨x,t,rfl,ex,kx⟩:=nx.str_inv
   obtain⟨y,u,rfl,ey,ky⟩:=ny.str_inv
   have hl:=len_cps ex
   rw [str_one ey]
   refine splitN1A (nw_fr ok.ns) (nw_news C.L s.heap) rfl (fun l h' k e _ _ _ F N=>?_) (by rw [hl,sizeLine_eq];omega)
   have hk:Kx C m s.heap h':=Kx.nw F (ntl N)
   refine hP.newL ok (none_size _) hk (N _ (.head _)).1 ?_
   have e2:l.map (fun p=>p.1.cps.toList)=splitAt32 x.cps.toList:=by
    rw [← split_one,← e,List.map_map];rfl
   rw [ex] at e2
   have kk:∀ p ∈ l,PyData.strOk p.1=true:=fun p hp=>strOk_iff.mpr fun c hc=>by
    refine strOk_iff.mp kx c ?_
    have hj:=join_list ⟨#[32]⟩ (Txt.split x ⟨#[32]⟩)
    rw [StrLaws.join_split,← e] at hj
    rw [hj]
    exact mem_join (List.mem_map.mpr ⟨p.1,List.mem_map.mpr ⟨p,hp,rfl⟩,rfl⟩) hc
   have e3:=rdall_strs T h' l kk
   rw [← e2,List.map_map]
   exact e3
theorem mth_join {x y:Value} {a b:D} {r:D×Kd} (hd:mth .join a b=some r) (hP:Post C m (Ev.ok r) T s Q E) (ok:Ok C m T s.heap) (nx:Rd C.N s.heap x a) (ny:Rd C.N s.heap y b):
  wpAny C.M A (call (.builtin "str.join") [x,y]) Q E s:=by
 obtain⟨s1,rfl,hd⟩:=str1_inv hd
 obtain⟨t1,rfl,hd⟩:=lst1_inv hd
 obtain⟨ws,hw,hd⟩:=Option.bind_eq_some_iff.mp hd
 obtain⟨hz,hd⟩:=if_inv hd
 ·
  ·
   ·cases hd
    obtain⟨x,t,rfl,ex,kx⟩:=nx.str_inv
    cases ny with
    | lst ta ho hc hdt _ r=>
     obtain⟨l,hl,hm,hk⟩:=strs_are r hw
     refine SC.join (l:=l) (texts:=l.map (·.1)) ⟨_,ho,hc,_,by rw [← hl,Array.toArray_toList];exact hdt⟩ rfl ?_ fun t' k=>?_
     ·have hlen:∀ l:List (Str×Tok),(l.map (·.1)).map (·.length)=(l.map fun p=>p.1.cps.toList).map List.length:=by
       intro l;induction l with
       | nil=>rfl
       | cons p r ih=>simp [Str.length]
      unfold JoinOk
      rw [StrLaws.joinTotal,hlen,hm,len_cps ex]
      have hw2:(l.map (·.1)).length=ws.length:=by rw [← hm];simp
      rw [hw2]
      unfold Builtin.Str.tooLong
      rw [Nat.mul_comm ws.length]
      simp only [Bool.not_eq_true',decide_eq_false_iff_not,sizeLine_eq]
      omega
     ·refine hP.pl ok (.str _ _ _ ?_ ?_)
      ·rw [join_one,ex,List.map_map]
       exact congrArg _ hm
      ·refine strOk_iff.mpr fun c hc=>?_
       rw [join_one] at hc
       rcases joinD_mem hc with hc | ⟨w,hw,hc⟩
       ·exact strOk_iff.mp kx c hc
       ·obtain⟨y,hy,rfl⟩:=List.mem_map.mp hw
        obtain⟨p,hp,rfl⟩:=List.mem_map.mp hy
        exact strOk_iff.mp (hk p hp) c hc
theorem mth_index {x y:Value} {a b:D} {r:D×Kd} (hd:mth .index a b=some r) (hP:Post C m (Ev.ok r) T s Q E) (ok:Ok C m T s.heap) (nx:Rd C.N s.heap x a) (ny:Rd C.N s.heap y b):
  wpAny C.M A (call (.builtin "list.index") [x,y]) Q E s:=by
 obtain⟨s1,rfl,hd⟩:=lst1_inv hd
 obtain⟨t1,rfl,hd⟩:=str1_inv hd
 obtain⟨ws,hw,hd⟩:=Option.bind_eq_some_iff.mp hd
 obtain⟨hz,hd⟩:=if_inv hd
 ·
  ·
   ·obtain⟨k,hk,rfl⟩:=Option.map_eq_some_iff.mp hd
    obtain⟨y,u,rfl,ey,ky⟩:=ny.str_inv
    cases nx with
    | @lst a o vs n _ ta ho hc hdt _ r=>
     obtain⟨l,hl,hm,hkk⟩:=strs_are r hw
     obtain⟨cl,dd,dat,sl⟩:=o
     have hc':cl=.type "list" := hc
     have hdt':dat=.seq vs n:=hdt
     subst hc' hdt'
     have hi:StrsAre vs.toList (l.map (·.1)):=hl ▸ strsAre_of l
     have hlen:ws.length=vs.size:=by rw [← hm,List.length_map,← Array.length_toList,hl];simp [strValues]
     obtain⟨hlt,hkv,hno⟩:=idx_spec hk
     have hit:∀ j (hj:j < vs.size),isStrOf y vs[j]=decide (ws[j]?=some y.cps.toList):=fun j hj=>by
      have e1:vs[j]=(strValues l)[j]'(by rw [← hl];simpa using hj):=by
       have:=Array.getElem_toList hj
       rw [← this]
       exact List.getElem_of_eq hl _
      have hjl:j < l.length:=by rw [← hm,List.length_map] at hlen;exact li2 (.n j (.n (l.length) (.n (vs.size) .o))) (nat_lit 0x1f7da9236a58db964) hlen hj
      rw [e1]
      simp only [strValues,List.getElem_map,isStrOf]
      rw [← hm]
      simp only [List.getElem?_map,List.getElem?_eq_getElem hjl,Option.map_some,Option.some.injEq]
      by_cases e:l[j].1=y
      ·rw [e];simp
      ·have e2:l[j].1.cps.toList≠y.cps.toList:=fun q=>e (PySem.Str.ext' (Array.toList_inj.mp q))
       simp [e,e2]
     rw [ey] at hit
     refine call_meets PySem.F.slot_list_index ⟨_,ho,rfl⟩ PySem.F.entry_list_index (PySem.F.args_list_index_2 _ _)
      (SeqAt.list_indexAt _ vs n dd sl (.str y u) (isStrOf y) k (by exact li2 (.n k (.n (vs.size) (.n (ws.length) .o))) (nat_lit 0x1f7da9236a58db925) hlen hlt) (by rw [big] at hz;omega) (by rw [hit];simpa using hkv) fun j hj hjk=>by rw [hit j hj];simpa using hno j hjk)
      ⟨ho,fun z hz=>(eq_isStrOf y u hi z (by simpa using hz)).at _ _,hP.pl ok (.int _ _)⟩
end
end Mine

namespace Mine
open PySem PySem.W PySem.Calls PyProof.Rows PyProof.V PySem.Spec
mutual
theorem deq_eq:∀ {a b:D},deq a b=true→a=b
 | .none,b,h=>by cases b <;> first | rfl | (simp [deq] at h)
 | .bool x,b,h=>by cases b <;> simp [deq] at h;subst h;rfl
 | .int x,b,h=>by cases b <;> simp [deq] at h;subst h;rfl
 | .str x,b,h=>by cases b <;> simp [deq] at h;subst h;rfl
 | .tup x,b,h=>by cases b <;> simp [deq] at h;rw [deqs_eq h]
 | .lst x,b,h=>by cases b <;> simp [deq] at h;rw [deqs_eq h]
theorem deqs_eq:∀ {a b:List D},deqs a b=true→a=b
 | [],b,h=>by cases b <;> simp [deqs] at h;rfl
 | x :: r,b,h=>by
  cases b with
  | nil=>simp [deqs] at h
  | cons y t=>simp [deqs] at h;rw [deq_eq h.1,deqs_eq h.2]
end
noncomputable def constD:Const→Option D
 | .none=>some .none
 | .bool b=>some (.bool b)
 | .int i=>some (.int i)
 | .str s=>if PyData.strOk s then some (.str s.cps.toList) else Option.none
 | _=>Option.none
noncomputable def gconst (x:Str):Option D:=(consts.map fun p=>(Str.ofString p.1,p.2)).lookup x
noncomputable def fname (f:Nat):Option Str:=(texts[f]?).map fun p=>Str.ofString p.1
noncomputable def optIs (o:Option D) (d:D):Bool:=match o with
 | some x=>deq d x
 | none=>false
theorem optIs_eq {o:Option D} {d:D} (h:optIs o d=true):o=some d:=by
 unfold optIs at h
 split at h
 ·rw [deq_eq h]
 ·cases h
structure Ck where
 ctx:List (Str×Nat)
 glb:Str→Bool
 cel:Str→Bool
 loc:Str→Bool
noncomputable def Ck.inner (K:Ck) (scope:Scope) (x:Str) (v:Nat):Ck where
 ctx:=(x,v) :: scope.names.filterMap fun p=>if p.2 == .free then (K.ctx.lookup p.1).map fun i=>(p.1,i) else Option.none
 glb:=fun y=>scope.names.lookup y == some .globalImplicit
 cel:=fun _=>false
 loc:=fun _=>false
noncomputable def notDebug (x:Str):Bool:=!(x == ("__debug__" : Str))
noncomputable def fnS:Fn→Str
 | .len=>"len" | .str=>"str" | .sum=>"sum" | .min=>"min" | .max=>"max"
noncomputable def mtS:Mt→Str
 | .find=>"find" | .split=>"split" | .join=>"join" | .index=>"index"
noncomputable def noCall:PySem.Expr→Bool
 | .Name ..=>true
 | .Constant ..=>true
 | _=>false
noncomputable def noSet:PySem.Expr→Bool
 | .Set ..=>false
 | _=>true
noncomputable def compScope (K:Ck) (scope:Scope) (x:Str) (v:Nat):Bool:=
 scope.kind == .function && scope.names.all (fun p=>p.2 != .cell && (p.2 != .local || scope.names.lookup p.1 == some .local) && (p.2 != .free || (K.cel p.1 && scope.names.lookup p.1 == some .free))) && scope.names.lookup x == some .local
  && ((K.inner scope x v).ctx.tail.all fun p=>p.2 != v && p.1 != x)
theorem ff {p:Prop} (h:false=true):p:=Bool.noConfusion h
theorem a2 {a b:Bool} (h:(a && b)=true):a=true∧b=true:=by cases a;exact ff h;exact⟨rfl,h⟩
theorem nt {b:Bool} (h:(!b)=true):b=false:=by cases b;rfl;exact ff h
noncomputable def onIx (n m:Nat) (g:n=m→Bool):Bool:=if h:n=m then g h else false
theorem onIx_ok {n m:Nat} {g:n=m→Bool} {Q:Prop} (h:onIx n m g=true) (k:∀ hi,g hi=true→Q):Q:=by
 unfold onIx at h
 by_cases hi:n=m
 ·rw [dif_pos hi] at h;exact k hi h
 ·rw [dif_neg hi] at h;exact ff h
noncomputable def onBoolOp (e:PySem.Expr) (f:BoolOp→List PySem.Expr→Pos→Bool):Bool:=onIx e.ctorIdx 0 fun h=>PySem.Expr.BoolOp.elim (motive_1:=fun _=>Bool) e h f
theorem onBoolOp_ok {P:PySem.Expr→Prop} {e:PySem.Expr} {f:BoolOp→List PySem.Expr→Pos→Bool} (h:onBoolOp e f=true) (k:∀ a b c,f a b c=true→P (.BoolOp a b c)):P e:=
 onIx_ok h fun hi=>PySem.Expr.BoolOp.elim (motive_1:=fun e=>∀ h:e.ctorIdx=0,PySem.Expr.BoolOp.elim (motive_1:=fun _=>Bool) e h f=true→P e) e hi (fun a b c _=>k a b c) hi
noncomputable def onBinOp (e:PySem.Expr) (f:PySem.Expr→Operator→PySem.Expr→Pos→Bool):Bool:=onIx e.ctorIdx 2 fun h=>PySem.Expr.BinOp.elim (motive_1:=fun _=>Bool) e h f
theorem onBinOp_ok {P:PySem.Expr→Prop} {e:PySem.Expr} {f:PySem.Expr→Operator→PySem.Expr→Pos→Bool} (h:onBinOp e f=true) (k:∀ a b c d,f a b c d=true→P (.BinOp a b c d)):P e:=
 onIx_ok h fun hi=>PySem.Expr.BinOp.elim (motive_1:=fun e=>∀ h:e.ctorIdx=2,PySem.Expr.BinOp.elim (motive_1:=fun _=>Bool) e h f=true→P e) e hi (fun a b c d _=>k a b c d) hi
noncomputable def onUnaryOp (e:PySem.Expr) (f:UnaryOp→PySem.Expr→Pos→Bool):Bool:=onIx e.ctorIdx 3 fun h=>PySem.Expr.UnaryOp.elim (motive_1:=fun _=>Bool) e h f
theorem onUnaryOp_ok {P:PySem.Expr→Prop} {e:PySem.Expr} {f:UnaryOp→PySem.Expr→Pos→Bool} (h:onUnaryOp e f=true) (k:∀ a b c,f a b c=true→P (.UnaryOp a b c)):P e:=
 onIx_ok h fun hi=>PySem.Expr.UnaryOp.elim (motive_1:=fun e=>∀ h:e.ctorIdx=3,PySem.Expr.UnaryOp.elim (motive_1:=fun _=>Bool) e h f=true→P e) e hi (fun a b c _=>k a b c) hi
noncomputable def onIfExp (e:PySem.Expr) (f:PySem.Expr→PySem.Expr→PySem.Expr→Pos→Bool):Bool:=onIx e.ctorIdx 5 fun h=>PySem.Expr.IfExp.elim (motive_1:=fun _=>Bool) e h f
theorem onIfExp_ok {P:PySem.Expr→Prop} {e:PySem.Expr} {f:PySem.Expr→PySem.Expr→PySem.Expr→Pos→Bool} (h:onIfExp e f=true) (k:∀ a b c d,f a b c d=true→P (.IfExp a b c d)):P e:=
 onIx_ok h fun hi=>PySem.Expr.IfExp.elim (motive_1:=fun e=>∀ h:e.ctorIdx=5,PySem.Expr.IfExp.elim (motive_1:=fun _=>Bool) e h f=true→P e) e hi (fun a b c d _=>k a b c d) hi
noncomputable def onListComp (e:PySem.Expr) (f:PySem.Expr→List Comprehension→Scope→Pos→Bool):Bool:=onIx e.ctorIdx 8 fun h=>PySem.Expr.ListComp.elim (motive_1:=fun _=>Bool) e h f
theorem onListComp_ok {P:PySem.Expr→Prop} {e:PySem.Expr} {f:PySem.Expr→List Comprehension→Scope→Pos→Bool} (h:onListComp e f=true) (k:∀ a b c d,f a b c d=true→P (.ListComp a b c d)):P e:=
 onIx_ok h fun hi=>PySem.Expr.ListComp.elim (motive_1:=fun e=>∀ h:e.ctorIdx=8,PySem.Expr.ListComp.elim (motive_1:=fun _=>Bool) e h f=true→P e) e hi (fun a b c d _=>k a b c d) hi
noncomputable def onCompare (e:PySem.Expr) (f:PySem.Expr→List CmpOp→List PySem.Expr→Pos→Bool):Bool:=onIx e.ctorIdx 15 fun h=>PySem.Expr.Compare.elim (motive_1:=fun _=>Bool) e h f
theorem onCompare_ok {P:PySem.Expr→Prop} {e:PySem.Expr} {f:PySem.Expr→List CmpOp→List PySem.Expr→Pos→Bool} (h:onCompare e f=true) (k:∀ a b c d,f a b c d=true→P (.Compare a b c d)):P e:=
 onIx_ok h fun hi=>PySem.Expr.Compare.elim (motive_1:=fun e=>∀ h:e.ctorIdx=15,PySem.Expr.Compare.elim (motive_1:=fun _=>Bool) e h f=true→P e) e hi (fun a b c d _=>k a b c d) hi
noncomputable def onCall (e:PySem.Expr) (f:PySem.Expr→List PySem.Expr→List Keyword→Pos→Bool):Bool:=onIx e.ctorIdx 16 fun h=>PySem.Expr.Call.elim (motive_1:=fun _=>Bool) e h f
theorem onCall_ok {P:PySem.Expr→Prop} {e:PySem.Expr} {f:PySem.Expr→List PySem.Expr→List Keyword→Pos→Bool} (h:onCall e f=true) (k:∀ a b c d,f a b c d=true→P (.Call a b c d)):P e:=
 onIx_ok h fun hi=>PySem.Expr.Call.elim (motive_1:=fun e=>∀ h:e.ctorIdx=16,PySem.Expr.Call.elim (motive_1:=fun _=>Bool) e h f=true→P e) e hi (fun a b c d _=>k a b c d) hi
noncomputable def onConstant (e:PySem.Expr) (f:Const→Nat→Pos→Bool):Bool:=onIx e.ctorIdx 19 fun h=>PySem.Expr.Constant.elim (motive_1:=fun _=>Bool) e h f
theorem onConstant_ok {P:PySem.Expr→Prop} {e:PySem.Expr} {f:Const→Nat→Pos→Bool} (h:onConstant e f=true) (k:∀ a b c,f a b c=true→P (.Constant a b c)):P e:=
 onIx_ok h fun hi=>PySem.Expr.Constant.elim (motive_1:=fun e=>∀ h:e.ctorIdx=19,PySem.Expr.Constant.elim (motive_1:=fun _=>Bool) e h f=true→P e) e hi (fun a b c _=>k a b c) hi
noncomputable def onAttribute (e:PySem.Expr) (f:PySem.Expr→Str→Pos→Bool):Bool:=onIx e.ctorIdx 20 fun h=>PySem.Expr.Attribute.elim (motive_1:=fun _=>Bool) e h f
theorem onAttribute_ok {P:PySem.Expr→Prop} {e:PySem.Expr} {f:PySem.Expr→Str→Pos→Bool} (h:onAttribute e f=true) (k:∀ a b c,f a b c=true→P (.Attribute a b c)):P e:=
 onIx_ok h fun hi=>PySem.Expr.Attribute.elim (motive_1:=fun e=>∀ h:e.ctorIdx=20,PySem.Expr.Attribute.elim (motive_1:=fun _=>Bool) e h f=true→P e) e hi (fun a b c _=>k a b c) hi
noncomputable def onSubscript (e:PySem.Expr) (f:PySem.Expr→PySem.Expr→Pos→Bool):Bool:=onIx e.ctorIdx 21 fun h=>PySem.Expr.Subscript.elim (motive_1:=fun _=>Bool) e h f
theorem onSubscript_ok {P:PySem.Expr→Prop} {e:PySem.Expr} {f:PySem.Expr→PySem.Expr→Pos→Bool} (h:onSubscript e f=true) (k:∀ a b c,f a b c=true→P (.Subscript a b c)):P e:=
 onIx_ok h fun hi=>PySem.Expr.Subscript.elim (motive_1:=fun e=>∀ h:e.ctorIdx=21,PySem.Expr.Subscript.elim (motive_1:=fun _=>Bool) e h f=true→P e) e hi (fun a b c _=>k a b c) hi
noncomputable def onName (e:PySem.Expr) (f:Str→Pos→Bool):Bool:=onIx e.ctorIdx 23 fun h=>PySem.Expr.Name.elim (motive_1:=fun _=>Bool) e h f
theorem onName_ok {P:PySem.Expr→Prop} {e:PySem.Expr} {f:Str→Pos→Bool} (h:onName e f=true) (k:∀ a b,f a b=true→P (.Name a b)):P e:=
 onIx_ok h fun hi=>PySem.Expr.Name.elim (motive_1:=fun e=>∀ h:e.ctorIdx=23,PySem.Expr.Name.elim (motive_1:=fun _=>Bool) e h f=true→P e) e hi (fun a b _=>k a b) hi
noncomputable def onList (e:PySem.Expr) (f:List PySem.Expr→Pos→Bool):Bool:=onIx e.ctorIdx 24 fun h=>PySem.Expr.List.elim (motive_1:=fun _=>Bool) e h f
theorem onList_ok {P:PySem.Expr→Prop} {e:PySem.Expr} {f:List PySem.Expr→Pos→Bool} (h:onList e f=true) (k:∀ a b,f a b=true→P (.List a b)):P e:=
 onIx_ok h fun hi=>PySem.Expr.List.elim (motive_1:=fun e=>∀ h:e.ctorIdx=24,PySem.Expr.List.elim (motive_1:=fun _=>Bool) e h f=true→P e) e hi (fun a b _=>k a b) hi
noncomputable def onTuple (e:PySem.Expr) (f:List PySem.Expr→Nat→Pos→Bool):Bool:=onIx e.ctorIdx 25 fun h=>PySem.Expr.Tuple.elim (motive_1:=fun _=>Bool) e h f
theorem onTuple_ok {P:PySem.Expr→Prop} {e:PySem.Expr} {f:List PySem.Expr→Nat→Pos→Bool} (h:onTuple e f=true) (k:∀ a b c,f a b c=true→P (.Tuple a b c)):P e:=
 onIx_ok h fun hi=>PySem.Expr.Tuple.elim (motive_1:=fun e=>∀ h:e.ctorIdx=25,PySem.Expr.Tuple.elim (motive_1:=fun _=>Bool) e h f=true→P e) e hi (fun a b c _=>k a b c) hi
noncomputable def onSlice (e:PySem.Expr) (f:Option PySem.Expr→Option PySem.Expr→Option PySem.Expr→Pos→Bool):Bool:=onIx e.ctorIdx 26 fun h=>PySem.Expr.Slice.elim (motive_1:=fun _=>Bool) e h f
theorem onSlice_ok {P:PySem.Expr→Prop} {e:PySem.Expr} {f:Option PySem.Expr→Option PySem.Expr→Option PySem.Expr→Pos→Bool} (h:onSlice e f=true) (k:∀ a b c d,f a b c d=true→P (.Slice a b c d)):P e:=
 onIx_ok h fun hi=>PySem.Expr.Slice.elim (motive_1:=fun e=>∀ h:e.ctorIdx=26,PySem.Expr.Slice.elim (motive_1:=fun _=>Bool) e h f=true→P e) e hi (fun a b c d _=>k a b c d) hi
noncomputable def on0 {α:Type} (l:List α) (b:Bool):Bool:=match l with
 | []=>b
 | _=>false
noncomputable def on1 {α:Type} (l:List α) (f:α→Bool):Bool:=match l with
 | []=>false
 | a :: l=>on0 l (f a)
noncomputable def on2 {α:Type} (l:List α) (f:α→α→Bool):Bool:=match l with
 | []=>false
 | a :: l=>on1 l (f a)
noncomputable def onC {α:Type} (l:List α) (f:α→List α→Bool):Bool:=match l with
 | []=>false
 | a :: l=>f a l
noncomputable def onS {α:Type} (o:Option α) (f:α→Bool):Bool:=match o with
 | none=>false
 | some a=>f a
noncomputable def onN {α:Type} (o:Option α) (b:Bool):Bool:=match o with
 | none=>b
 | some _=>false
theorem on0_ok {α:Type} {P:List α→Prop} {l:List α} {b:Bool} (h:on0 l b=true) (k:b=true→P []):P l:=by
 cases l with
 | nil=>exact k h
 | cons _ _=>exact ff h
theorem on1_ok {α:Type} {P:List α→Prop} {l:List α} {f:α→Bool} (h:on1 l f=true) (k:∀ a,f a=true→P [a]):P l:=by
 cases l with
 | nil=>exact ff h
 | cons a l=>exact on0_ok (P:=fun l=>P (a :: l)) h (k a)
theorem on2_ok {α:Type} {P:List α→Prop} {l:List α} {f:α→α→Bool} (h:on2 l f=true) (k:∀ a b,f a b=true→P [a,b]):P l:=by
 cases l with
 | nil=>exact ff h
 | cons a l=>exact on1_ok (P:=fun l=>P (a :: l)) h (k a)
theorem onC_ok {α:Type} {P:List α→Prop} {l:List α} {f:α→List α→Bool} (h:onC l f=true) (k:∀ a l,f a l=true→P (a :: l)):P l:=by
 cases l with
 | nil=>exact ff h
 | cons a l=>exact k a l h
theorem onS_ok {α:Type} {P:Option α→Prop} {o:Option α} {f:α→Bool} (h:onS o f=true) (k:∀ a,f a=true→P (some a)):P o:=by
 cases o with
 | none=>exact ff h
 | some a=>exact k a h
theorem onN_ok {α:Type} {P:Option α→Prop} {o:Option α} {b:Bool} (h:onN o b=true) (k:b=true→P none):P o:=by
 cases o with
 | none=>exact k h
 | some a=>exact ff h
theorem eqq {α:Type} [BEq α] [LawfulBEq α] {P:α→Prop} {x y:α} {b:Bool} (h:(x == y && b)=true) (k:b=true→P y):P x:=by
 have e:=eq_of_beq (a2 h).1
 subst e
 exact k (a2 h).2
theorem or2 {a b:Bool} {P:Prop} (h:(a || b)=true) (ka:a=true→P) (kb:b=true→P):P:=by
 cases a with
 | true=>exact ka rfl
 | false=>exact kb h
noncomputable def onNC (e:PySem.Expr) (f:Str→List PySem.Expr→Bool):Bool:=onCall e fun fn args ks _=>onName fn fun x _=>on0 ks (f x args)
theorem onNC_ok {P:PySem.Expr→Prop} {e:PySem.Expr} {f:Str→List PySem.Expr→Bool} (h:onNC e f=true) (k:∀ x q args p,f x args=true→P (.Call (.Name x q) args [] p)):P e:=
 onCall_ok h fun _ args ks p h=>onName_ok (P:=fun fn=>P (.Call fn args ks p)) h fun x q h=>on0_ok (P:=fun ks=>P (.Call (.Name x q) args ks p)) h (k x q args p)
noncomputable def logC (op:BoolOp) (r:List PySem.Expr) (y:PySem.Expr) (pos:Pos) (g:PySem.Expr→Bool):Bool:=match r with
 | []=>g y
 | z :: r=>g (.BoolOp op (y :: z :: r) pos)
mutual
noncomputable def chk:X→Ck→PySem.Expr→Bool
 | .non,_,_=>false
 | .lit d,K,e=>onConstant e (fun c _ _=>optIs (constD c) d) || onName e fun x _=>K.glb x && (notDebug x && optIs (gconst x) d)
 | .var i,K,e=>onName e fun x _=>K.ctx.lookup x == some i && notDebug x
 | .bin o a b,K,e=>onBinOp e fun l op r _=>op == opB o && (chk a K l && chk b K r)
 | .neg a,K,e=>onUnaryOp e fun op x _=>op == .USub && chk a K x
 | .not a,K,e=>onUnaryOp e fun op x _=>op == .Not && chk a K x
 | .cmp o a b,K,e=>onCompare e fun l ops rs _=>on1 ops fun op=>on1 rs fun r=>op == opC o && (chk a K l && (chk b K r && !behindInMarks (opC o) r))
 | .cmp2 o1 o2 a b c,K,e=>onCompare e fun l ops rs _=>on2 ops fun p1 p2=>on2 rs fun r1 r2=>p1 == opC o1 && (p2 == opC o2 && (chk a K l && (chk b K r1 && (chk c K r2 && !behindInMarks (opC o2) r2))))
 | .and a b,K,e=>onBoolOp e fun op vs pos=>onC vs fun x vs=>onC vs fun y r=>op == .And && (chk a K x && logC .And r y pos (chk b K))
 | .or a b,K,e=>onBoolOp e fun op vs pos=>onC vs fun x vs=>onC vs fun y r=>op == .Or && (chk a K x && logC .Or r y pos (chk b K))
 | .ite c a b,K,e=>onIfExp e fun t x y _=>chk c K t && (chk a K x && chk b K y)
 | .call f l,K,e=>onNC e fun x args=>K.glb x && (notDebug x && (fname f == some x && chks l K args))
 | .fn1 f a,K,e=>onNC e fun x args=>on1 args fun e=>x == fnS f && (K.glb (fnS f) && (notDebug (fnS f) && chk a K e))
 | .fn2 f a b,K,e=>onNC e fun x args=>on2 args fun e1 e2=>x == fnS f && (K.glb (fnS f) && (notDebug (fnS f) && (chk a K e1 && chk b K e2)))
 | .mth m a b,K,e=>onCall e fun fn args ks pos=>onAttribute fn fun o name apos=>on0 ks (on1 args fun e=>name == mtS m && (apos.endLine == pos.line && (noCall o && (chk a K o && chk b K e))))
 | .idx a b,K,e=>onSubscript e fun v s _=>chk a K v && chk b K s
 | .slc a lo hi,K,e=>onSubscript e fun v s _=>onSlice s fun l u st _=>onN st (chk a K v && ((match l with
   | none=>isNon lo
   | some e=>chk lo K e) && (match u with
   | none=>isNon hi
   | some e=>chk hi K e)))
 | .tup l,K,e=>onTuple e fun es _ _=>decide (es.length≤1000) && chks l K es
 | .lst l,K,e=>onList e fun es _=>decide (es.length≤1000) && chks l K es
 | .comp elt v rng it cond,K,e=>onListComp e fun e gens scope _=>on1 gens fun g=>onName g.target fun x _=>g.is_async == 0 && (compScope K scope x v && (chk elt (K.inner scope x v) e && (noSet g.iter
      && ((match rng with
       | true=>onNC g.iter fun y args=>on1 args fun i=>y == ("range" : Str) && (K.glb "range" && (notDebug "range" && chk it K i))
       | false=>chk it K g.iter)
      && (match g.ifs with
       | []=>isNon cond
       | c :: r=>on0 r (!isNon cond && chk cond (K.inner scope x v) c))))))
noncomputable def chks:List X→Ck→List PySem.Expr→Bool
 | [],_,t=>on0 t true
 | x :: r,K,t=>onC t fun e t=>chk x K e && chks r K t
end
noncomputable def chkO (x:X) (K:Ck) (o:Option PySem.Expr):Bool:=match o with
 | none=>isNon x
 | some e=>chk x K e
theorem chk_at:chk (.var 0) ⟨[("x",0)],fun _=>false,fun _=>false,fun _=>false⟩ (.Name "x" ⟨1,1,1,1⟩)=true:=by kernel_rfl
end Mine

namespace Mine
open PySem PySem.W PySem.Calls PyProof.Rows PyProof.V PySem.Spec
section
variable {P:PySem.Expr→Prop} {K:Ck} {e:PySem.Expr}
theorem chk_bin {o:Bop} {a b:X} (h:chk (.bin o a b) K e=true) (k:∀ l r p,chk a K l=true→chk b K r=true→P (.BinOp l (opB o) r p)):P e:=
 onBinOp_ok h fun l _ r p h=>eqq (P:=fun op=>P (.BinOp l op r p)) h fun h=>k l r p (a2 h).1 (a2 h).2
theorem chk_neg {a:X} (h:chk (.neg a) K e=true) (k:∀ x p,chk a K x=true→P (.UnaryOp .USub x p)):P e:=
 onUnaryOp_ok h fun _ x p h=>eqq (P:=fun op=>P (.UnaryOp op x p)) h (k x p)
theorem chk_not {a:X} (h:chk (.not a) K e=true) (k:∀ x p,chk a K x=true→P (.UnaryOp .Not x p)):P e:=
 onUnaryOp_ok h fun _ x p h=>eqq (P:=fun op=>P (.UnaryOp op x p)) h (k x p)
theorem chk_var {i:Nat} (h:chk (.var i) K e=true) (k:∀ x p,K.ctx.lookup x=some i→notDebug x=true→P (.Name x p)):P e:=
 onName_ok h fun x p h=>k x p (eq_of_beq (a2 h).1) (a2 h).2
theorem chk_lit {d:D} (h:chk (.lit d) K e=true) (k1:∀ c k p,constD c=some d→P (.Constant c k p)) (k2:∀ x p,K.glb x=true→notDebug x=true→gconst x=some d→P (.Name x p)):P e:=
 or2 h (fun h=>onConstant_ok h fun c k p h=>k1 c k p (optIs_eq h)) fun h=>onName_ok h fun x p h=>k2 x p (a2 h).1 (a2 (a2 h).2).1 (optIs_eq (a2 (a2 h).2).2)
theorem chk_ite {c a b:X} (h:chk (.ite c a b) K e=true) (k:∀ t x y p,chk c K t=true→chk a K x=true→chk b K y=true→P (.IfExp t x y p)):P e:=
 onIfExp_ok h fun t x y p h=>k t x y p (a2 h).1 (a2 (a2 h).2).1 (a2 (a2 h).2).2
theorem chk_cmp {o:Cop} {a b:X} (h:chk (.cmp o a b) K e=true) (k:∀ l r p,chk a K l=true→chk b K r=true→behindInMarks (opC o) r=false→P (.Compare l [opC o] [r] p)):P e:=
 onCompare_ok h fun l _ rs p h=>on1_ok (P:=fun ops=>P (.Compare l ops rs p)) h fun op h=>on1_ok (P:=fun rs=>P (.Compare l [op] rs p)) h fun r h=>eqq (P:=fun op=>P (.Compare l [op] [r] p)) h fun h=>
  k l r p (a2 h).1 (a2 (a2 h).2).1 (nt (a2 (a2 h).2).2)
theorem chk_cmp2 {o1 o2:Cop} {a b c:X} (h:chk (.cmp2 o1 o2 a b c) K e=true) (k:∀ l r1 r2 p,chk a K l=true→chk b K r1=true→chk c K r2=true→behindInMarks (opC o2) r2=false→P (.Compare l [opC o1,opC o2] [r1,r2] p)):P e:=
 onCompare_ok h fun l _ rs p h=>on2_ok (P:=fun ops=>P (.Compare l ops rs p)) h fun p1 p2 h=>on2_ok (P:=fun rs=>P (.Compare l [p1,p2] rs p)) h fun r1 r2 h=>eqq (P:=fun op=>P (.Compare l [op,p2] [r1,r2] p)) h fun h=>
  eqq (P:=fun op=>P (.Compare l [opC o1,op] [r1,r2] p)) h fun h=>k l r1 r2 p (a2 h).1 (a2 (a2 h).2).1 (a2 (a2 (a2 h).2).2).1 (nt (a2 (a2 (a2 h).2).2).2)
theorem logC_ok {op:BoolOp} {r:List PySem.Expr} {y:PySem.Expr} {pos:Pos} {g:PySem.Expr→Bool} (h:logC op r y pos g=true):∃ y',g y'=true∧((y :: r)=[y']∨(∃ p',y'=.BoolOp op (y :: r) p'∧p'=pos)∧2≤(y :: r).length):=by
 cases r with
 | nil=>exact⟨y,h,.inl rfl⟩
 | cons z r=>exact⟨_,h,.inr ⟨⟨pos,rfl,rfl⟩,Nat.le_add_left 2 r.length⟩⟩
theorem chk_and {a b:X} (h:chk (.and a b) K e=true) (k:∀ x r p y,chk a K x=true→chk b K y=true→(r=[y]∨(∃ p',y=.BoolOp .And r p'∧p'=p)∧2≤r.length)→P (.BoolOp .And (x :: r) p)):P e:=
 onBoolOp_ok h fun op _ p h=>onC_ok (P:=fun vs=>P (.BoolOp op vs p)) h fun x _ h=>onC_ok (P:=fun vs=>P (.BoolOp op (x :: vs) p)) h fun y r h=>eqq (P:=fun op=>P (.BoolOp op (x :: y :: r) p)) h fun h=>
  (logC_ok (a2 h).2).elim fun y' q=>k x (y :: r) p y' (a2 h).1 q.1 q.2
theorem chk_or {a b:X} (h:chk (.or a b) K e=true) (k:∀ x r p y,chk a K x=true→chk b K y=true→(r=[y]∨(∃ p',y=.BoolOp .Or r p'∧p'=p)∧2≤r.length)→P (.BoolOp .Or (x :: r) p)):P e:=
 onBoolOp_ok h fun op _ p h=>onC_ok (P:=fun vs=>P (.BoolOp op vs p)) h fun x _ h=>onC_ok (P:=fun vs=>P (.BoolOp op (x :: vs) p)) h fun y r h=>eqq (P:=fun op=>P (.BoolOp op (x :: y :: r) p)) h fun h=>
  (logC_ok (a2 h).2).elim fun y' q=>k x (y :: r) p y' (a2 h).1 q.1 q.2
theorem chk_call {f:Nat} {l:List X} (h:chk (.call f l) K e=true) (k:∀ x p args p',K.glb x=true→notDebug x=true→fname f=some x→chks l K args=true→P (.Call (.Name x p) args [] p')):P e:=
 onNC_ok h fun x q args p h=>k x q args p (a2 h).1 (a2 (a2 h).2).1 (eq_of_beq (a2 (a2 (a2 h).2).2).1) (a2 (a2 (a2 h).2).2).2
theorem chk_fn1 {f:Fn} {a:X} (h:chk (.fn1 f a) K e=true) (k:∀ p e1 p',K.glb (fnS f)=true→notDebug (fnS f)=true→chk a K e1=true→P (.Call (.Name (fnS f) p) [e1] [] p')):P e:=
 onNC_ok h fun x q _ p h=>on1_ok (P:=fun args=>P (.Call (.Name x q) args [] p)) h fun e1 h=>eqq (P:=fun x=>P (.Call (.Name x q) [e1] [] p)) h fun h=>k q e1 p (a2 h).1 (a2 (a2 h).2).1 (a2 (a2 h).2).2
theorem chk_fn2 {f:Fn} {a b:X} (h:chk (.fn2 f a b) K e=true) (k:∀ p e1 e2 p',K.glb (fnS f)=true→notDebug (fnS f)=true→chk a K e1=true→chk b K e2=true→P (.Call (.Name (fnS f) p) [e1,e2] [] p')):P e:=
 onNC_ok h fun x q _ p h=>on2_ok (P:=fun args=>P (.Call (.Name x q) args [] p)) h fun e1 e2 h=>eqq (P:=fun x=>P (.Call (.Name x q) [e1,e2] [] p)) h fun h=>k q e1 e2 p (a2 h).1 (a2 (a2 h).2).1 (a2 (a2 (a2 h).2).2).1 (a2 (a2 (a2 h).2).2).2
theorem chk_mth {m:Mt} {a b:X} (h:chk (.mth m a b) K e=true) (k:∀ o ap e1 p,(ap.endLine == p.line)=true→noCall o=true→chk a K o=true→chk b K e1=true→P (.Call (.Attribute o (mtS m) ap) [e1] [] p)):P e:=
 onCall_ok h fun _ args ks p h=>onAttribute_ok (P:=fun fn=>P (.Call fn args ks p)) h fun o n ap h=>on0_ok (P:=fun ks=>P (.Call (.Attribute o n ap) args ks p)) h fun h=>on1_ok (P:=fun args=>P (.Call (.Attribute o n ap) args [] p)) h fun e1 h=>
  eqq (P:=fun n=>P (.Call (.Attribute o n ap) [e1] [] p)) h fun h=>k o ap e1 p (a2 h).1 (a2 (a2 h).2).1 (a2 (a2 (a2 h).2).2).1 (a2 (a2 (a2 h).2).2).2
theorem chk_slc {a lo hi:X} (h:chk (.slc a lo hi) K e=true) (k:∀ v l u p p',chk a K v=true→chkO lo K l=true→chkO hi K u=true→P (.Subscript v (.Slice l u none p) p')):P e:=
 onSubscript_ok h fun v _ p' h=>onSlice_ok (P:=fun s=>P (.Subscript v s p')) h fun l u _ p h=>onN_ok (P:=fun st=>P (.Subscript v (.Slice l u st p) p')) h fun h=>k v l u p p' (a2 h).1 (a2 (a2 h).2).1 (a2 (a2 h).2).2
theorem chkO_inv {x:X} {o:Option PySem.Expr} (h:chkO x K o=true):(x=.non∧o=none)∨∃ e,o=some e∧chk x K e=true:=by
 cases o with
 | none=>
  have h:isNon x=true:=h
  cases x with
  | non=>exact .inl ⟨rfl,rfl⟩
  | _=>exact ff h
 | some e=>exact .inr ⟨e,rfl,h⟩
theorem chk_idx {a b:X} (h:chk (.idx a b) K e=true) (k:∀ v s p,chk a K v=true→chk b K s=true→P (.Subscript v s p)):P e:=
 onSubscript_ok h fun v s p h=>k v s p (a2 h).1 (a2 h).2
theorem chk_tup {l:List X} (h:chk (.tup l) K e=true) (k:∀ es n p,es.length≤1000→chks l K es=true→P (.Tuple es n p)):P e:=
 onTuple_ok h fun es n p h=>k es n p (of_decide_eq_true (a2 h).1) (a2 h).2
theorem chk_lst {l:List X} (h:chk (.lst l) K e=true) (k:∀ es p,es.length≤1000→chks l K es=true→P (.List es p)):P e:=
 onList_ok h fun es p h=>k es p (of_decide_eq_true (a2 h).1) (a2 h).2
end
end Mine

namespace Mine
open PySem PySem.W PySem.Calls PyProof.Rows PyProof.V PySem.Spec
structure Wld where
 mg:Str→Option Value
 mb:Str→Option Value
 fa:Nat→Addr
noncomputable def bltT:List (Str×Value):=[("len",.builtin "len"),("sum",.builtin "sum"),("min",.builtin "min"),("max",.builtin "max"),("str",.type "str"),("range",.type "range")]
structure Gl (base:Heap) (W:Wld):Prop where
 g:base.Ns mainGlobals W.mg
 b:base.Ns builtinsNs W.mb
 const:∀ x d,gconst x=some d→∃ v,W.mg x=some v∧Rd (fun a=>∃ o,base.get? a=some o) base v d
 fn:∀ f x,fname f=some x→W.mg x=some (.ref (W.fa f))∧∃ o fd,base.get? (W.fa f)=some o∧o.data=.func fd
 blt:∀ p ∈ bltT,W.mg p.1=none∧W.mb p.1=some p.2
structure EnvOk (C:Cx) (K:Ck):Prop where
 kind:C.env.scope.kind=.function
 glo:C.env.globals=mainGlobals
 blt:C.env.builtins=builtinsNs
 ctx:∀ x i,K.ctx.lookup x=some i→C.env.kindOf x=some .local∨(C.env.kindOf x=some .cell∧∃ c,C.env.cells.lookup x=some c)
 glb:∀ x,K.glb x=true→C.env.kindOf x=some .globalImplicit
 cel:∀ x,K.cel x=true→C.env.kindOf x=some .cell∧∃ c,C.env.cells.lookup x=some c
 ap:∀ x y c,C.env.cells.lookup x=some c→C.env.cells.lookup y=some c→x=y
 nl:∀ p ∈ C.env.cells,p.2≠C.L
 loc:∀ x,K.loc x=true→C.env.kindOf x=some .local
inductive VarOk (C:Cx) (T:Addr→Prop) (h:Heap):Value→Cell→Prop
 | pl {v:Value} {d:D} (r:Rd T h v d):VarOk C T h v ⟨d,false⟩
 | own {a:Addr} {vs:Array Value} {n:Nat} {ds:List D} (ta:¬ T a) (hn:C.N a) (ho:h.get? a=some (lobj vs n)) (r:RdAll T h vs.toList ds):VarOk C T h (.ref a) ⟨.lst ds,true⟩
noncomputable def vof (C:Cx) (m cm:Str→Option Value) (x:Str):Option Value:=if C.env.kindOf x=some .local then m x else cm x
structure Rel (C:Cx) (K:Ck) (m cm:Str→Option Value) (T:Addr→Prop) (h:Heap) (σ:Sg):Prop where
 ok:Ok C m T h
 cell:∀ x c,C.env.cells.lookup x=some c→h.IsCell c (cm x)
 var:∀ x i c,K.ctx.lookup x=some i→σ i=some c→∃ v,vof C m cm x=some v∧VarOk C T h v c
noncomputable def CallOk (C:Cx) (W:Wld) (Φ:Nat→List D→Ev (D×Kd)):Prop:=∀ env m T s f ds vs Q E,Ok { C with env:=env } m T s.heap→RdAll T s.heap vs ds→
 Post { C with env:=env } m (Φ f ds) T s Q E→wpAny C.M C.A (call (.ref (W.fa f)) vs) Q E s
structure Sit (C:Cx) (K:Ck) (W:Wld) (Φ:Nat→List D→Ev (D×Kd)):Prop where
 env:EnvOk C K
 gl:Gl C.base W
 hand:C.A.handled=none
 room:C.A.units + 100 < cLine
 call:CallOk C W Φ
section
variable {C:Cx} {K:Ck} {W:Wld} {Φ:Nat→List D→Ev (D×Kd)} {m cm:Str→Option Value} {T T':Addr→Prop} {s:Shared} {σ:Sg} {h h':Heap}
theorem VarOk.step {v:Value} {c:Cell} (x:VarOk C T h v c) (o:Ok C m T h) (k:Kx C m h h') (t:TExt T h T' h'):VarOk C T' h' v c:=by
 cases x with
 | pl r=>exact .pl (r.step o k t)
 | own ta hn ho r=>exact .own (fun z=>(t.new _ z).elim ta fun e=>by rw [ho] at e;cases e) hn (k.at hn ho) (r.step o k t)
theorem cell_step (k:Kx C m h h') {c:Addr} {v:Option Value} (hc:c≠C.L) (x:h.IsCell c v):h'.IsCell c v:=by
 obtain⟨o,ho,hd⟩:=x
 obtain⟨sl,e,_⟩:=k.keep c o hc ho
 exact⟨_,e,hd⟩
theorem Rel.step (R:Rel C K m cm T h σ) (S:EnvOk C K) (k:Kx C m h h') (t:TExt T h T' h'):Rel C K m cm T' h' σ:=
 ⟨R.ok.step k t,fun x c e=>cell_step k (S.nl _ (mem_of_lookup e)) (R.cell x c e),fun x i c h1 h2=>by
  obtain⟨v,hv,hr⟩:=R.var x i c h1 h2
  exact⟨v,hv,hr.step R.ok k t⟩⟩
theorem notDebug_eq {x:Str} (h:notDebug x=true):(x == ("__debug__" : Str))=false:=by
 unfold notDebug at h
 simpa using h
noncomputable def tst (r:Ev (D×Kd)):Ev (D×Kd):=r.bind fun x=>(Ev.of (asB x.1)).bind fun b=>Ev.ok (.bool b,.pl)
structure Good (C:Cx) (m:Str→Option Value) (r:Ev (D×Kd)) (T:Addr→Prop) (s:Shared) (e:PySem.Expr):Prop where
 val:∀ Q E,Post C m r T s Q E→wpAny C.M C.A (eval e C.env) Q E s
 tst:∀ (R:Bool→Shared→Prop) E,Post C m (tst r) T s (fun v s'=>∀ b,v=.bool b→R b s') E→wpAny C.M C.A (isTrue e C.env (eval e C.env)) R E s
theorem asB_some {d:D} {b:Bool} (h:asB d=some b):d=.bool b:=by
 unfold asB at h
 split at h
 ·cases h;rfl
 ·cases h
theorem Good.of {r:Ev (D×Kd)} {e:PySem.Expr} (o:Ok C m T s.heap) (h:∀ Q E,Post C m r T s Q E→wpAny C.M C.A (eval e C.env) Q E s)
  (he:isTrue e C.env (eval e C.env)=do let v ← eval e C.env;standAt e.pos;holding [v] (truthy v)):Good C m r T s e:=
 ⟨h,fun R E hP=>wpAny_isTrue_value (h _ _ (PostG.bind (Res.old C) hP o fun x v h' tk T' _ k t res ok' hP'=>by
  obtain⟨x,kx⟩:=x
  obtain⟨b,hb,hP'⟩:=hP'.of_some
  have hx:=asB_some hb
  dsimp only at hx
  subst hx
  have:=(res.any ok').bool_inv
  subst this
  exact wpAny_truthy_bool (hP'.pl ok' (.bool b) b rfl))) he⟩
theorem Post.tst_bool {b:Bool} {R:Bool→Shared→Prop} {E:Value→Shared→Prop} (hP:Post C m (tst (Ev.ok (.bool b,.pl))) T s (fun v s'=>∀ b,v=.bool b→R b s') E) (o:Ok C m T s.heap) {tk:Nat}:R b { s with toks:=tk }:=
 PostG.pl (Q:=fun v s'=>∀ b,v=.bool b→R b s') hP o (.bool b) b rfl
theorem tst_bind (r:Ev (D×Kd)) (f:D×Kd→Ev (D×Kd)):tst (r.bind f)=r.bind fun x=>tst (f x):=by
 unfold tst
 cases r with
 | none=>rfl
 | some x=>cases x <;> rfl
theorem tst_of {α:Type} (r:Option α) (f:α→Ev (D×Kd)):tst ((Ev.of r).bind f)=(Ev.of r).bind fun x=>tst (f x):=by
 unfold tst
 cases r <;> rfl
theorem lit_const {d:D} {c:Const} {k:Nat} {p:Pos} (hc:constD c=some d) (o:Ok C m T s.heap) {Q:Value→Shared→Prop} {E:Value→Shared→Prop} (hP:Post C m (Ev.ok (d,.pl)) T s Q E):
  wpAny C.M C.A (eval (.Constant c k p) C.env) Q E s:=by
 cases c <;> simp only [constD] at hc
 ·cases hc;exact wpAny_Constant_none (hP.pl o .none)
 ·cases hc;exact wpAny_Constant_bool (hP.pl o (.bool _))
 ·cases hc;exact wpAny_Constant_int (hP.pl o (.int _ _))
 all_goals try (cases hc;done)
 ·split at hc
  ·rename_i hs
   cases hc
   exact wpAny_Constant_str (hP.pl o (.str _ _ _ rfl hs))
  ·cases hc
theorem glob_ld (S:Sit C K W Φ) (o:Ok C m T s.heap) {x:Str} {p:Pos} {v:Value} (hg:K.glb x=true) (hn:notDebug x=true) (hv:W.mg x=some v) {Q:Value→Shared→Prop} {E:Value→Shared→Prop} (h:Q v s):
  wpAny C.M C.A (eval (.Name x p) C.env) Q E s:=
 Name_function_global S.env.kind (S.env.glb x hg) (loadGlobal_global (mg:=W.mg) (by rw [S.env.glo];exact S.gl.g.keeps o.stay) hv h) (notDebug_eq hn)
theorem blt_ld (S:Sit C K W Φ) (o:Ok C m T s.heap) {x:Str} {p:Pos} {v:Value} (hg:K.glb x=true) (hn:notDebug x=true) (hv:(x,v) ∈ bltT) {Q:Value→Shared→Prop} {E:Value→Shared→Prop} (h:Q v s):
  wpAny C.M C.A (eval (.Name x p) C.env) Q E s:=
 Name_function_global S.env.kind (S.env.glb x hg) (loadGlobal_builtin (mg:=W.mg) (mb:=W.mb) (by rw [S.env.glo];exact S.gl.g.keeps o.stay) (S.gl.blt _ hv).1 (by rw [S.env.blt];exact S.gl.b.keeps o.stay) (S.gl.blt _ hv).2 h) (notDebug_eq hn)
theorem name_ld (S:EnvOk C K) (R:Rel C K m cm T s.heap σ) {x:Str} {i:Nat} {p:Pos} {c:Cell} (hx:K.ctx.lookup x=some i) (hn:notDebug x=true) (hc:σ i=some c) {Q:Value→Shared→Prop} {E:Value→Shared→Prop}
  (h:∀ v,vof C m cm x=some v→VarOk C T s.heap v c→Q v s):wpAny C.M C.A (eval (.Name x p) C.env) Q E s:=by
 obtain⟨v,hv,hr⟩:=R.var x i c hx hc
 refine wpAny_Name ?_ (notDebug_eq hn)
 have h0:=h v hv hr
 unfold vof at hv
 rcases S.ctx x i hx with hl | ⟨hl,ca,hca⟩
 ·rw [if_pos hl] at hv
  exact wpAny_loadName_local S.kind hl R.ok.ns hv h0
 ·rw [if_neg (by rw [hl];decide)] at hv
  exact wpAny_loadName_cell S.kind hl hca (hv ▸ R.cell x ca hca) h0
end
end Mine

namespace Mine
open PySem PySem.W PySem.Calls PyProof.Rows PyProof.V PySem.Spec
noncomputable def Is (W:Wld) (Φ:Nat→List D→Ev (D×Kd)) (x:X):Prop:=∀ {C:Cx} {K:Ck} {e:PySem.Expr} {σ:Sg} {m cm:Str→Option Value} {T:Addr→Prop} {s:Shared},
 chk x K e=true→Sit C K W Φ→Rel C K m cm T s.heap σ→Good C m (ev Φ x σ) T s e
section
variable {C:Cx} {K:Ck} {W:Wld} {Φ:Nat→List D→Ev (D×Kd)} {m cm:Str→Option Value} {T T':Addr→Prop} {s:Shared} {σ:Sg} {h h':Heap} {e:PySem.Expr}
 {Q:Value→Shared→Prop} {E:Value→Shared→Prop}
theorem ite_post {α:Type} {β:Type} {rel:(Addr→Prop)→Heap→Heap→β→α→Prop} {c:Bool} {f:Ev α} {Q:β→Shared→Prop} (hP:PostG C m rel (if c=true then Option.none else f) T s Q E):c=false∧PostG C m rel f T s Q E:=by
 cases c with
 | true=>exact hP.elim
 | false=>exact⟨rfl,hP⟩
theorem is_bin {o:Bop} {a b:X} (ia:Is W Φ a) (ib:Is W Φ b):Is W Φ (.bin o a b):=by
 intro C K e σ m cm T s hc S R
 refine chk_bin hc fun l r p h1 h2=>?_
 refine .of R.ok (fun Q E hP=>wpAny_BinOp ((ia h1 S R).val _ _ (PostG.bind (Res.old C) hP R.ok fun x v h' tk T' _ k t res ok' hP'=>?_))) rfl
 refine(ib h2 S (R.step S.env k t)).val _ _ (PostG.bind (Res.old C) hP' ok' fun y v2 h2 tk2 T2 _ k2 t2 res2 ok2 hP2=>?_)
 obtain⟨hk,hP3⟩:=ite_post hP2
 rw [Bool.or_eq_false_iff] at hk
 exact bop_ok hP3 ok2 (res.step ok' k2 t2) res2 hk.1 hk.2
theorem is_neg {a:X} (ia:Is W Φ a):Is W Φ (.neg a):=by
 intro C K e σ m cm T s hc S R
 refine chk_neg hc fun l p h1=>?_
 refine .of R.ok (fun Q E hP=>wpAny_UnaryOp ((ia h1 S R).val _ _ (PostG.bind (Res.old C) hP R.ok fun x v h' tk T' _ k t res ok' hP'=>?_))) rfl
 obtain⟨x,kx⟩:=x
 cases x with
 | int i=>
  obtain⟨t,rfl⟩:=(res.any ok').int_inv
  exact neg_int (PostG.pl hP' ok' (.int _ _))
 | _=>exact hP'.elim
theorem is_lit {d:D}:Is W Φ (.lit d):=by
 intro C K e σ m cm T s hc S R
 refine chk_lit hc (fun c k p h1=>?_) fun x p h1 h2 h3=>?_
 ·exact .of R.ok (fun Q E hP=>lit_const h1 R.ok hP) rfl
 ·refine .of R.ok (fun Q E hP=>?_) rfl
  obtain⟨v,hv,hr⟩:=S.gl.const x d h3
  exact glob_ld S R.ok h1 h2 hv (PostG.pl (tk:=s.toks) hP R.ok (hr.mono (fun a ⟨o,ho⟩=>R.ok.bs a o ho) fun a o _ ho=>R.ok.stay a o ho))
theorem is_var {i:Nat}:Is W Φ (.var i):=by
 intro C K e σ m cm T s hc S R
 refine chk_var hc fun x p h1 h2=>?_
 refine .of R.ok (fun Q E hP=>?_) rfl
 change Post C m (match σ i with
  | some ⟨d,false⟩=>Ev.ok (d,.pl)
  | some ⟨d,true⟩=>Ev.ok (d,.bo)
  | Option.none=>Option.none) T s Q E at hP
 cases hs:σ i with
 | none=>rw [hs] at hP;exact hP.elim
 | some c=>
  rw [hs] at hP
  refine name_ld S.env R h1 h2 hs fun v _ hv=>?_
  cases hv with
  | pl r=>exact PostG.pl (tk:=s.toks) hP R.ok r
  | own ta hn ho r=>exact hP _ s.heap s.toks T (Kx.refl R.ok.ns) (R.ok.keep (Kx.refl R.ok.ns)) (.bo hn ho r)
theorem truthy_ok {x:D×Kd} {v:Value} {b:Bool} {h₀:Heap} {R:Bool→Shared→Prop} (o:Ok C m T s.heap) (res:Res C T h₀ s.heap v x) (hb:asB x.1=some b) (h:R b s):wpAny C.M C.A (truthy v) R E s:=by
 obtain⟨x,kx⟩:=x
 have hx:=asB_some hb
 dsimp only at hx
 subst hx
 have:=(res.any o).bool_inv
 subst this
 exact wpAny_truthy_bool h
theorem bool_ok {x:D×Kd} {v:Value} {b:Bool} {h₀ h:Heap} (o:Ok C m T h) (res:Res C T h₀ h v x) (hb:asB x.1=some b):v=.bool b:=by
 obtain⟨x,kx⟩:=x
 have hx:=asB_some hb
 dsimp only at hx
 subst hx
 exact(res.any o).bool_inv
theorem post_tst {α β:Type} {rel:(Addr→Prop)→Heap→Heap→β→α→Prop} {Q:β→Shared→Prop} {r:Ev (D×Kd)} {f:Bool→Ev α} {R:Bool→Shared→Prop} (hold:Older rel)
  (hP:PostG C m rel (r.bind fun x=>(Ev.of (asB x.1)).bind f) T s Q E) (o:Ok C m T s.heap)
  (h:∀ b h' tk T',Kx C m s.heap h'→TExt T s.heap T' h'→Ok C m T' h'→PostG C m rel (f b) T' { s with heap:=h',toks:=tk } Q E→R b { s with heap:=h',toks:=tk }):
  Post C m (tst r) T s (fun v s'=>∀ b,v=.bool b→R b s') E:=by
 match r,hP with
 | some (.ok x),hP=>
  obtain⟨b,hb,hP'⟩:=PostG.of_some (o:=asB x.1) (f:=f) hP
  have e:tst (some (.ok x))=Ev.ok (.bool b,.pl):=by
   show(Ev.of (asB x.1)).bind _=_
   rw [hb];rfl
  rw [e]
  intro v h' tk T' k t res b' hv
  have hb':=bool_ok (x:=(D.bool b,Kd.pl)) (o.step k t) res rfl
  rw [hb'] at hv
  cases hv
  exact h b h' tk T' k t (o.step k t) (PostG.step hold hP' o k t)
 | some .bad,hP=>exact hP
theorem tst_bool (b:Bool):tst (Ev.ok (.bool b,.pl))=Ev.ok (.bool b,.pl):=rfl
theorem post_bool {b:Bool} {R:Bool→Shared→Prop} (hP:Post C m (Ev.ok (.bool b,.pl)) T s (fun v s'=>∀ b,v=.bool b→R b s') E) (o:Ok C m T s.heap):R b s:=
 PostG.pl (Q:=fun v s'=>∀ b,v=.bool b→R b s') (tk:=s.toks) hP o (.bool b) b rfl
theorem is_not {a:X} (ia:Is W Φ a):Is W Φ (.not a):=by
 intro C K e σ m cm T s hc S R
 refine chk_not hc fun l p h1=>?_
 refine⟨fun Q E hP=>?_,fun R' E hP=>?_⟩
 ·refine wpAny_UnaryOp ((ia h1 S R).val _ _ (PostG.bind (Res.old C) hP R.ok fun x v h' tk T' _ k t res ok' hP'=>?_))
  obtain⟨b,hb,hP'⟩:=hP'.of_some
  exact not_of (truthy_ok ok' res hb (PostG.pl (tk:=tk) hP' ok' (.bool _)))
 ·refine wpAny_isTrue_Not ((ia h1 S R).tst _ _ ?_)
  have e:tst (ev Φ (.not a) σ)=(ev Φ a σ).bind fun x=>(Ev.of (asB x.1)).bind fun r=>Ev.ok (.bool (!r),.pl):=by
   show tst ((ev Φ a σ).bind _)=_
   rw [tst_bind];congr 1;funext x;rw [tst_of];rfl
  rw [e] at hP
  exact post_tst (Res.old C) hP R.ok fun b h' tk T' k t ok' hP'=>post_bool hP' ok'
theorem is_ite {c a b:X} (ic:Is W Φ c) (ia:Is W Φ a) (ib:Is W Φ b):Is W Φ (.ite c a b):=by
 intro C K e σ m cm T s hc S R
 refine chk_ite hc fun t x y p h1 h2 h3=>?_
 refine⟨fun Q E hP=>wpAny_IfExp ((ic h1 S R).tst _ _ ?_),fun R' E hP=>PyProof.Rows.isTrue_IfExp ((ic h1 S R).tst _ _ ?_)⟩
 ·refine post_tst (Res.old C) hP R.ok fun q h' tk T' k t ok' hP'=>?_
  cases q with
  | true=>exact(ia h2 S (R.step S.env k t)).val _ _ hP'
  | false=>exact(ib h3 S (R.step S.env k t)).val _ _ hP'
 ·have e:tst (ev Φ (.ite c a b) σ)=(ev Φ c σ).bind fun x=>(Ev.of (asB x.1)).bind fun r=>tst (if r then ev Φ a σ else ev Φ b σ):=by
   show tst ((ev Φ c σ).bind _)=_
   rw [tst_bind];congr 1;funext x;rw [tst_of]
  rw [e] at hP
  refine post_tst (Res.old C) hP R.ok fun q h' tk T' k t ok' hP'=>?_
  cases q with
  | true=>exact(ia h2 S (R.step S.env k t)).tst _ _ hP'
  | false=>exact(ib h3 S (R.step S.env k t)).tst _ _ hP'
theorem is_and {a b:X} (ia:Is W Φ a) (ib:Is W Φ b):Is W Φ (.and a b):=by
 intro C K e σ m cm T s hc S R
 refine chk_and hc fun x r p y h1 h2 hr=>?_
 have hval:∀ Q E,Post C m (ev Φ (.and a b) σ) T s Q E→wpAny C.M C.A (eval (.BoolOp .And (x :: r) p) C.env) Q E s:=fun Q E hP=>by
  have hr':∃ e2 rest,r=e2 :: rest:=by
   rcases hr with rfl | ⟨_,hl⟩
   ·exact⟨_,_,rfl⟩
   ·cases r with
    | nil=>cases hl
    | cons=>exact⟨_,_,rfl⟩
  have hey:eval (.BoolOp .And r p) C.env=eval y C.env:=by
   rcases hr with rfl | ⟨⟨p',rfl,rfl⟩,_⟩
   ·rfl
   ·rfl
  obtain⟨e2,rest,rfl⟩:=hr'
  refine BoolOp_and ((ia h1 S R).val _ _ (PostG.bind (Res.old C) hP R.ok fun x v h' tk T' _ k t res ok' hP'=>?_))
  obtain⟨q,hb,hP'⟩:=hP'.of_some
  refine truthy_ok ok' res hb ?_
  have hv:=bool_ok ok' res hb
  cases q with
  | false=>rw [hv];exact PostG.pl (tk:=tk) hP' ok' (.bool _)
  | true=>
   show wpAny C.M C.A (eval (.BoolOp .And (e2 :: rest) p) C.env) Q E _
   rw [hey]
   refine(ib h2 S (R.step S.env k t)).val _ _ (PostG.bind (Res.old C) hP' ok' fun z v2 h2 tk2 T2 _ k2 t2 res2 ok2 hP2=>?_)
   obtain⟨q2,hb2,hP2⟩:=hP2.of_some
   rw [bool_ok ok2 res2 hb2]
   exact PostG.pl (tk:=tk2) hP2 ok2 (.bool _)
 refine⟨hval,fun R' E hP=>?_⟩
 have e:tst (ev Φ (.and a b) σ)=(ev Φ a σ).bind fun x=>(Ev.of (asB x.1)).bind fun r=>if r then (tst (ev Φ b σ)) else Ev.ok (.bool false,.pl):=by
  show tst ((ev Φ a σ).bind _)=_
  rw [tst_bind];congr 1;funext x;rw [tst_of];congr 1;funext q
  cases q
  ·rfl
  ·show tst ((ev Φ b σ).bind _)=_
   rw [tst_bind];unfold tst;congr 1;funext y;exact tst_of _ _
 rw [e] at hP
 refine PyProof.Rows.isTrue_and ((ia h1 S R).tst _ _ (post_tst (Res.old C) hP R.ok fun q h' tk T' k t ok' hP'=>?_))
 cases q with
 | false=>exact post_bool hP' ok'
 | true=>
  rcases hr with rfl | ⟨⟨p',rfl,rfl⟩,_⟩
  ·refine PyProof.Rows.isTrue_and ((ib h2 S (R.step S.env k t)).tst _ _ ?_)
   refine(show Post C m (tst (ev Φ b σ)) T' _ _ E→_ from fun z=>?_) hP'
   match hq:tst (ev Φ b σ),z with
   | some (.ok w),z=>
    intro v h2 tk2 T2 k2 t2 res2 b' hb'
    have:=z v h2 tk2 T2 k2 t2 res2 b' hb'
    cases b' with
    | true=>exact PyProof.Rows.isTrue_and_nil this
    | false=>exact this
   | some .bad,z=>exact z
  ·exact(ib h2 S (R.step S.env k t)).tst _ _ hP'
theorem is_or {a b:X} (ia:Is W Φ a) (ib:Is W Φ b):Is W Φ (.or a b):=by
 intro C K e σ m cm T s hc S R
 refine chk_or hc fun x r p y h1 h2 hr=>?_
 have hval:∀ Q E,Post C m (ev Φ (.or a b) σ) T s Q E→wpAny C.M C.A (eval (.BoolOp .Or (x :: r) p) C.env) Q E s:=fun Q E hP=>by
  have hr':∃ e2 rest,r=e2 :: rest:=by
   rcases hr with rfl | ⟨_,hl⟩
   ·exact⟨_,_,rfl⟩
   ·cases r with
    | nil=>cases hl
    | cons=>exact⟨_,_,rfl⟩
  have hey:eval (.BoolOp .Or r p) C.env=eval y C.env:=by
   rcases hr with rfl | ⟨⟨p',rfl,rfl⟩,_⟩
   ·rfl
   ·rfl
  obtain⟨e2,rest,rfl⟩:=hr'
  refine BoolOp_or ((ia h1 S R).val _ _ (PostG.bind (Res.old C) hP R.ok fun x v h' tk T' _ k t res ok' hP'=>?_))
  obtain⟨q,hb,hP'⟩:=hP'.of_some
  refine truthy_ok ok' res hb ?_
  have hv:=bool_ok ok' res hb
  cases q with
  | true=>rw [hv];exact PostG.pl (tk:=tk) hP' ok' (.bool _)
  | false=>
   show wpAny C.M C.A (eval (.BoolOp .Or (e2 :: rest) p) C.env) Q E _
   rw [hey]
   refine(ib h2 S (R.step S.env k t)).val _ _ (PostG.bind (Res.old C) hP' ok' fun z v2 h2 tk2 T2 _ k2 t2 res2 ok2 hP2=>?_)
   obtain⟨q2,hb2,hP2⟩:=hP2.of_some
   rw [bool_ok ok2 res2 hb2]
   exact PostG.pl (tk:=tk2) hP2 ok2 (.bool _)
 refine⟨hval,fun R' E hP=>?_⟩
 have e:tst (ev Φ (.or a b) σ)=(ev Φ a σ).bind fun x=>(Ev.of (asB x.1)).bind fun r=>if r then Ev.ok (.bool true,.pl) else (tst (ev Φ b σ)):=by
  show tst ((ev Φ a σ).bind _)=_
  rw [tst_bind];congr 1;funext x;rw [tst_of];congr 1;funext q
  cases q
  ·show tst ((ev Φ b σ).bind _)=_
   rw [tst_bind];unfold tst;congr 1;funext y;exact tst_of _ _
  ·rfl
 rw [e] at hP
 refine PyProof.Rows.isTrue_or ((ia h1 S R).tst _ _ (post_tst (Res.old C) hP R.ok fun q h' tk T' k t ok' hP'=>?_))
 cases q with
 | true=>exact post_bool hP' ok'
 | false=>
  rcases hr with rfl | ⟨⟨p',rfl,rfl⟩,_⟩
  ·refine PyProof.Rows.isTrue_or ((ib h2 S (R.step S.env k t)).tst _ _ ?_)
   refine(show Post C m (tst (ev Φ b σ)) T' _ _ E→_ from fun z=>?_) hP'
   match hq:tst (ev Φ b σ),z with
   | some (.ok w),z=>
    intro v h2 tk2 T2 k2 t2 res2 b' hb'
    have:=z v h2 tk2 T2 k2 t2 res2 b' hb'
    cases b' with
    | false=>exact PyProof.Rows.isTrue_or_nil this
    | true=>exact this
   | some .bad,z=>exact z
  ·exact(ib h2 S (R.step S.env k t)).tst _ _ hP'
theorem is_cmp {o:Cop} {a b:X} (ia:Is W Φ a) (ib:Is W Φ b):Is W Φ (.cmp o a b):=by
 intro C K e σ m cm T s hc S R
 refine chk_cmp hc fun l r p h1 h2 hm=>?_
 refine⟨fun Q E hP=>wpAny_Compare1 ((ia h1 S R).val _ _ (PostG.bind (Res.old C) hP R.ok fun x v h' tk T' _ k t res ok' hP'=>?_)) hm,fun R' E hP=>wpAny_isTrue_Compare1 ((ia h1 S R).val _ _ ?_) hm⟩
 ·refine(ib h2 S (R.step S.env k t)).val _ _ (PostG.bind (Res.old C) hP' ok' fun y v2 h2 tk2 T2 _ k2 t2 res2 ok2 hP2=>?_)
  obtain⟨q,hb,hP2⟩:=hP2.of_some
  have hu:=S.room
  exact cop_ok hb ((res.step ok' k2 t2).any ok2) (res2.any ok2) (by exact li1 (.n (C.A.units) (.n cLine .o)) (nat_lit 0x1f6a44500058da9114041a3) hu) (PostG.pl (tk:=tk2) hP2 ok2 (.bool _))
 ·have e:tst (ev Φ (.cmp o a b) σ)=ev Φ (.cmp o a b) σ:=by
   show tst ((ev Φ a σ).bind _)=(ev Φ a σ).bind _
   rw [tst_bind];congr 1;funext x;rw [tst_bind];congr 1;funext y;rw [tst_of];rfl
  rw [e] at hP
  refine PostG.bind (Res.old C) hP R.ok fun x v h' tk T' _ k t res ok' hP'=>?_
  refine(ib h2 S (R.step S.env k t)).val _ _ (PostG.bind (Res.old C) hP' ok' fun y v2 h2 tk2 T2 _ k2 t2 res2 ok2 hP2=>?_)
  obtain⟨q,hb,hP2⟩:=hP2.of_some
  have hu:=S.room
  exact cop_ok hb ((res.step ok' k2 t2).any ok2) (res2.any ok2) (by exact li1 (.n (C.A.units) (.n cLine .o)) (nat_lit 0x1f6a44500058da9114041a3) hu) (wpAny_truthy_bool (post_bool hP2 ok2))
theorem is_cmp2 {o1 o2:Cop} {a b c:X} (ia:Is W Φ a) (ib:Is W Φ b) (ic:Is W Φ c):Is W Φ (.cmp2 o1 o2 a b c):=by
 intro C K e σ m cm T s hc S R
 refine chk_cmp2 hc fun l r1 r2 p h1 h2 h3 hm=>?_
 have hu:=S.room
 refine⟨fun Q E hP=>Compare_chain ((ia h1 S R).val _ _ (PostG.bind (Res.old C) hP R.ok fun x v h' tk T' _ k t res ok' hP'=>?_)) (by simpa [lastMarks] using hm),fun R' E hP=>PyProof.Rows.isTrue_chain ((ia h1 S R).val _ _ ?_) (by simpa [lastMarks] using hm)⟩
 ·refine chain_link ((ib h2 S (R.step S.env k t)).val _ _ (PostG.bind (Res.old C) hP' ok' fun y v2 h2 tk2 T2 _ k2 t2 res2 ok2 hP2=>?_))
  obtain⟨q,hb,hP2⟩:=hP2.of_some
  refine cop_ok hb ((res.step ok' k2 t2).any ok2) (res2.any ok2) (by exact li1 (.n (C.A.units) (.n cLine .o)) (nat_lit 0x1f6a44500058da9114041a3) hu) (wpAny_truthy_bool ?_)
  cases q with
  | false=>exact PostG.pl (tk:=tk2) hP2 ok2 (.bool _)
  | true=>
   refine chain_last ((ic h3 S ((R.step S.env k t).step S.env k2 t2)).val _ _ (PostG.bind (Res.old C) hP2 ok2 fun z v3 h3 tk3 T3 _ k3 t3 res3 ok3 hP3=>?_))
   obtain⟨q3,hb3,hP3⟩:=hP3.of_some
   exact cop_ok hb3 ((res2.step ok2 k3 t3).any ok3) (res3.any ok3) (by exact li1 (.n (C.A.units) (.n cLine .o)) (nat_lit 0x1f6a44500058da9114041a3) hu) (PostG.pl (tk:=tk3) hP3 ok3 (.bool _))
 ·have e:tst (ev Φ (.cmp2 o1 o2 a b c) σ)=ev Φ (.cmp2 o1 o2 a b c) σ:=by
   show tst ((ev Φ a σ).bind _)=(ev Φ a σ).bind _
   rw [tst_bind];congr 1;funext x;rw [tst_bind];congr 1;funext y;rw [tst_of];congr 1;funext q
   cases q
   ·rfl
   ·show tst ((ev Φ c σ).bind _)=(ev Φ c σ).bind _
    rw [tst_bind];congr 1;funext z;rw [tst_of];rfl
  rw [e] at hP
  refine PostG.bind (Res.old C) hP R.ok fun x v h' tk T' _ k t res ok' hP'=>?_
  refine test_link ((ib h2 S (R.step S.env k t)).val _ _ (PostG.bind (Res.old C) hP' ok' fun y v2 h2 tk2 T2 _ k2 t2 res2 ok2 hP2=>?_))
  obtain⟨q,hb,hP2⟩:=hP2.of_some
  refine cop_ok hb ((res.step ok' k2 t2).any ok2) (res2.any ok2) (by exact li1 (.n (C.A.units) (.n cLine .o)) (nat_lit 0x1f6a44500058da9114041a3) hu) (wpAny_truthy_bool ?_)
  cases q with
  | false=>exact post_bool hP2 ok2
  | true=>
   refine test_last ((ic h3 S ((R.step S.env k t).step S.env k2 t2)).val _ _ (PostG.bind (Res.old C) hP2 ok2 fun z v3 h3 tk3 T3 _ k3 t3 res3 ok3 hP3=>?_))
   obtain⟨q3,hb3,hP3⟩:=hP3.of_some
   exact cop_ok hb3 ((res2.step ok2 k3 t3).any ok3) (res3.any ok3) (by exact li1 (.n (C.A.units) (.n cLine .o)) (nat_lit 0x1f6a44500058da9114041a3) hu) (wpAny_truthy_bool (post_bool hP3 ok3))
theorem is_idx {a b:X} (ia:Is W Φ a) (ib:Is W Φ b):Is W Φ (.idx a b):=by
 intro C K e σ m cm T s hc S R
 refine chk_idx hc fun v i p h1 h2=>?_
 refine .of R.ok (fun Q E hP=>Subscript_ ((ia h1 S R).val _ _ (PostG.bind (Res.old C) hP R.ok fun x v h' tk T' _ k t res ok' hP'=>?_))) rfl
 refine(ib h2 S (R.step S.env k t)).val _ _ (PostG.bind (Res.old C) hP' ok' fun y v2 h2 tk2 T2 _ k2 t2 res2 ok2 hP2=>?_)
 obtain⟨hk,hP3⟩:=ite_post hP2
 obtain⟨d,hd,hP3⟩:=hP3.of_some
 exact sub_ok hd hP3 ok2 (res.step ok' k2 t2) res2 hk
theorem part_ok {x:X} (ix:Is W Φ x) {oe:Option PySem.Expr} (hc:chkO x K oe=true) (S:Sit C K W Φ) (R:Rel C K m cm T s.heap σ) {f:D×Kd→Ev (D×Kd)} {Q':Value→Shared→Prop}
  (hP:Post C m ((ev Φ x σ).bind f) T s Q E)
  (h:∀ z v h' tk T',Kx C m s.heap h'→TExt T s.heap T' h'→Rd C.N h' v z.1→Ok C m T' h'→Post C m (f z) T' { s with heap:=h',toks:=tk } Q E→Q' v { s with heap:=h',toks:=tk }):
  wpAny C.M C.A (evalPart oe C.env) Q' E s:=by
 rcases chkO_inv hc with ⟨rfl,rfl⟩ | ⟨e,rfl,hc2⟩
 ·rw [evalPart_none]
  exact wpAny_pure (h (.none,.pl) .none s.heap s.toks T (Kx.refl R.ok.ns) (R.ok.keep (Kx.refl R.ok.ns)) .none R.ok hP)
 ·rw [evalPart_some]
  exact(ix hc2 S R).val _ _ (PostG.bind (Res.old C) hP R.ok fun z v h' tk T' _ k t res ok' hP'=>h z v h' tk T' k t (res.any ok') ok' hP')
theorem is_slc {a lo hi:X} (ia:Is W Φ a) (il:Is W Φ lo) (ih:Is W Φ hi):Is W Φ (.slc a lo hi):=by
 intro C K e σ m cm T s hc S R
 refine chk_slc hc fun v l u p p' h1 h2 h3=>?_
 refine .of R.ok (fun Q E hP=>Subscript_ ((ia h1 S R).val _ _ (PostG.bind (Res.old C) hP R.ok fun x v h' tk T' _ k t res ok' hP'=>wpAny_Slice ?_))) rfl
 have R1:=R.step S.env k t
 refine part_ok il h2 S R1 hP' fun y v2 h2 tk2 T2 k2 t2 n2 ok2 hP2=>?_
 have R2:=R1.step S.env k2 t2
 refine part_ok ih h3 S R2 hP2 fun z v3 h3 tk3 T3 k3 t3 n3 ok3 hP3=>?_
 rw [evalPart_none]
 refine wpAny_pure ?_
 obtain⟨hk,hP4⟩:=ite_post hP3
 obtain⟨r,hr,hP4⟩:=hP4.of_some'
 have kp:Kx C m h3 (h3.push { cls:=.type "slice",data:=.fields #[v2,v3,.none] }):=Kx.push ok3.ns _
 have tp:=ok3.keep kp
 exact slc_ok hr (PostG.step (Res.old C) (tk:=tk3) hP4 ok3 kp tp) (ok3.step kp tp) (((res.step ok' k2 t2).step ok2 k3 t3).step ok3 kp tp) ((n2.stepN k3).stepN kp) (n3.stepN kp) hk (Heap.get?_push_size _ rfl)
theorem chk_star {x:X} {K:Ck} {a:PySem.Expr} {p:Pos}:chk x K (.Starred a p)=false:=by cases x <;> rfl
theorem star_of {C:Cx} {K:Ck} {e:PySem.Expr} {x:X} (hc:chk x K e=true) (rest:List PySem.Expr):starEach (e :: rest) C.env=(false,eval e C.env) :: starEach rest C.env:=by
 cases e with
 | Starred a p=>exact ff (chk_star.symm.trans hc)
 | _=>rfl
theorem is_fn1 {f:Fn} {a:X} (ia:Is W Φ a):Is W Φ (.fn1 f a):=by
 intro C K e σ m cm T s hc S R
 refine chk_fn1 hc fun p e1 p' h1 h2 h3=>?_
 refine .of R.ok (fun Q E hP=>?_) rfl
 have fin:∀ Q':List Value→Shared→Prop,(∀ x v h' tk T',Kx C m s.heap h'→TExt T s.heap T' h'→Res C T' s.heap h' v x→Ok C m T' h'→Post C m ((Ev.of (fn1 f x.1)).bind fun r=>Ev.ok (r,.pl)) T' { s with heap:=h',toks:=tk } Q E→Q' [v] { s with heap:=h',toks:=tk })→
   wpAny C.M C.A (spliced (backTo p' (starEach [e1] C.env))) Q' E s:=fun Q' hq=>by
  rw [star_of (C:=C) h3 []]
  exact spliced_cons ((ia h3 S R).val _ _ (PostG.bind (Res.old C) hP R.ok fun x v h' tk T' _ k t res ok' hP'=>spliced_nil (hq x v h' tk T' k t res ok' hP')))
 have es:=star_of (C:=C) h3 []
 refine Call_ ?_
 cases f with
 | len=>
  refine blt_ld (v:=.builtin "len") S R.ok h1 h2 (by decide) (callWith_builtin1 (fin _ fun x v h' tk T' k t res ok' hP'=>?_) es)
  obtain⟨d,hd,hP'⟩:=hP'.of_some
  exact fn1_len hd hP' ok' (res.any ok')
 | str=>
  refine blt_ld (v:=.type "str") S R.ok h1 h2 (by decide) (PyProof.Rows.callWith_type1 (fin _ fun x v h' tk T' k t res ok' hP'=>?_) es)
  obtain⟨d,hd,hP'⟩:=hP'.of_some
  exact fn1_str hd hP' ok' (res.any ok')
 | sum=>
  refine blt_ld (v:=.builtin "sum") S R.ok h1 h2 (by decide) (callWith_builtin1 (fin _ fun x v h' tk T' k t res ok' hP'=>?_) es)
  obtain⟨d,hd,hP'⟩:=hP'.of_some
  exact fn1_sum hd hP' ok' (res.any ok') S.hand
 | min=>
  refine blt_ld (v:=.builtin "min") S R.ok h1 h2 (by decide) (callWith_builtin1 (fin _ fun x v h' tk T' k t res ok' hP'=>?_) es)
  obtain⟨d,hd,hP'⟩:=hP'.of_some
  exact nomatch (show(Option.none:Option D)=some d from hd)
 | max=>
  refine blt_ld (v:=.builtin "max") S R.ok h1 h2 (by decide) (callWith_builtin1 (fin _ fun x v h' tk T' k t res ok' hP'=>?_) es)
  obtain⟨d,hd,hP'⟩:=hP'.of_some
  exact nomatch (show(Option.none:Option D)=some d from hd)
end
end Mine

namespace Mine
open PySem PySem.W PySem.Calls PyProof.Rows PyProof.V PySem.Spec
theorem Rd.liv {T:Addr→Prop} {h:Heap} {v:Value} {d:D} (r:Rd T h v d):Rd (fun a=>T a∧∃ o,h.get? a=some o) h v d:=
 @Rd.rec T h (fun v d _=>Rd (fun a=>T a∧∃ o,h.get? a=some o) h v d) (fun vs ds _=>RdAll (fun a=>T a∧∃ o,h.get? a=some o) h vs ds) .none .bool .int .str (fun ta ho hc hd _ r=>.tup ⟨ta,_,ho⟩ ho hc hd r) (fun ta ho hc hd hx _ r=>.lst ⟨ta,_,ho⟩ ho hc hd hx r) .nil (fun _ _ a b=>.cons a b) v d r
theorem RdAll.liv {T:Addr→Prop} {h:Heap} {vs:List Value} {ds:List D} (r:RdAll T h vs ds):RdAll (fun a=>T a∧∃ o,h.get? a=some o) h vs ds:=
 r.ind .nil fun hd _ q=>.cons hd.liv q
theorem Rd.up {T T':Addr→Prop} {h:Heap} {v:Value} {d:D} (x:Rd T h v d) (ht:∀ a,T a→T' a):Rd T' h v d:=x.mono ht fun _ _ _ e=>e
theorem RdAll.up {T T':Addr→Prop} {h:Heap} {v:List Value} {d:List D} (x:RdAll T h v d) (ht:∀ a,T a→T' a):RdAll T' h v d:=x.mono ht fun _ _ _ e=>e
section
variable {α β γ δ:Type} {C:Cx} {m:Str→Option Value} {T T':Addr→Prop} {s:Shared} {Q:β→Shared→Prop} {Q':δ→Shared→Prop} {E:Value→Shared→Prop}
 {rel:(Addr→Prop)→Heap→Heap→β→α→Prop} {rel':(Addr→Prop)→Heap→Heap→δ→γ→Prop}
theorem PostG.bind0 {r:Ev γ} {f:γ→Ev α} (hP:PostG C m rel (r.bind f) T s Q E) (o:Ok C m T s.heap)
  (h:∀ x v h' tk T',r=some (.ok x)→Kx C m s.heap h'→TExt T s.heap T' h'→rel' T' s.heap h' v x→Ok C m T' h'→PostG C m rel (f x) T s Q E→Q' v { s with heap:=h',toks:=tk }):
  PostG C m rel' r T s Q' E:=by
 match r,hP,h with
 | some (.ok x),hP,h=>exact fun v h' tk T' k t res=>h x v h' tk T' rfl k t res (o.step k t) hP
 | some .bad,hP,_=>exact hP
theorem PostG.bind1 {r:Ev γ} {f:γ→Ev α} {h':Heap} {tk:Nat} (hP:PostG C m rel (r.bind f) T s Q E) (o:Ok C m T' h') (k:Kx C m s.heap h')
  (h:∀ x v h2 tk2 T2,r=some (.ok x)→Kx C m h' h2→TExt T' h' T2 h2→rel' T2 h' h2 v x→Ok C m T2 h2→PostG C m rel (f x) T s Q E→Q' v { s with heap:=h2,toks:=tk2 }):
  PostG C m rel' r T' { s with heap:=h',toks:=tk } Q' E:=by
 match r,hP,h with
 | some (.ok x),hP,h=>exact fun v h2 tk2 T2 k2 t2 res=>h x v h2 tk2 T2 rfl k2 t2 res (o.step k2 t2) hP
 | some .bad,hP,_=>exact fun e s' x=>hP e s' (x.step k)
end
section
variable {C:Cx} {K:Ck} {W:Wld} {Φ:Nat→List D→Ev (D×Kd)} {m cm:Str→Option Value} {T T':Addr→Prop} {s:Shared} {σ:Sg} {h h' h₀:Heap} {e:PySem.Expr}
 {Q:Value→Shared→Prop} {E:Value→Shared→Prop}
theorem Res.frz {v:Value} {x:D×Kd} {d:D} (res:Res C T' h₀ h v x) (t:TExt T h₀ T' h) (hx:frz x=some d):∃ T2,(∀ a,T' a→T2 a)∧TExt T h₀ T2 h∧Rd T2 h v d:=by
 cases res with
 | pl r=>cases hx;exact⟨T',fun _ q=>q,t,r⟩
 | @fr a vs n ds ta hn hf ho r=>
  cases hx
  exact⟨fun b=>T' b∨b=a,fun _ q=>.inl q,⟨fun b q=>.inl (t.up b q),fun b q=>q.elim (t.new b) fun e=>.inr (e ▸ hf),fun b q=>q.elim (t.live b) fun e=>⟨_,e ▸ ho⟩⟩,
   .lst (.inr rfl) ho rfl rfl rfl (r.up fun _ q=>.inl q)⟩
 | bo=>cases hx
 | tr=>cases hx
theorem ResAll.frz {vs:List Value} {xs:List (D×Kd)} (res:ResAll C T' h₀ h vs xs) (t:TExt T h₀ T' h):∀ {ds:List D},xs.mapM Mine.frz=some ds→∃ T2,(∀ a,T' a→T2 a)∧TExt T h₀ T2 h∧RdAll T2 h vs ds:=by
 induction res generalizing T with
 | nil=>intro ds hx;simp at hx;subst hx;exact⟨T',fun _ q=>q,t,.nil⟩
 | @cons v vs x xs rx _ ih=>
  intro ds hx
  rw [List.mapM_cons] at hx
  simp only [Option.bind_eq_bind,Option.bind_eq_some_iff] at hx
  obtain⟨d,hd,ds',hds,hx⟩:=hx
  cases hx
  obtain⟨T2,u2,t2,r2⟩:=ih t hds
  have rx2:∃ T3,(∀ a,T2 a→T3 a)∧TExt T h₀ T3 h∧Rd T3 h v d:=by
   cases rx with
   | pl r=>cases hd;exact⟨T2,fun _ q=>q,t2,r.up u2⟩
   | @fr a vs n ds ta hn hf ho r=>
    cases hd
    exact⟨fun b=>T2 b∨b=a,fun _ q=>.inl q,⟨fun b q=>.inl (t2.up b q),fun b q=>q.elim (t2.new b) fun e=>.inr (e ▸ hf),fun b q=>q.elim (t2.live b) fun e=>⟨_,e ▸ ho⟩⟩,
     .lst (.inr rfl) ho rfl rfl rfl (r.up fun _ q=>.inl (u2 _ q))⟩
   | bo=>cases hd
   | tr=>cases hd
  obtain⟨T3,u3,t3,r3⟩:=rx2
  exact⟨T3,fun a q=>u3 a (u2 a q),t3,.cons r3 (r2.up u3)⟩
theorem ResAll.any {vs:List Value} {xs:List (D×Kd)} (res:ResAll C T h₀ h vs xs) (o:Ok C m T h):RdAll C.N h vs (xs.map (·.1)):=by
 induction res with
 | nil=>exact .nil
 | cons rx _ ih=>exact .cons (rx.any o) ih
theorem sto_frz:∀ {xs:List (D×Kd)},xs.all (fun x=>x.2.sto)=true→xs.mapM Mine.frz=some (xs.map (·.1))
 | [],_=>rfl
 | (d,k) :: r,h=>by
  simp only [List.all_cons,Bool.and_eq_true] at h
  rw [List.mapM_cons,sto_frz h.2]
  cases k <;> first | rfl | (cases h.1)
noncomputable def IsL (W:Wld) (Φ:Nat→List D→Ev (D×Kd)) (l:List X):Prop:=∀ {C:Cx} {K:Ck} {es:List PySem.Expr} {σ:Sg} {m cm:Str→Option Value} {T:Addr→Prop} {s:Shared} {p:Pos} {Q:List Value→Shared→Prop} {E:Value→Shared→Prop},
 chks l K es=true→Sit C K W Φ→Rel C K m cm T s.heap σ→PostG C m (ResAll C) (evs Φ l σ) T s Q E→wpAny C.M C.A (spliced (backTo p (starEach es C.env))) Q E s
theorem isl_nil:IsL W Φ []:=by
 intro C K es σ m cm T s p Q E hc S R hP
 cases es with
 | nil=>exact spliced_nil (hP [] s.heap s.toks T (Kx.refl R.ok.ns) (R.ok.keep (Kx.refl R.ok.ns)) .nil)
 | cons=>exact ff hc
theorem isl_cons {x:X} {l:List X} (ix:Is W Φ x) (il:IsL W Φ l):IsL W Φ (x :: l):=by
 intro C K es σ m cm T s p Q E hc S R hP
 cases es with
 | nil=>exact ff hc
 | cons e es=>
  have hc:=a2 hc
  refine args_cons ((ix hc.1 S R).val _ _ (PostG.bind0 hP R.ok fun x v h' tk T' _ k t res ok' hP'=>?_)) (star_of hc.1 es)
  have hl:=ns_live R.ok.ns
  refine il hc.2 S (R.step S.env k t) (PostG.bind1 hP' ok' k fun xs vs h2 tk2 T2 _ k2 t2 res2 ok2 hP2=>?_)
  exact hP2 (v :: vs) h2 tk2 T2 (k.trans k2) (t.trans t2 k hl) (.cons (res.step ok' k2 t2) (ResAll.old C _ _ _ _ _ _ (fun a e=>k.live e hl) res2))
theorem big_len {es:List PySem.Expr} {l:List X} (hc:chks l K es=true):l.length=es.length:=by
 induction l generalizing es with
 | nil=>
  cases es with
  | nil=>rfl
  | cons=>exact ff hc
 | cons x l ih=>
  cases es with
  | nil=>exact ff hc
  | cons e es=>exact congrArg (· + 1) (ih (a2 hc).2)
theorem ResAll.length {vs:List Value} {xs:List (D×Kd)} (res:ResAll C T h₀ h vs xs):vs.length=xs.length:=by
 induction res with
 | nil=>rfl
 | cons _ _ ih=>simp [ih]
theorem evs_len:∀ {l:List X} {xs:List (D×Kd)},evs Φ l σ=some (.ok xs)→xs.length=l.length
 | [],xs,h=>by cases h;rfl
 | x :: l,xs,h=>by
  rw [evs] at h
  cases hx:ev Φ x σ with
  | none=>rw [hx] at h;cases h
  | some o=>
   cases o with
   | bad=>rw [hx] at h;cases h
   | ok a=>
    rw [hx] at h
    cases hl:evs Φ l σ with
    | none=>rw [hl] at h;cases h
    | some o2=>
     cases o2 with
     | bad=>rw [hl] at h;cases h
     | ok ys=>rw [hl] at h;cases h;simp [evs_len hl]
theorem is_tup {l:List X} (il:IsL W Φ l):Is W Φ (.tup l):=by
 intro C K e σ m cm T s hc S R
 refine chk_tup hc fun es k p hz h1=>?_
 refine .of R.ok (fun Q E hP=>Tuple_ (il h1 S R (PostG.bind0 hP R.ok fun xs vs h' tk T' hx k t res ok' hP'=>?_))) rfl
 obtain⟨ds,hd,hP'⟩:=hP'.of_some
 obtain⟨T2,u2,t2,r2⟩:=res.frz t hd
 have ok2:=R.ok.step k t2
 refine wpAny_newTuple ?_ ?_
 ·have kp:Kx C m h' (h'.push { cls:=.type "tuple",data:=.seq vs.toArray }):=Kx.push ok'.ns _
  have hP2:=PostG.step (Res.old C) (tk:=tk) hP' R.ok k t2
  refine hP2.newT ok2 (none_size _) kp (Heap.get?_push_size _ rfl) rfl rfl ?_
  simpa using r2.mono (fun _ q=>q) fun a _ ta e=>kp.at (ok2.sub a ta) e
 ·rw [res.length,evs_len hx,big_len h1,sizeLine_eq];exact li1 (.n (es.length) .o) (nat_lit 0x1f65000000000006365020e0e3) hz
theorem is_lst {l:List X} (il:IsL W Φ l):Is W Φ (.lst l):=by
 intro C K e σ m cm T s hc S R
 refine chk_lst hc fun es p hz h1=>?_
 refine .of R.ok (fun Q E hP=>List_ (il h1 S R (PostG.bind0 hP R.ok fun xs vs h' tk T' hx k t res ok' hP'=>?_))) rfl
 obtain⟨ds,hd,hP'⟩:=hP'.of_some
 obtain⟨T2,u2,t2,r2⟩:=res.frz t hd
 have ok2:=R.ok.step k t2
 refine wpAny_newList ?_ ?_
 ·have kp:Kx C m h' (h'.push { cls:=.type "list",data:=.seq vs.toArray }):=Kx.push ok'.ns _
  have hP2:=PostG.step (Res.old C) (tk:=tk) hP' R.ok k t2
  refine hP2.newL ok2 (none_size _) kp (Heap.get?_push_size _ rfl) ?_
  simpa using r2.mono (fun _ q=>q) fun a _ ta e=>kp.at (ok2.sub a ta) e
 ·rw [res.length,evs_len hx,big_len h1,sizeLine_eq];exact li1 (.n (es.length) .o) (nat_lit 0x1f65000000000006365020e0e3) hz
theorem is_fn2 {f:Fn} {a b:X} (ia:Is W Φ a) (ib:Is W Φ b):Is W Φ (.fn2 f a b):=by
 intro C K e σ m cm T s hc S R
 refine chk_fn2 hc fun p e1 e2 p' h1 h2 h3 h4=>?_
 refine .of R.ok (fun Q E hP=>?_) rfl
 have fin:∀ Q':List Value→Shared→Prop,(∀ x y v v2 h' tk T',Kx C m s.heap h'→TExt T s.heap T' h'→Res C T' s.heap h' v x→Res C T' s.heap h' v2 y→Ok C m T' h'→Post C m ((Ev.of (fn2 f x.1 y.1)).bind fun r=>Ev.ok (r,.pl)) T' { s with heap:=h',toks:=tk } Q E→Q' [v,v2] { s with heap:=h',toks:=tk })→
   wpAny C.M C.A (spliced (backTo p' (starEach [e1,e2] C.env))) Q' E s:=fun Q' hq=>by
  refine args_cons ((ia h3 S R).val _ _ (PostG.bind (Res.old C) hP R.ok fun x v h' tk T' _ k t res ok' hP'=>?_)) (star_of h3 _)
  refine args_cons ((ib h4 S (R.step S.env k t)).val _ _ (PostG.bind (Res.old C) hP' ok' fun y v2 h2 tk2 T2 _ k2 t2 res2 ok2 hP2=>args_nil ?_)) (star_of h4 _)
  have hl:=ns_live R.ok.ns
  exact hq x y v v2 h2 tk2 T2 (k.trans k2) (t.trans t2 k hl) (res.step ok' k2 t2) (res2.older fun a e=>k.live e hl) ok2 hP2
 have es:=star_of (C:=C) h3 [e2]
 have pl:(backTo p' (starEach [e2] C.env)).any (·.1)=false:=by rw [star_of (C:=C) h4 []];rfl
 refine Call_ ?_
 cases f with
 | min=>
  refine blt_ld (v:=.builtin "min") S R.ok h1 h2 (by decide) (callWith_builtin1 (fin _ fun x y v v2 h' tk T' k t res res2 ok' hP'=>?_) es pl)
  obtain⟨d,hd,hP'⟩:=hP'.of_some
  exact fn2_min hd hP' ok' (res.any ok') (res2.any ok') S.hand
 | max=>
  refine blt_ld (v:=.builtin "max") S R.ok h1 h2 (by decide) (callWith_builtin1 (fin _ fun x y v v2 h' tk T' k t res res2 ok' hP'=>?_) es pl)
  obtain⟨d,hd,hP'⟩:=hP'.of_some
  exact fn2_max hd hP' ok' (res.any ok') (res2.any ok') S.hand
 | len=>
  refine blt_ld (v:=.builtin "len") S R.ok h1 h2 (by decide) (callWith_builtin1 (fin _ fun x y v v2 h' tk T' k t res res2 ok' hP'=>?_) es pl)
  obtain⟨d,hd,hP'⟩:=hP'.of_some
  exact nomatch (show(Option.none:Option D)=some d from hd)
 | sum=>
  refine blt_ld (v:=.builtin "sum") S R.ok h1 h2 (by decide) (callWith_builtin1 (fin _ fun x y v v2 h' tk T' k t res res2 ok' hP'=>?_) es pl)
  obtain⟨d,hd,hP'⟩:=hP'.of_some
  exact nomatch (show(Option.none:Option D)=some d from hd)
 | str=>
  refine blt_ld (v:=.type "str") S R.ok h1 h2 (by decide) (PyProof.Rows.callWith_type1 (fin _ fun x y v v2 h' tk T' k t res res2 ok' hP'=>?_) es pl)
  obtain⟨d,hd,hP'⟩:=hP'.of_some
  exact nomatch (show(Option.none:Option D)=some d from hd)
theorem base_of {o:PySem.Expr} {name:Str} {env:Env} (h:noCall o=true):attributeBase o name env (eval o env)=eval o env:=by
 cases o <;> first | rfl | (cases h)
theorem ite_post' {α:Type} {β:Type} {rel:(Addr→Prop)→Heap→Heap→β→α→Prop} {c:Bool} {f:Ev α} {Q:β→Shared→Prop} (hP:PostG C m rel (if c=true then f else Option.none) T s Q E):c=true∧PostG C m rel f T s Q E:=by
 cases c with
 | false=>exact hP.elim
 | true=>exact⟨rfl,hP⟩
theorem is_mth {f:Mt} {a b:X} (ia:Is W Φ a) (ib:Is W Φ b):Is W Φ (.mth f a b):=by
 intro C K e σ m cm T s hc S R
 refine chk_mth hc fun o ap e1 p h1 h2 h3 h4=>?_
 refine .of R.ok (fun Q E hP=>?_) rfl
 have es:=star_of (C:=C) h4 []
 have hfew:((backTo p (starEach [e1] C.env)).all (fun x=>!x.1) && (backToKw p (keywordEach [] C.env)).all (fun x=>x.1.isSome)
   && decide (([e1]:List PySem.Expr).length + ([]:List Keyword).length + (if ([]:List Keyword).isEmpty then 0 else 1) < 30))=true:=by rw [es];rfl
 have fin:∀ {x:D×Kd} {v:Value} {h' tk T'} {id:String},Kx C m s.heap h'→TExt T s.heap T' h'→Res C T' s.heap h' v x→Ok C m T' h'→Post C m ((ev Φ b σ).bind fun y=>Ev.of (mth f x.1 y.1)) T' { s with heap:=h',toks:=tk } Q E→
   (∀ {y:D} {v2:Value} {h2 tk2 T2 r},mth f x.1 y=some r→Post C m (Ev.ok r) T2 { s with heap:=h2,toks:=tk2 } Q E→Ok C m T2 h2→Rd C.N h2 v x.1→Rd C.N h2 v2 y→wpAny C.M C.A (call (.builtin id) [v,v2]) Q E { s with heap:=h2,toks:=tk2 })→
   wpAny C.M C.A (callWith p (.builtin id) [v] (backTo p (starEach [e1] C.env)) []) Q E { s with heap:=h',toks:=tk }:=fun k t res ok' hP' hq=>by
  refine callWith_method1 (args_cons ((ib h4 S (R.step S.env k t)).val _ _ (PostG.bind (Res.old C) hP' ok' fun y v2 h2 tk2 T2 _ k2 t2 res2 ok2 hP2=>args_nil ?_)) es) es
  obtain⟨r,hr,hP3⟩:=hP2.of_some'
  exact hq hr hP3 ok2 ((res.step ok' k2 t2).any ok2) (res2.any ok2)
 have hP0:Post C m ((ev Φ a σ).bind fun x=>if rcv f x.1 then (ev Φ b σ).bind fun y=>Ev.of (mth f x.1 y.1) else Option.none) T s Q E:=hP
 cases f with
 | find=>
  refine wpAny_Call_method (base_of h2) hfew h1 F.plainAttrs_str F.slot_str_find F.type_str_find ((ia h3 S R).val _ _ (PostG.bind (Res.old C) hP0 R.ok fun x v h' tk T' _ k t res ok' hP'=>?_))
  obtain⟨hr,hP'⟩:=ite_post' hP'
  obtain⟨x,kx⟩:=x
  cases x with
  | str x=>
   obtain⟨y,ty,rfl,ey,ky⟩:=(res.any ok').str_inv
   exact⟨typeIs_str _ _ _,(fun a e=>nomatch e),fin k t res ok' hP' fun hr hP3 ok2 n1 n2=>mth_find hr hP3 ok2 n1 n2⟩
  | _=>cases hr
 | split=>
  refine wpAny_Call_method (base_of h2) hfew h1 F.plainAttrs_str F.slot_str_split F.type_str_split ((ia h3 S R).val _ _ (PostG.bind (Res.old C) hP0 R.ok fun x v h' tk T' _ k t res ok' hP'=>?_))
  obtain⟨hr,hP'⟩:=ite_post' hP'
  obtain⟨x,kx⟩:=x
  cases x with
  | str x=>
   obtain⟨y,ty,rfl,ey,ky⟩:=(res.any ok').str_inv
   exact⟨typeIs_str _ _ _,(fun a e=>nomatch e),fin k t res ok' hP' fun hr hP3 ok2 n1 n2=>mth_split hr hP3 ok2 n1 n2⟩
  | _=>cases hr
 | join=>
  refine wpAny_Call_method (base_of h2) hfew h1 F.plainAttrs_str F.slot_str_join F.type_str_join ((ia h3 S R).val _ _ (PostG.bind (Res.old C) hP0 R.ok fun x v h' tk T' _ k t res ok' hP'=>?_))
  obtain⟨hr,hP'⟩:=ite_post' hP'
  obtain⟨x,kx⟩:=x
  cases x with
  | str x=>
   obtain⟨y,ty,rfl,ey,ky⟩:=(res.any ok').str_inv
   exact⟨typeIs_str _ _ _,(fun a e=>nomatch e),fin k t res ok' hP' fun hr hP3 ok2 n1 n2=>mth_join hr hP3 ok2 n1 n2⟩
  | _=>cases hr
 | index=>
  refine wpAny_Call_method (base_of h2) hfew h1 F.plainAttrs_list F.slot_list_index F.type_list_index ((ia h3 S R).val _ _ (PostG.bind (Res.old C) hP0 R.ok fun x v h' tk T' _ k t res ok' hP'=>?_))
  obtain⟨hr,hP'⟩:=ite_post' hP'
  obtain⟨x,kx⟩:=x
  cases x with
  | lst x=>
   have n:=res.any ok'
   cases n with
   | lst ta ho hc hd hx r=>
    refine⟨⟨_,ho,hc⟩,fun a e=>?_,fin k t res ok' hP' fun hr hP3 ok2 n1 n2=>mth_index hr hP3 ok2 n1 n2⟩
    cases e
    exact⟨_,ho,hx⟩
  | _=>cases hr
theorem is_call {f:Nat} {l:List X} (il:IsL W Φ l):Is W Φ (.call f l):=by
 intro C K e σ m cm T s hc S R
 refine chk_call hc fun x p args p' h1 h2 h3 h4=>?_
 refine .of R.ok (fun Q E hP=>?_) rfl
 obtain⟨hmg,o,fd,hfo,hfd⟩:=S.gl.fn f x h3
 refine Call_ (glob_ld S R.ok h1 h2 hmg ?_)
 have key:∀ p,wpAny C.M C.A (spliced (backTo p (starEach args C.env))) (fun vs s₁=>s₁.heap.get? (W.fa f)=some o∧wpAny C.M C.A (call (.ref (W.fa f)) vs) Q E s₁) E s:=fun p=>by
  refine il h4 S R (PostG.bind0 hP R.ok fun xs vs h' tk T' hx k t res ok' hP'=>⟨ok'.stay _ _ hfo,?_⟩)
  by_cases hs:xs.all (fun x=>x.2.sto)=true
  ·obtain⟨T2,u2,t2,r2⟩:=res.frz t (sto_frz hs)
   have ok2:=R.ok.step k t2
   rw [hs] at hP'
   refine S.call C.env m T2 _ f _ vs Q E ok2 r2 (PostG.bind1 hP' ok2 k fun r v h2 tk2 T3 _ k2 t3 res3 ok3 hP3=>?_)
   have hl:=ns_live R.ok.ns
   exact hP3 v h2 tk2 T3 (k.trans k2) (t2.trans t3 k hl) (res3.older fun a e=>k.live e hl)
  ·rw [Bool.eq_false_iff.mpr hs] at hP'
   have okN:Ok C m (fun a=>C.N a∧∃ o,h'.get? a=some o) h':=⟨ok'.ns,fun a q=>q.1,ok'.live,ok'.cells,fun a q=>q.2,fun a o e=>⟨ok'.sub a (ok'.bs a o e),ok'.ex a (ok'.bs a o e)⟩,ok'.stay,ok'.fr⟩
   have hl:=ns_live R.ok.ns
   refine S.call C.env m _ _ f _ vs Q E okN (res.any ok').liv (PostG.bind1 hP' okN k fun r v h2 tk2 T3 _ k2 t3 res3 ok3 hP3=>?_)
   have n3:=res3.any ok3
   have o2:=R.ok.step k t
   have q2:=ok'.keep k2
   obtain⟨d,kd⟩:=r
   by_cases hsc:scal d=true
   ·rw [if_neg (by decide),if_pos hsc] at hP3
    refine hP3 v h2 tk2 T' (k.trans k2) (t.trans q2 k hl) (.pl ?_)
    dsimp only at n3
    cases n3 <;> first | exact .none | exact .bool _ | exact .int _ _ | exact .str _ _ _ ‹_› ‹_› | cases hsc
   ·rw [if_neg (by decide),if_neg hsc] at hP3
    exact hP3 v h2 tk2 T' (k.trans k2) (t.trans q2 k hl) (.tr n3)
 cases args with
 | nil=>
  have:=key p'
  refine callWith_function (o:=o) (fd:=fd) (PyProof.Rows.evalArgs_none ?_)
  cases l with
  | cons=>exact ff h4
  | nil=>
   refine⟨⟨R.ok.stay _ _ hfo,hfd⟩,?_⟩
   have hP1:Post C m ((Φ f []).bind fun r=>Ev.ok r) T s Q E:=hP
   refine S.call C.env m T s f [] [] Q E R.ok .nil (PostG.bind0 hP1 R.ok fun r v h2 tk2 T3 _ k2 t3 res3 ok3 hP3=>?_)
   exact hP3 v h2 tk2 T3 k2 t3 res3
 | cons e1 rest=>
  cases l with
  | nil=>exact ff h4
  | cons x1 l=>
   have h4:=a2 h4
   exact callWith_def hfd (key _) (star_of h4.1 rest)
end
end Mine

namespace Mine
open PySem PySem.W PySem.Calls PyProof.Rows PyProof.V PySem.Spec
theorem RdAll.get' {T:Addr→Prop} {h:Heap} {vs:List Value} {ds:List D} {k:Nat} {v:Value} (r:RdAll T h vs ds):vs[k]?=some v→∃ d,ds[k]?=some d∧Rd T h v d:=
 RdAll.ind (P:=fun vs ds=>∀ k v,vs[k]?=some v→∃ d,ds[k]?=some d∧Rd T h v d) (fun k _ e=>by cases k <;> cases e)
  (fun hd _ ih k v e=>by
   cases k with
   | zero=>cases e;exact⟨_,rfl,hd⟩
   | succ k=>exact ih k v e) r k v
section
variable {C:Cx} {K:Ck} {W:Wld} {Φ:Nat→List D→Ev (D×Kd)} {m cm:Str→Option Value} {T T':Addr→Prop} {s:Shared} {σ:Sg} {h h' h₀:Heap} {e:PySem.Expr}
 {Q:Value→Shared→Prop} {E:Value→Shared→Prop}
structure Walk (C:Cx) (m:Str→Option Value) (T:Addr→Prop) (h:Heap) (ds:List D) (I:Addr) (h':Heap) (fp:List Addr) (P:Nat→Value→Prop) (St:Nat→Heap→Prop):Prop where
 new:h.get? I=none
 walks:Walks C.prog C.w C.A I fp [I] ds.length P St
 st:St 0 h'
 kx:Kx C m h h'
 here:∀ i h,St i h→∃ o,h.get? I=some o
 nm:∀ i h,St i h→∀ o,h.get? I=some o→∃ n,o.cls=.type n∧n ∈ ["list_iterator", "tuple_iterator", "str_ascii_iterator", "range_iterator"]
 fp:∀ b ∈ fp,b=I∨(C.N b∧∃ o,h.get? b=some o)
 item:∀ i v,P i v→∃ d,ds[i]?=some d∧Rd T h v d
theorem iter_ok {v:Value} {d:D} {k:Kd} {ds:List D} (res:Res C T h₀ s.heap v (d,k)) (hk:k.isTr=false) (hd:items d=some ds) (ok:Ok C m T s.heap) (hh:C.A.handled=none)
  (hq:∀ I fp P St h',Walk C m T s.heap ds I h' fp P St→(k=.pl→∀ b ∈ fp,b=I∨T b)→Q (.ref I) { s with heap:=h' }):wpAny C.M C.A (pyIter v) Q E s:=by
 have n:=res.any ok
 cases d with
 | lst l=>
  obtain⟨a,o,vs,nn,rfl,ho,hc,hdat,r⟩:=res.items hk
  simp only [items] at hd
  split at hd
  ·cases hd
   have hN:C.N a:=by cases n with | lst ta=>exact ta
   have hTa:k=.pl→T a:=by rintro rfl;cases res with | pl q=>cases q with | lst ta=>exact ta
   have hl:s.heap.IsList a vs:=⟨_,ho,hc,_,hdat⟩
   have hne:a≠s.heap.objs.size:=Nat.ne_of_lt (Heap.lt_size ho)
   have hsz:vs.size=ds.length:=by rw [← r.length];simp
   refine wpAny_pyIter_list hl (hq _ [s.heap.objs.size,a] (fun i v=>vs[i]?=some v) (fun i h=>h.IsListIter s.heap.objs.size a i∧h.IsList a vs) _ ⟨none_size _,hsz ▸ Walks.list hh _ _ hne vs,⟨⟨_,Heap.get?_push_size _ rfl,rfl,rfl⟩,hl.push _⟩,Kx.push ok.ns _,fun i h st=>(let ⟨o,ho,_⟩:=st.1;⟨o,ho⟩),fun i h st o ho=>(by obtain⟨o',ho',hc',_⟩:=st.1;rw [ho] at ho';cases ho';exact⟨_,hc',by simp⟩),fun b hb=>?_,fun i v hv=>?_⟩ fun hp b hb=>by
    rcases List.mem_cons.mp hb with rfl | hb
    ·exact .inl rfl
    ·rcases List.mem_cons.mp hb with rfl | hb
     ·exact .inr (hTa hp)
     ·cases hb)
   ·rcases List.mem_cons.mp hb with rfl | hb
    ·exact .inl rfl
    ·rcases List.mem_cons.mp hb with rfl | hb
     ·exact .inr ⟨hN,_,ho⟩
     ·cases hb
   ·exact r.get' (by simpa using hv)
  ·cases hd
 | tup l=>
  obtain⟨a,o,vs,nn,rfl,ho,hc,hdat,r⟩:=res.itemsT hk
  simp only [items] at hd
  split at hd
  ·cases hd
   have hN:C.N a:=by cases n with | tup ta=>exact ta
   have hTa:k=.pl→T a:=by rintro rfl;cases res with | pl q=>cases q with | tup ta=>exact ta
   have hl:s.heap.IsTuple a vs:=⟨_,ho,hc,_,hdat⟩
   have hne:a≠s.heap.objs.size:=Nat.ne_of_lt (Heap.lt_size ho)
   have hsz:vs.size=ds.length:=by rw [← r.length];simp
   refine wpAny_pyIter_tuple hl (hq _ [s.heap.objs.size,a] (fun i v=>vs[i]?=some v) (fun i h=>h.IsTupleIter s.heap.objs.size a i∧h.IsTuple a vs) _ ⟨none_size _,hsz ▸ Walks.tuple hh _ _ hne vs,⟨⟨_,Heap.get?_push_size _ rfl,rfl,rfl⟩,hl.at fun o e=>Heap.get?_push_of_some _ e⟩,Kx.push ok.ns _,fun i h st=>(let ⟨o,ho,_⟩:=st.1;⟨o,ho⟩),fun i h st o ho=>(by obtain⟨o',ho',hc',_⟩:=st.1;rw [ho] at ho';cases ho';exact⟨_,hc',by simp⟩),fun b hb=>?_,fun i v hv=>?_⟩ fun hp b hb=>by
    rcases List.mem_cons.mp hb with rfl | hb
    ·exact .inl rfl
    ·rcases List.mem_cons.mp hb with rfl | hb
     ·exact .inr (hTa hp)
     ·cases hb)
   ·rcases List.mem_cons.mp hb with rfl | hb
    ·exact .inl rfl
    ·rcases List.mem_cons.mp hb with rfl | hb
     ·exact .inr ⟨hN,_,ho⟩
     ·cases hb
   ·exact r.get' (by simpa using hv)
  ·cases hd
 | str l=>
  obtain⟨y,t,rfl,ey,ky⟩:=n.str_inv
  simp only [items] at hd
  split at hd
  ·rename_i hl
   cases hd
   have ha:y.cps.all (· < 128)=true:=by rw [← Array.all_toList,ey];exact hl.2
   have hsz:y.cps.size=(l.map fun c=>D.str [c]).length:=by rw [← Array.length_toList,ey];simp
   refine wpAny_pyIter_ascii ha (hq _ [s.heap.objs.size] (SignAt y) (fun i h=>h.IsStrIter s.heap.objs.size "str_ascii_iterator" y t i) _ ⟨none_size _,hsz ▸ Walks.strAscii hh _ y t,⟨_,Heap.get?_push_size _ rfl,rfl,rfl⟩,Kx.push ok.ns _,fun i h st=>(let ⟨o,ho,_⟩:=st;⟨o,ho⟩),fun i h st o ho=>(by obtain⟨o',ho',hc',_⟩:=st;rw [ho] at ho';cases ho';exact⟨_,hc',by simp⟩),fun b hb=>.inl (by simpa using hb),fun i v hv=>?_⟩ fun _ b hb=>.inl (by simpa using hb))
   obtain⟨c,u,hc,rfl⟩:=hv
   have hc':l[i]?=some c:=by rw [← ey];simpa using hc
   refine⟨.str [c],by simp [hc'],.str _ _ _ rfl (strOk_iff.mpr fun c' hc2=>?_)⟩
   have:c'=c:=by simpa using hc2
   subst this
   exact strOk_iff.mp ky _ (by rw [ey];exact List.mem_of_getElem? hc')
  ·cases hd
 | _=>cases hd
theorem range_ok {r:Addr} {a b:Int} {t u w':Tok} {ds:List D} (hr:IsRange s.heap r a b 1 t u w') (hd:rangeD a b=some ds) (ok:Ok C m T s.heap) (hh:C.A.handled=none)
  (hq:∀ I fp P St h',Walk C m T s.heap ds I h' fp P St→(∀ b ∈ fp,b=I∨T b)→Q (.ref I) { s with heap:=h' }):wpAny C.M C.A (pyIter (.ref r)) Q E s:=by
 unfold rangeD at hd
 split at hd
 ·rename_i hl
  cases hd
  refine wpAny_pyIter_range hr (small_one (by omega) (by omega) (by omega) (by omega)) ?_
  have e:Builtin.Range.rangeSize a b 1=((b - a).toNat:Int):=by
   rw [rangeSize_one]
   split;exact li2 (.z b (.z a (.n ((b - a).toNat) .o))) (nat_lit 0x7df61595292375c6d00255d00129237184a48d59564a48d00178e4) (show a < b by assumption) (ltn (b - a));exact li2 (.n ((b - a).toNat) (.z a (.z b .o))) (nat_lit 0x7df6158d001d71b4008d74004a495c612925563592925400797964) (show ¬a < b by assumption) (ltn (b - a))
  rw [e]
  refine hq _ [s.heap.objs.size] (fun i v=>(i < (b - a).toNat)∧∃ t,v=.int (a + i * 1) t) (fun i h=>IsRangeIter h s.heap.objs.size (a + (i:Nat) * 1) (((b - a).toNat:Int) - (i:Nat)) 1) _
   ⟨none_size _,?_,?_,Kx.push ok.ns _,fun i h st=>⟨_,st⟩,fun i h st o ho=>(by rw [show h.get? s.heap.objs.size=_ from st] at ho;cases ho;exact⟨_,rfl,by simp⟩),fun b hb=>.inl (by simpa using hb),fun i v hv=>?_⟩ fun b hb=>.inl (by simpa using hb)
  ·have w:=Walks.range (prog:=C.prog) (w:=C.w) (A:=C.A) hh s.heap.objs.size a 1 (b - a).toNat
   have el:(List.map (fun (k:Nat)=>D.int (a + (k:Int))) (List.range (b - a).toNat)).length=(b - a).toNat:=by simp
   rw [el]
   exact⟨w.sub,w.frame,fun i s Q E hi st hQ=>w.item i s Q E hi st fun v h' tk hv=>hQ v h' tk ⟨hi,hv⟩,w.done,w.self⟩
  ·show Heap.get? _ _=_
   rw [Heap.get?_push_size _ rfl]
   simp
  ·obtain⟨hi,t,rfl⟩:=hv
   refine⟨.int (a + i),?_,by rw [Int.mul_one];exact .int _ _⟩
   simp [hi]
 ·cases hd
noncomputable def clGo (env:Env):List (Str×NameKind)→List (Str×Addr)→List (Str×Addr)
 | [],cs=>cs
 | (n,k) :: r,cs=>clGo env r (if k == .free then (n,(env.cells.lookup n).getD 0) :: cs else cs)
theorem clos_eq {scope:Scope} {env:Env} (h:∀ p ∈ scope.names,p.2=.free→∃ c,env.cells.lookup p.1=some c):closureFor scope env=pure (clGo env scope.names []):=by
 unfold closureFor
 generalize scope.names=ns at h
 generalize ([]:List (Str×Addr))=cs
 induction ns generalizing cs with
 | nil=>rfl
 | cons p r ih=>
  obtain⟨n,k⟩:=p
  have ih':=fun cs=>ih (fun q hq=>h q (.tail _ hq)) cs
  rw [clGo,← ih']
  simp only [List.forIn_cons]
  by_cases hk:k=.free
  ·obtain⟨c,hc⟩:=h (n,k) (.head _) hk
   dsimp only at hc
   subst hk
   simp [cellOf,hc]
  ·have:(k == NameKind.free)=false:=by cases k <;> first | rfl | exact absurd rfl hk
   simp [this]
theorem cl_prop {env:Env}:∀ {ns:List (Str×NameKind)} {cs:List (Str×Addr)},(∀ p ∈ ns,p.2=.free→∃ c,env.cells.lookup p.1=some c)→(∀ p ∈ cs,env.cells.lookup p.1=some p.2)→∀ p ∈ clGo env ns cs,env.cells.lookup p.1=some p.2
 | [],_,_,hc,p,hp=>hc p hp
 | (n,k) :: r,cs,h,hc,p,hp=>by
  rw [clGo] at hp
  refine cl_prop (fun q hq=>h q (.tail _ hq)) (fun q hq=>?_) p hp
  split at hq
  ·rename_i hk
   obtain⟨c,hcc⟩:=h (n,k) (.head _) (by simpa using hk)
   rcases List.mem_cons.mp hq with rfl | hq
   ·dsimp only at hcc ⊢;rw [hcc];rfl
   ·exact hc q hq
  ·exact hc q hq
theorem cl_sub {env:Env} {q:Str×Addr}:∀ {ns:List (Str×NameKind)} {cs:List (Str×Addr)},q ∈ cs→q ∈ clGo env ns cs
 | [],_,h=>h
 | (n,k) :: r,cs,h=>by
  rw [clGo]
  refine cl_sub ?_
  split
  ·exact .tail _ h
  ·exact h
theorem cl_mem {env:Env} {n:Str} {ns:List (Str×NameKind)} {cs:List (Str×Addr)} (h:(n,NameKind.free) ∈ ns):(n,(env.cells.lookup n).getD 0) ∈ clGo env ns cs:=by
 induction ns generalizing cs with
 | nil=>cases h
 | cons p r ih=>
  obtain⟨n',k⟩:=p
  rw [clGo]
  rcases List.mem_cons.mp h with h | h
  ·cases h
   exact cl_sub (.head _)
  ·exact ih h
theorem lookup_some_of {α:Type} {n:Str} {c:α}:∀ {l:List (Str×α)},(n,c) ∈ l→∃ c',l.lookup n=some c'
 | (k,v) :: r,h=>by
  rw [List.lookup_cons]
  cases hb:n == k with
  | true=>exact⟨_,rfl⟩
  | false=>
   rcases List.mem_cons.mp h with h | h
   ·cases h;simp at hb
   ·exact lookup_some_of h
theorem lookup_relabel {env:Env} {x:Str}:∀ {names:List (Str×NameKind)},(names.map fun (n,k)=>if (k == NameKind.free && env.scope.kind == .function && env.kindOf n == some .cell) then (n,NameKind.cell) else (n,k)).lookup x=
  (names.lookup x).map fun k=>if (k == NameKind.free && env.scope.kind == .function && env.kindOf x == some .cell) then .cell else k
 | []=>rfl
 | (n,k) :: r=>by
  show List.lookup x ((if (k == NameKind.free && env.scope.kind == .function && env.kindOf n == some .cell)=true then (n,NameKind.cell) else (n,k)) :: _)=_
  cases hx:x == n with
  | true=>
   have:x=n:=by simpa using hx
   subst this
   by_cases hc:(k == NameKind.free && env.scope.kind == .function && env.kindOf x == some .cell)=true
   ·rw [if_pos hc];simp only [List.lookup_cons,hx,Option.map_some];rw [if_pos hc]
   ·rw [if_neg hc];simp only [List.lookup_cons,hx,Option.map_some];rw [if_neg hc]
  | false=>
   by_cases hc:(k == NameKind.free && env.scope.kind == .function && env.kindOf n == some .cell)=true
   ·rw [if_pos hc];simp only [List.lookup_cons,hx];exact lookup_relabel
   ·rw [if_neg hc];simp only [List.lookup_cons,hx];exact lookup_relabel
end
end Mine

namespace Mine
open PySem PySem.W PySem.Calls PyProof.Rows PyProof.V PySem.Spec
noncomputable def compF (Φ:Nat→List D→Ev (D×Kd)) (elt:X) (v:Nat) (cond:X) (σ:Sg) (d:D):Ev (Option D):=
 (if isNon cond then Ev.ok true else (ev Φ cond (upd σ v ⟨d,false⟩)).bind fun c=>Ev.of (asB c.1)).bind fun ok=>
    if ok then (ev Φ elt (upd σ v ⟨d,false⟩)).bind fun r=>(Ev.of (frz r)).bind fun y=>Ev.ok (some y) else Ev.ok Option.none
theorem bind_okI {α β:Type} {m:Ev α} {f:α→Ev β} {b:β} (h:m.bind f=some (.ok b)):∃ a,m=some (.ok a)∧f a=some (.ok b):=by
 match m,h with
 | some (.ok a),h=>exact⟨a,rfl,h⟩
theorem of_okI {α:Type} {m:Option α} {b:α} (h:Ev.of m=some (.ok b)):m=some b:=by
 cases m with
 | none=>cases h
 | some a=>cases h;rfl
theorem compGo_cons {f:D→Ev (Option D)} {d:D} {ds ys:List D} (h:compGo f (d :: ds)=some (.ok ys)):∃ o r,f d=some (.ok o)∧compGo f ds=some (.ok r)∧ys=(match o with | some x=>x :: r | Option.none=>r):=by
 rw [compGo] at h
 obtain⟨o,ho,h⟩:=bind_okI h
 obtain⟨r,hr,h⟩:=bind_okI h
 cases h
 exact⟨o,r,ho,hr,rfl⟩
theorem compF_inv {Φ:Nat→List D→Ev (D×Kd)} {elt:X} {v:Nat} {cond:X} {σ:Sg} {d:D} {o:Option D} (h:compF Φ elt v cond σ d=some (.ok o)):
  ∃ b:Bool,(isNon cond=true∧b=true∨isNon cond=false∧∃ c,ev Φ cond (upd σ v ⟨d,false⟩)=some (.ok c)∧asB c.1=some b)∧
   (b=true∧(∃ r y,ev Φ elt (upd σ v ⟨d,false⟩)=some (.ok r)∧frz r=some y∧o=some y)∨b=false∧o=Option.none):=by
 unfold compF at h
 obtain⟨b,hb,h⟩:=bind_okI h
 refine⟨b,?_,?_⟩
 ·cases hc:isNon cond with
  | true=>rw [hc] at hb;cases hb;exact .inl ⟨rfl,rfl⟩
  | false=>
   rw [hc] at hb
   obtain⟨c,hc1,hb⟩:=bind_okI hb
   exact .inr ⟨rfl,c,hc1,of_okI hb⟩
 ·cases b with
  | true=>
   obtain⟨r,hr,h⟩:=bind_okI h
   obtain⟨y,hy,h⟩:=bind_okI h
   cases h
   exact .inl ⟨rfl,r,y,hr,of_okI hy,rfl⟩
  | false=>cases h;exact .inr ⟨rfl,rfl⟩
theorem ifs_ok {K:Ck} {cond:X} {l:List PySem.Expr} (h:(match l with
  | []=>isNon cond
  | c :: r=>on0 r (!isNon cond && chk cond K c))=true):(l=[]∧isNon cond=true)∨∃ c,l=[c]∧isNon cond=false∧chk cond K c=true:=by
 cases l with
 | nil=>exact .inl ⟨rfl,h⟩
 | cons c r=>
  refine on0_ok (P:=fun r=>(c :: r=[]∧isNon cond=true)∨∃ c',c :: r=[c']∧isNon cond=false∧chk cond K c'=true) h fun h=>?_
  exact .inr ⟨c,rfl,nt (a2 h).1,(a2 h).2⟩
theorem rng_ok {K:Ck} {rng:Bool} {it:X} {iter:PySem.Expr} (h:(match rng with
  | true=>onNC iter fun y args=>on1 args fun i=>y == ("range" : Str) && (K.glb "range" && (notDebug "range" && chk it K i))
  | false=>chk it K iter)=true):(rng=true∧∃ py i p',iter=.Call (.Name "range" py) [i] [] p'∧K.glb "range" = true∧notDebug "range" = true∧chk it K i=true)∨(rng=false∧chk it K iter=true):=by
 cases rng with
 | false=>exact .inr ⟨rfl,h⟩
 | true=>
  refine .inl ⟨rfl,onNC_ok (P:=fun iter=>∃ py i p',iter=.Call (.Name "range" py) [i] [] p'∧K.glb "range" = true∧notDebug "range" = true∧chk it K i=true) h fun y py args p' h=>?_⟩
  refine on1_ok (P:=fun args=>∃ py' i p'',PySem.Expr.Call (.Name y py) args [] p'=.Call (.Name "range" py') [i] [] p''∧K.glb "range" = true∧notDebug "range" = true∧chk it K i=true) h fun i h=>?_
  refine eqq (P:=fun y=>∃ py' i' p'',PySem.Expr.Call (.Name y py) [i] [] p'=.Call (.Name "range" py') [i'] [] p''∧K.glb "range" = true∧notDebug "range" = true∧chk it K i'=true) h fun h=>?_
  exact⟨py,i,p',rfl,(a2 h).1,a2 (a2 h).2⟩
theorem chk_comp {P:PySem.Expr→Prop} {K:Ck} {e:PySem.Expr} {elt:X} {v:Nat} {rng:Bool} {it cond:X} (h:chk (.comp elt v rng it cond) K e=true) (k:∀ e1 x px iter ifs scope p,
  compScope K scope x v=true→chk elt (K.inner scope x v) e1=true→noSet iter=true→
  ((rng=true∧∃ py i p',iter=.Call (.Name "range" py) [i] [] p'∧K.glb "range" = true∧notDebug "range" = true∧chk it K i=true)∨(rng=false∧chk it K iter=true))→
  ((ifs=[]∧isNon cond=true)∨∃ c,ifs=[c]∧isNon cond=false∧chk cond (K.inner scope x v) c=true)→P (.ListComp e1 [⟨.Name x px,iter,ifs,0⟩] scope p)):P e:=
 onListComp_ok h fun e1 _ scope p h=>on1_ok (P:=fun gens=>P (.ListComp e1 gens scope p)) h fun ⟨_,iter,ifs,as⟩ h=>onName_ok (P:=fun tg=>P (.ListComp e1 [⟨tg,iter,ifs,as⟩] scope p)) h fun x px h=>
  eqq (P:=fun as=>P (.ListComp e1 [⟨.Name x px,iter,ifs,as⟩] scope p)) h fun h=>k e1 x px iter ifs scope p (a2 h).1 (a2 (a2 h).2).1 (a2 (a2 (a2 h).2).2).1 (rng_ok (a2 (a2 (a2 (a2 h).2).2).2).1) (ifs_ok (a2 (a2 (a2 (a2 h).2).2).2).2)
noncomputable def CompE (K:Ck) (elt:X) (v:Nat) (rng:Bool) (it cond:X) (e:PySem.Expr):Prop:=∃ e1 x px iter ifs scope p,e=.ListComp e1 [⟨.Name x px,iter,ifs,0⟩] scope p∧
  compScope K scope x v=true∧chk elt (K.inner scope x v) e1=true∧noSet iter=true∧
  ((rng=true∧∃ py i p',iter=.Call (.Name "range" py) [i] [] p'∧K.glb "range" = true∧notDebug "range" = true∧chk it K i=true)∨(rng=false∧chk it K iter=true))∧
  ((ifs=[]∧isNon cond=true)∨∃ c,ifs=[c]∧isNon cond=false∧chk cond (K.inner scope x v) c=true)
theorem chk_compE {K:Ck} {e:PySem.Expr} {elt:X} {v:Nat} {rng:Bool} {it cond:X} (h:chk (.comp elt v rng it cond) K e=true):CompE K elt v rng it cond e:=
 chk_comp h fun e1 x px iter ifs scope p h1 h2 h3 h4 h5=>⟨e1,x,px,iter,ifs,scope,p,rfl,h1,h2,h3,h4,h5⟩
noncomputable def Cx.inn (C:Cx) (scope:Scope) (cl:List (Str×Addr)) (A:Addr):Cx:={ C with env:=compEnvC scope cl A C.env }
section
variable {C:Cx} {K:Ck} {W:Wld} {Φ:Nat→List D→Ev (D×Kd)} {m m' cm:Str→Option Value} {T T':Addr→Prop} {s:Shared} {σ:Sg} {h h' h₀:Heap} {e:PySem.Expr}
 {Q:Value→Shared→Prop} {E:Value→Shared→Prop} {scope:Scope} {x:Str} {v:Nat} {A:Addr}
structure ScopeOk (K:Ck) (scope:Scope) (x:Str) (v:Nat):Prop where
 kind:scope.kind=.function
 cell:∀ p ∈ scope.names,p.2≠.cell
 loc:∀ p ∈ scope.names,p.2=.local→scope.names.lookup p.1=some .local
 free:∀ p ∈ scope.names,p.2=.free→K.cel p.1=true∧scope.names.lookup p.1=some .free
 self:scope.names.lookup x=some .local
 far:∀ y i,(K.inner scope x v).ctx.tail.lookup y=some i→i≠v∧y≠x∧K.ctx.lookup y=some i∧(y,NameKind.free) ∈ scope.names
theorem scope_ok (hc:compScope K scope x v=true):ScopeOk K scope x v:=by
 unfold compScope at hc
 simp only [Bool.and_eq_true,List.all_eq_true,beq_iff_eq,Bool.or_eq_true,bne_iff_ne,ne_eq] at hc
 obtain⟨⟨⟨h1,h2⟩,h3⟩,h4⟩:=hc
 refine⟨by simpa using h1,fun p hp=>?_,fun p hp hl=>?_,fun p hp hl=>?_,h3,fun y i hy=>?_⟩
 ·have:=(h2 p hp).1.1
  exact this
 ·rcases(h2 p hp).1.2 with q | q
  ·exact absurd hl q
  ·exact q
 ·rcases(h2 p hp).2 with q | q
  ·exact absurd hl q
  ·exact q
 ·have hm:=PySem.mem_of_lookup hy
  obtain⟨q1,q2⟩:=h4 _ hm
  have hm':(y,i) ∈ scope.names.filterMap fun p=>if p.2 == .free then (K.ctx.lookup p.1).map fun i=>(p.1,i) else Option.none:=hm
  obtain⟨p,hp,hpe⟩:=List.mem_filterMap.mp hm'
  split at hpe
  ·rename_i hf
   obtain⟨j,hj,hje⟩:=Option.map_eq_some_iff.mp hpe
   cases hje
   have hf':p.2=.free:=by simpa using hf
   exact⟨q1,q2,hj,by rw [← hf'];exact hp⟩
  ·cases hpe
theorem free_cell (S:EnvOk C K) (O:ScopeOk K scope x v):∀ p ∈ scope.names,p.2=.free→∃ c,C.env.cells.lookup p.1=some c:=fun p hp hf=>(S.cel _ (O.free p hp hf).1).2
theorem cl_lk (S:EnvOk C K) (O:ScopeOk K scope x v) {y:Str} {c:Addr} (hc:(clGo C.env scope.names []).lookup y=some c):C.env.cells.lookup y=some c:=
 cl_prop (free_cell S O) (by intro p hp;cases hp) (y,c) (PySem.mem_of_lookup hc)
theorem env_inn (S:EnvOk C K) (O:ScopeOk K scope x v) (hA:∀ p ∈ C.env.cells,p.2≠A):EnvOk (C.inn scope (clGo C.env scope.names []) A) (K.inner scope x v):=by
 have hk:∀ y,(C.inn scope (clGo C.env scope.names []) A).env.kindOf y=(scope.names.lookup y).map fun k=>if (k == NameKind.free && C.env.scope.kind == .function && C.env.kindOf y == some .cell) then .cell else k:=fun y=>lookup_relabel
 refine⟨O.kind,S.glo,S.blt,fun y i hy=>?_,fun y hy=>?_,fun y hy=>(nomatch hy),fun y z c h1 h2=>S.ap y z c (cl_lk S O h1) (cl_lk S O h2),fun p hp=>hA _ (PySem.mem_of_lookup (cl_prop (free_cell S O) (by intro p hp;cases hp) p hp)),fun y hy=>(by cases hy)⟩
 ·have hy':List.lookup y ((x,v) :: (K.inner scope x v).ctx.tail)=some i:=hy
  rw [List.lookup_cons] at hy'
  split at hy'
  ·rename_i he
   have:y=x:=by simpa using he
   subst this
   rw [hk,O.self]
   exact .inl rfl
  ·obtain⟨h1,h2,h3,h4⟩:=O.far y i hy'
   obtain⟨q1,q2⟩:=O.free _ h4 rfl
   obtain⟨r1,c,r2⟩:=S.cel y q1
   refine .inr ⟨?_,?_⟩
   ·rw [hk,q2,r1,S.kind];rfl
   ·exact lookup_some_of (cl_mem h4)
 ·have:scope.names.lookup y=some .globalImplicit:=by simpa [Ck.inner] using hy
  rw [hk,this];rfl
theorem N_inn (S:EnvOk C K) (O:ScopeOk K scope x v) {a:Addr} (hn:C.N a) (hA:a≠A):(C.inn scope (clGo C.env scope.names []) A).N a:=
 ⟨hA,hn.2.1,fun p hp=>hn.2.2 (p.1,p.2) (PySem.mem_of_lookup (cl_prop (free_cell S O) (by intro p hp;cases hp) p hp))⟩
theorem ok_inn (S:EnvOk C K) (O:ScopeOk K scope x v) (o:Ok C m T h) (hA:¬ T A) (hn:h.Ns A m'):Ok (C.inn scope (clGo C.env scope.names []) A) m' T h:=
 ⟨hn,fun a ha=>N_inn S O (o.sub a ha) (fun e=>hA (e ▸ ha)),o.live,fun p hp=>o.cells (p.1,p.2) (PySem.mem_of_lookup (cl_prop (free_cell S O) (by intro p hp;cases hp) p hp)),o.ex,o.bs,o.stay,o.fr⟩
theorem ns_lobj {a:Addr} {vs:Array Value} {n:Nat} (hn:h.Ns A m') (ho:h.get? a=some (lobj vs n)):a≠A:=by
 rintro rfl
 obtain⟨o,es,ep,e,hd,_⟩:=hn
 rw [ho] at e
 cases e
 cases hd
theorem rel_inn (S:EnvOk C K) (O:ScopeOk K scope x v) (R:Rel C K m cm T h σ) (hA:¬ T A) (hn:h.Ns A m') {val:Value} {d:D} (hm:m' x=some val) (hv:Rd T h val d):
  Rel (C.inn scope (clGo C.env scope.names []) A) (K.inner scope x v) m' cm T h (upd σ v ⟨d,false⟩):=by
 have hk:∀ y,(C.inn scope (clGo C.env scope.names []) A).env.kindOf y=(scope.names.lookup y).map fun k=>if (k == NameKind.free && C.env.scope.kind == .function && C.env.kindOf y == some .cell) then .cell else k:=fun y=>lookup_relabel
 refine⟨ok_inn S O R.ok hA hn,fun y c hc=>R.cell y c (cl_lk S O hc),fun y i c hy hc=>?_⟩
 have hy':List.lookup y ((x,v) :: (K.inner scope x v).ctx.tail)=some i:=hy
 rw [List.lookup_cons] at hy'
 split at hy'
 ·rename_i he
  have:y=x:=by simpa using he
  subst this
  cases hy'
  rw [upd_same] at hc
  cases hc
  refine⟨val,?_,.pl hv⟩
  unfold vof
  rw [hk,O.self]
  exact hm
 ·obtain⟨h1,h2,h3,h4⟩:=O.far y i hy'
  obtain⟨q1,q2⟩:=O.free _ h4 rfl
  obtain⟨r1,cc,r2⟩:=S.cel y q1
  rw [upd_ne _ _ (by simpa using h1)] at hc
  obtain⟨w,hw,hr⟩:=R.var y i c h3 hc
  refine⟨w,?_,?_⟩
  ·unfold vof at hw ⊢
   rw [r1,if_neg (by decide)] at hw
   rw [hk,q2,r1,S.kind,if_neg (by decide)]
   exact hw
  ·cases hr with
   | pl r=>exact .pl r
   | own ta hN ho r=>exact .own ta (N_inn S O hN (ns_lobj hn ho)) ho r
theorem sit_inn (S:Sit C K W Φ) (O:ScopeOk K scope x v) (hA:∀ p ∈ C.env.cells,p.2≠A):Sit (C.inn scope (clGo C.env scope.names []) A) (K.inner scope x v) W Φ:=
 ⟨env_inn S.env O hA,S.gl,S.hand,S.room,S.call⟩
end
end Mine

namespace Mine
open PySem PySem.W PySem.Calls PyProof.Rows PyProof.V PySem.Spec
section
variable {C:Cx} {K:Ck} {W:Wld} {Φ:Nat→List D→Ev (D×Kd)} {m m' cm:Str→Option Value} {T T' Tc:Addr→Prop} {s:Shared} {σ:Sg} {h h' h₀ h2:Heap} {e:PySem.Expr}
 {Q:Value→Shared→Prop} {E:Value→Shared→Prop} {scope:Scope} {x:Str} {v:Nat} {A I:Addr}
theorem Kx.but (k:Kx C m h₀ h) (hn:h.Ns C.L m) (hL:C.L≠I) (hI:h₀.get? I=none) (hk:∀ b o,b≠I→h.get? b=some o→h2.get? b=some o):Kx C m h₀ h2:=
 ⟨hn.at' fun o e=>hk _ o hL e,fun b o hb e=>by
  obtain⟨sl,e1,p1⟩:=k.keep b o hb e
  exact⟨sl,hk _ _ (by rintro rfl;rw [hI] at e;cases e) e1,p1⟩⟩
theorem TExt.but (t:TExt T h₀ Tc h) (hI:¬ Tc I) (hk:∀ b o,b≠I→h.get? b=some o→h2.get? b=some o):TExt T h₀ Tc h2:=
 ⟨t.up,t.new,fun a ha=>by obtain⟨o,ho⟩:=t.live a ha;exact⟨o,hk _ _ (by rintro rfl;exact hI ha) ho⟩⟩
theorem ne_new {a:Addr} (hI:h₀.get? I=none) (ha:∃ o,h₀.get? a=some o):a≠I:=by
 rintro rfl;obtain⟨o,ho⟩:=ha;rw [hI] at ho;cases ho
theorem Kx.outer {scope:Scope} {cl:List (Str×Addr)} (k:Kx C m h₀ h) (k2:Kx (C.inn scope cl A) m' h h2) (hl:∃ o,h₀.get? C.L=some o) (hA:h₀.get? A=none):Kx C m h₀ h2:=by
 have hLA:C.L≠A:=ne_new hA hl
 refine⟨?_,fun b o hb e=>?_⟩
 ·obtain⟨o,es,ep,e,r⟩:=k.ns
  obtain⟨sl,e1,_⟩:=k2.keep C.L o hLA e
  exact⟨_,es,ep,e1,r⟩
 ·obtain⟨sl,e1,p1⟩:=k.keep b o hb e
  have hbA:b≠A:=ne_new hA ⟨_,e⟩
  obtain⟨sl2,e2,p2⟩:=k2.keep b _ hbA e1
  exact⟨sl2,e2,fun hf=>(p2 hf).trans (p1 hf)⟩
inductive Turn (C:Cx) (m:Str→Option Value) (T:Addr→Prop) (h₀:Heap) (G A I:Addr) (F:D→Ev (Option D)) (ds ys:List D) (St:Nat→Heap→Prop) (i:Nat) (h:Heap):Prop
 | mk (le:i≤ds.length) (st:St i h) (kx:Kx C m h₀ h) (m':Str→Option Value) (ns:h.Ns A m') (Tc:Addr→Prop) (vs:Array Value) (n:Nat) (ys1 ys2:List D) (t:TExt T h₀ Tc h) (nG:¬ Tc G) (nA:¬ Tc A) (nI:¬ Tc I)
  (hG:h.get? G=some (lobj vs n)) (r:RdAll Tc h vs.toList ys1) (hgo:compGo F (ds.drop i)=some (.ok ys2)) (hys:ys=ys1 ++ ys2) (hle:ys1.length≤i):Turn C m T h₀ G A I F ds ys St i h
inductive TurnAt (C:Cx) (m:Str→Option Value) (T:Addr→Prop) (s:Shared) (G A I:Addr) (F:D→Ev (Option D)) (ds ys:List D) (St:Nat→Heap→Prop) (k:Nat) (s':Shared):Prop
 | mk (h:Heap) (tk i:Nat) (e1:s'={ s with heap:=h,toks:=tk }) (e2:k=ds.length - i) (t:Turn C m T s.heap G A I F ds ys St i h):TurnAt C m T s G A I F ds ys St k s'
inductive And9 (a b c d e f g h i:Prop):Prop
 | mk (a1:a) (a2:b) (a3:c) (a4:d) (a5:e) (a6:f) (a7:g) (a8:h) (a9:i):And9 a b c d e f g h i
theorem comp_loop {elt cond:X} {e1 iter:PySem.Expr} {px:Pos} {ifs:List PySem.Expr} {p:Pos} {fp:List Addr} {P:Nat→Value→Prop} {St:Nat→Heap→Prop} {h1:Heap} {ds ys:List D} {G:Addr} {R:Result→Shared→Prop}
  (S:Sit C K W Φ) (O:ScopeOk K scope x v) (R0:Rel C K m cm T s.heap σ) (ie:Is W Φ elt) (ic:Is W Φ cond)
  (c1:chk elt (K.inner scope x v) e1=true) (c2:(ifs=[]∧isNon cond=true)∨∃ c,ifs=[c]∧isNon cond=false∧chk cond (K.inner scope x v) c=true)
  (wk:Walk C m T s.heap ds I h1 fp P St) (hsz:ds.length≤big)
  (hG:s.heap.get? G=none) (hA:s.heap.get? A=none) (hGA:G≠A) (hGI:G≠I) (hAI:A≠I)
  {h:Heap} {tk:Nat} (h0:Turn C m T s.heap G A I (compF Φ elt v cond σ) ds ys St 0 h)
  (hR:∀ h' tk T' vs n m',Kx C m s.heap h'→TExt T s.heap T' h'→¬ T' G→¬ T' A→h'.Ns A m'→h'.get? G=some (lobj vs n)→RdAll T' h' vs.toList ys→R (.ok .next) { s with heap:=h',toks:=tk }):
  codeAny C.M C.A (.compLoop (.ListComp e1 [⟨.Name x px,iter,ifs,0⟩] scope p) 0 (.ref I) (.ref G) (C.inn scope (clGo C.env scope.names []) A).env) R { s with heap:=h,toks:=tk }:=by
 have hl:=ns_live R0.ok.ns
 have hLA:C.L≠A:=ne_new hA hl
 have hLI:C.L≠I:=ne_new wk.new hl
 have hcA:∀ p ∈ C.env.cells,p.2≠A:=fun p hp=>ne_new hA (R0.ok.cells p hp)
 have hNG:C.N G:=R0.ok.new hG
 have hNI:C.N I:=R0.ok.new wk.new
 have SI:=sit_inn S O hcA
 have hkx:(C.inn scope (clGo C.env scope.names []) A).env.kindOf x=some .local:=lookup_relabel_local O.self
 have hp:((C.inn scope (clGo C.env scope.names []) A).env.scope.kind == .class || ((C.inn scope (clGo C.env scope.names []) A).env.scope.kind == .module && (C.inn scope (clGo C.env scope.names []) A).env.locals != (C.inn scope (clGo C.env scope.names []) A).env.globals))=false:=by
  show(scope.kind == .class || (scope.kind == .module && _))=false
  rw [O.kind];rfl
 refine codeAny_compLoop_tests (TurnAt C m T s G A I (compF Φ elt v cond σ) ds ys St) ?_ ds.length ⟨h,tk,0,rfl,rfl,h0⟩
 rintro k s' ⟨h,tk,i,rfl,rfl,le,st,kx,m',ns,Tc,vs,n,ys1,ys2,t,nG,nA,nI,hG',r1,hgo,hys,hle⟩
 by_cases hlt:i < ds.length
 ·refine wk.walks.item i _ _ _ hlt st fun val h2 tk2 hv st2 hk2=>?_
  have hk2':∀ b o,b≠I→h.get? b=some o→h2.get? b=some o:=fun b o hb e=>hk2 b o (by simpa using hb) e
  obtain⟨d,hd,rd⟩:=wk.item i val hv
  have kx2:=kx.but kx.ns hLI wk.new hk2'
  have t2:=t.but nI hk2'
  refine wpAny_assign_Name (wpAny_storeName_local hkx (ns.at' fun o e=>hk2' _ o hAI e) (fun h3 ns3 hs3=>?_) hp)
  have hmx:(fun y=>if y=x then some val else m' y) x=some val:=if_pos rfl
  generalize (fun y=>if y=x then some val else m' y)=mi at ns3 hmx
  have hk3:∀ b o,b≠A→h2.get? b=some o→h3.get? b=some o:=hs3.extBut
  have kx3:=kx2.but kx2.ns hLA hA hk3
  have t3:=t2.but nA hk3
  have st3:St (i + 1) h3:=wk.walks.frame _ _ _ st2 fun b hb o e=>hk3 b o (by
   rcases wk.fp b hb with rfl | ⟨_,q⟩
   ·exact Ne.symm hAI
   ·exact ne_new hA q) e
  have hG3:h3.get? G=some (lobj vs n):=hk3 _ _ hGA (hk2' _ _ hGI hG')
  have ok3:=R0.ok.step kx3 t3
  have r3:RdAll Tc h3 vs.toList ys1:=r1.mono (fun _ q=>q) fun a o ta e=>hk3 _ _ (by rintro rfl;exact nA ta) (hk2' _ _ (by rintro rfl;exact nI ta) e)
  have rd3:Rd Tc h3 val d:=rd.step R0.ok kx3 t3
  have Ri:=rel_inn (m':=mi) S.env O (R0.step S.env kx3 t3) nA ns3 hmx rd3
  have hdrop:ds.drop i=d :: ds.drop (i + 1):=by
   rw [List.drop_eq_getElem_cons hlt]
   congr 1
   rw [List.getElem?_eq_getElem hlt] at hd
   cases hd;rfl
  rw [hdrop] at hgo
  obtain⟨o,r,hfo,hgo',hy2⟩:=compGo_cons hgo
  obtain⟨b,hb,ho⟩:=compF_inv hfo
  have io3:=wk.here _ _ st3
  have adv:∀ h5 T5,Kx (C.inn scope (clGo C.env scope.names []) A) mi h3 h5→TExt Tc h3 T5 h5→And9 (Kx C m s.heap h5) (TExt T s.heap T5 h5) (¬ T5 G) (¬ T5 A) (¬ T5 I) (St (i + 1) h5) (h5.Ns A mi) (h5.get? G=some (lobj vs n)) (RdAll T5 h5 vs.toList ys1):=by
   intro h5 T5 k5 t5
   have ko:=kx3.outer k5 hl hA
   refine⟨ko,t3.trans t5 kx3 hl,fun q=>?_,fun q=>?_,fun q=>?_,wk.walks.frame _ _ _ st3 fun b hb o e=>?_,k5.ns,k5.at (N_inn S.env O hNG hGA) hG3,r3.step Ri.ok k5 t5⟩
   ·exact(t5.new _ q).elim nG fun z=>by rw [hG3] at z;cases z
   ·exact(t5.new _ q).elim nA fun z=>by obtain⟨o,ho⟩:=ns_live ns3;rw [show h3.get? A=some o from ho] at z;cases z
   ·exact(t5.new _ q).elim nI fun z=>by obtain⟨o,ho⟩:=io3;rw [ho] at z;cases z
   ·rcases wk.fp b hb with rfl | ⟨q1,q⟩
    ·exact k5.at (N_inn S.env O hNI (Ne.symm hAI)) e
    ·exact k5.at (N_inn S.env O q1 (ne_new hA q)) e
  have tail:∀ h4 tk4 T4,Kx (C.inn scope (clGo C.env scope.names []) A) mi h3 h4→TExt Tc h3 T4 h4→Rel (C.inn scope (clGo C.env scope.names []) A) (K.inner scope x v) mi cm T4 h4 (upd σ v ⟨d,false⟩)→
    (fun (ok:Bool) s₃=>if ok=true then wpAny C.M C.A (eval e1 (C.inn scope (clGo C.env scope.names []) A).env) (fun x s₄=>
       wpAny C.M C.A (call (.builtin "list.append") [.ref G,x]) (fun _ s₅=>∃ m₁,m₁ < ds.length - i∧TurnAt C m T s G A I (compF Φ elt v cond σ) ds ys St m₁ s₅)
        (notedBy C.M C.A (C.inn scope (clGo C.env scope.names []) A).env fun e s'=>R (.error e) s') s₄) (notedBy C.M C.A (C.inn scope (clGo C.env scope.names []) A).env fun e s'=>R (.error e) s') s₃
      else ∃ m₁,m₁ < ds.length - i∧TurnAt C m T s G A I (compF Φ elt v cond σ) ds ys St m₁ s₃) b { s with heap:=h4,toks:=tk4 }:=by
   intro h4 tk4 T4 k4 t4 R4
   rcases ho with ⟨rfl,rr,y,hr,hy,rfl⟩ | ⟨rfl,rfl⟩
   ·rw [if_pos rfl]
    refine(ie c1 SI R4).val _ _ ?_
    rw [hr]
    intro v5 h5 tk5 T5 k5 t5 res5
    obtain⟨T6,u6,t6,r6⟩:=res5.frz t5 hy
    have hl3:=ns_live ns3
    obtain⟨a1,a2,a3,a4,a5,a6,a7,a8,a9⟩:=adv h5 T6 (k4.trans k5) (t4.trans t6 k4 hl3)
    have hvs:vs.size=ys1.length:=by rw [← a9.length];simp
    refine wpAny_list_append_plain ⟨n,a8⟩ (fun h6 hp6 hs6=>?_) (by rw [hvs,sizeLine_eq];rw [big] at hsz;exact li3 (.n (ys1.length) (.n (ds.length) (.n i .o))) (nat_lit 0x7df7d94000000000018da9256658d9400000000064) hsz hle hlt)
    obtain⟨n6,hp6⟩:=hp6
    have hk6:∀ b o,b≠G→h5.get? b=some o→h6.get? b=some o:=hs6.extBut
    refine⟨ds.length - (i + 1),by exact li3 (.n (ds.length - (i + 1)) (.n (ds.length - i) (.n i (.n (ds.length) .o)))) (nat_lit 0x7df7da92375c6d00246a599c6e64659199a575c6d002369140196671b9914500658d999140195a9a5) hlt (lsn (ds.length) (i + 1)) (lsn (ds.length) (i)),h6,tk5,i + 1,rfl,rfl,hlt,wk.walks.frame _ _ _ a6 fun b hb o e=>hk6 _ o ?_ e,a1.but a1.ns (ne_new hG hl) hG hk6,mi,a7.at' fun o e=>hk6 _ o (Ne.symm hGA) e,T6,vs.push v5,n6,ys1 ++ [y],r,a2.but a3 hk6,a3,a4,a5,hp6,?_,hgo',?_,?_⟩
    ·rcases wk.fp b hb with rfl | ⟨_,q⟩
     ·exact Ne.symm hGI
     ·exact ne_new hG q
    ·rw [Array.toList_push]
     exact(a9.append (.cons r6 .nil)).mono (fun _ q=>q) fun a o ta e=>hk6 _ o (by rintro rfl;exact a3 ta) e
    ·rw [hys,hy2];simp
    ·simp;exact li1 (.n (ys1.length) (.n i .o)) (nat_lit 2157760583971) hle
   ·rw [if_neg (by decide)]
    obtain⟨a1,a2,a3,a4,a5,a6,a7,a8,a9⟩:=adv h4 T4 k4 t4
    exact⟨ds.length - (i + 1),by exact li3 (.n (ds.length - (i + 1)) (.n (ds.length - i) (.n i (.n (ds.length) .o)))) (nat_lit 0x7df7da92375c6d00246a599c6e64659199a575c6d002369140196671b9914500658d999140195a9a5) hlt (lsn (ds.length) (i + 1)) (lsn (ds.length) (i)),h4,tk4,i + 1,rfl,rfl,hlt,a6,a1,mi,a7,T4,vs,n,ys1,r,a2,a3,a4,a5,a8,a9,hgo',by rw [hys,hy2],by exact li1 (.n (ys1.length) (.n i .o)) (nat_lit 0x7d94500648d9923) hle⟩
  rcases c2 with ⟨rfl,hnc⟩ | ⟨c,rfl,hnc,hcc⟩
  ·rcases hb with ⟨_,rfl⟩ | ⟨q,_⟩
   ·exact wpAny_tests_nil (tail h3 _ Tc (Kx.refl ns3) (Ri.ok.keep (Kx.refl ns3)) Ri)
   ·rw [hnc] at q;cases q
  ·rcases hb with ⟨q,_⟩ | ⟨_,cr,hcr,hcb⟩
   ·rw [hnc] at q;cases q
   ·refine wpAny_tests_one ((ic hcc SI Ri).tst _ _ ?_)
    have et:tst (ev Φ cond (upd σ v ⟨d,false⟩))=Ev.ok (.bool b,.pl):=by
     unfold tst
     rw [hcr]
     show(Ev.of (asB cr.1)).bind _=_
     rw [hcb];rfl
    rw [et]
    intro v4 h4 tk4 T4 k4 t4 res4 b' hb'
    have R4:=Ri.step SI.env k4 t4
    have hv4:=bool_ok (x:=(D.bool b,Kd.pl)) R4.ok res4 rfl
    rw [hv4] at hb'
    cases hb'
    exact tail h4 tk4 T4 k4 t4 R4
 ·have hi:i=ds.length:=by exact li2 (.n i (.n (ds.length) .o)) (nat_lit 0x7df6e48de6a48d9923) le hlt
  subst hi
  refine wk.walks.done _ _ _ st fun h2 tk2 hk2=>?_
  have hk2':∀ b o,b≠I→h.get? b=some o→h2.get? b=some o:=fun b o hb e=>hk2 b o (by simpa using hb) e
  have hy2:ys2=[]:=by
   rw [List.drop_length] at hgo
   cases hgo;rfl
  rw [hy2,List.append_nil] at hys
  subst hys
  exact hR h2 tk2 Tc vs n m' (kx.but kx.ns hLI wk.new hk2') (t.but nI hk2') nG nA (ns.at' fun o e=>hk2' _ o hAI e) (hk2' _ _ hGI hG') (r1.mono (fun _ q=>q) fun a o ta e=>hk2' _ _ (by rintro rfl;exact nI ta) e)
end
end Mine

namespace Mine
open PySem PySem.W PySem.Calls PyProof.Rows PyProof.V PySem.Spec
section
variable {C:Cx} {K:Ck} {W:Wld} {Φ:Nat→List D→Ev (D×Kd)} {m m' cm:Str→Option Value} {T T' Tc:Addr→Prop} {s:Shared} {σ:Sg} {h h' h₀ h2:Heap} {e:PySem.Expr}
 {Q:Value→Shared→Prop} {E:Value→Shared→Prop} {scope:Scope} {x:Str} {v:Nat} {A I:Addr}
theorem comp_core {elt cond:X} {e1 iter:PySem.Expr} {px:Pos} {ifs:List PySem.Expr} {p:Pos} {fp:List Addr} {P:Nat→Value→Prop} {St:Nat→Heap→Prop} {h1:Heap} {ds ys:List D} {RR:Value→Addr→Result→Shared→Prop}
  (S:Sit C K W Φ) (O:ScopeOk K scope x v) (R0:Rel C K m cm T s.heap σ) (ie:Is W Φ elt) (ic:Is W Φ cond)
  (c1:chk elt (K.inner scope x v) e1=true) (c2:(ifs=[]∧isNon cond=true)∨∃ c,ifs=[c]∧isNon cond=false∧chk cond (K.inner scope x v) c=true)
  (wk:Walk C m T s.heap ds I h1 fp P St) (hsz:ds.length≤big) (hgo:compGo (compF Φ elt v cond σ) ds=some (.ok ys))
  (hR:∀ G A h' tk T' vs n m',s.heap.get? G=none→s.heap.get? A=none→G≠A→Kx C m s.heap h'→TExt T s.heap T' h'→¬ T' G→¬ T' A→h'.Ns A m'→h'.get? G=some (lobj vs n)→RdAll T' h' vs.toList ys→RR (.ref G) A (.ok .next) { s with heap:=h',toks:=tk }):
  wpAny C.M C.A (newList []) (fun acc s₃=>wpAny C.M C.A (newFunctionEnv scope C.env.globals (clGo C.env scope.names []) [] C.env.qual none .none (some C.env)) (fun cenv s₄=>
   codeAny C.M C.A (.compStart (.ListComp e1 [⟨.Name x px,iter,ifs,0⟩] scope p) 0 (.ref I) acc { cenv with scope:=relabel scope C.env }) (RR acc cenv.locals) s₄) E s₃) E { s with heap:=h1 }:=by
 have hl:=ns_live R0.ok.ns
 refine wpAny_newObj_type (wpAny_newFunctionEnv O.cell (by intro y hy;simp at hy) (fun h₁ hns₁ hsb₁=>?_) O.kind)
 dsimp only at hns₁ hsb₁ ⊢
 generalize hH2:h1.push { cls:=.type "list",dict:=none,data:=.seq ([]:List Value).toArray }=H2 at hns₁ hsb₁ ⊢
 have hC:H2.objs.size=h1.objs.size + 1:=by rw [← hH2,Heap.size_push]
 have hDC:h1.objs.size≠H2.objs.size:=by rw [hC];exact Nat.ne_of_lt (Nat.lt_succ_self _)
 have old:∀ b o,h1.get? b=some o→h₁.get? b=some o:=fun b o e=>by
  have hb:=Heap.lt_size e
  exact hsb₁.extBut b o (by rw [hC];exact Nat.ne_of_lt (Nat.lt_succ_of_lt hb)) (Heap.get?_push_of_some _ (hH2 ▸ Heap.get?_push_of_some _ e))
 have fresh:∀ a,h1.objs.size≤a→s.heap.get? a=none:=fun a ha=>wk.kx.live (Heap.get?_none_of_le ha) hl
 have hG:h₁.get? h1.objs.size=some (lobj #[] 0):=hsb₁.extBut _ _ hDC (Heap.get?_push_of_some _ (hH2 ▸ Heap.get?_push_size _ rfl))
 have k₁:Kx C m s.heap h₁:=⟨wk.kx.ns.at' fun o e=>old _ o e,fun b o hb e=>by
  obtain⟨sl,e1,p1⟩:=wk.kx.keep b o hb e
  exact⟨sl,old _ _ e1,p1⟩⟩
 have t₁:TExt T s.heap T h₁:=⟨fun _ q=>q,fun a q=>.inl q,fun a q=>by
  obtain⟨o,ho⟩:=R0.ok.ex a q
  exact⟨_,k₁.at (R0.ok.sub a q) ho⟩⟩
 have nT:∀ a,h1.objs.size≤a→¬ T a:=fun a ha q=>by obtain⟨o,ho⟩:=R0.ok.ex a q;rw [fresh a ha] at ho;cases ho
 have nI:¬ T I:=fun q=>by obtain⟨o,ho⟩:=R0.ok.ex I q;rw [wk.new] at ho;cases ho
 have hI:I < h1.objs.size:=by obtain⟨o,ho⟩:=wk.here _ _ wk.st;exact Heap.lt_size ho
 have st₁:St 0 h₁:=wk.walks.frame _ _ _ wk.st fun b hb o e=>old b o e
 have loop:codeAny C.M C.A (.compLoop (.ListComp e1 [⟨.Name x px,iter,ifs,0⟩] scope p) 0 (.ref I) (.ref h1.objs.size) (C.inn scope (clGo C.env scope.names []) H2.objs.size).env)
   (RR (.ref h1.objs.size) H2.objs.size) { s with heap:=h₁,toks:=s.toks + ([]:List (Str×Value)).length }:=by
  refine comp_loop S O R0 ie ic c1 c2 wk hsz (fresh _ (Nat.le_refl _)) (fresh _ (by exact li1 (.n (h1.objs.size) (.n (H2.objs.size) .o)) (nat_lit 0x7d99236d14018e4) hC)) hDC (Nat.ne_of_gt hI) (Nat.ne_of_gt (Nat.lt_of_lt_of_le hI (by rw [hC];exact Nat.le_succ _)))
   ⟨Nat.zero_le _,st₁,k₁,_,hns₁,T,#[],0,[],ys,t₁,nT _ (Nat.le_refl _),nT _ (by exact li1 (.n (h1.objs.size) (.n (H2.objs.size) .o)) (nat_lit 0x7d99236d14018e4) hC),nI,hG,.nil,hgo,rfl,Nat.le_refl _⟩ fun h' tk T' vs n m' a1 a2 a3 a4 a5 a6 a7=>?_
  exact hR _ _ h' tk T' vs n m' (fresh _ (Nat.le_refl _)) (fresh _ (by exact li1 (.n (h1.objs.size) (.n (H2.objs.size) .o)) (nat_lit 0x7d99236d14018e4) hC)) hDC a1 a2 a3 a4 a5 a6 a7
 exact codeAny_compStart_list loop (wk.walks.self 0 _ _ _ st₁ loop)
theorem notSet {iter:PySem.Expr} {env:Env} (h:noSet iter=true):∀ x,foldedSetIterable iter env x=pure x:=by
 intro x
 cases iter <;> first | rfl | (cases h)
theorem comp_iter {α β:Type} {rel:(Addr→Prop)→Heap→Heap→β→α→Prop} (hold:Older rel) {it:X} {rng:Bool} {iter:PySem.Expr} {Q':Value→Shared→Prop} {f:List D→Ev α} {Q:β→Shared→Prop} (ii:Is W Φ it) (S:Sit C K W Φ) (R:Rel C K m cm T s.heap σ)
  (c3:(rng=true∧∃ py i p',iter=.Call (.Name "range" py) [i] [] p'∧K.glb "range" = true∧notDebug "range" = true∧chk it K i=true)∨(rng=false∧chk it K iter=true))
  (hP:PostG C m rel ((ev Φ it σ).bind fun x=>if x.2.isTr then Option.none else (Ev.of (if rng then (match x.1 with | .int n=>rangeD 0 n | _=>Option.none) else items x.1)).bind f) T s Q E)
  (hq:∀ ds I h1 h' tk T' fp P St,Kx C m s.heap h'→TExt T s.heap T' h'→Rel C K m cm T' h' σ→Walk C m T' h' ds I h1 fp P St→ds.length≤big→PostG C m rel (f ds) T' { s with heap:=h',toks:=tk } Q E→Q' (.ref I) { s with heap:=h1,toks:=tk }):
  wpAny C.M C.A (eval iter C.env) (fun x s₁=>wpAny C.M C.A (pyIter x) Q' E s₁) E s:=by
 rcases c3 with ⟨rfl,py,i,p',rfl,h1,h2,h3⟩ | ⟨rfl,h3⟩
 ·have es:=star_of (C:=C) h3 []
  refine Call_ (blt_ld (v:=.type "range") S R.ok h1 h2 (by decide) (PyProof.Rows.callWith_type1 (args_cons ((ii h3 S R).val _ _ (PostG.bind (hold) hP R.ok fun x v h' tk T' _ k t res ok' hP'=>args_nil ?_)) es) es))
  obtain⟨hk,hP'⟩:=ite_post hP'
  obtain⟨ds,hds,hP2⟩:=hP'.of_some
  clear hP'
  rw [if_pos rfl] at hds
  obtain⟨x,kx⟩:=x
  cases x with
  | int n=>
   obtain⟨tn,rfl⟩:=(res.any ok').int_inv
   refine call_range_1 ?_
   dsimp only at hds ⊢
   have kp:Kx C m h' (h'.push { cls:=.type "range",data:=.fields #[.int 0 tk,.int n tn,.int 1 (tk + 1)] }):=Kx.push ok'.ns _
   have tp:=ok'.keep kp
   refine range_ok (IsRange.new ..) hds (ok'.step kp tp) S.hand fun I fp P St h1 wk _=>?_
   refine hq ds I h1 _ _ T' fp P St (k.trans kp) (t.trans tp k (ns_live R.ok.ns)) ((R.step S.env k t).step S.env kp tp) wk ?_ (PostG.step (s:={ s with heap:=h',toks:=tk }) (hold) hP2 ok' kp tp)
   unfold rangeD at hds
   split at hds
   ·cases hds
    rw [big]
    simp
    omega
   ·cases hds
  | _=>cases hds
 ·refine(ii h3 S R).val _ _ (PostG.bind (hold) hP R.ok fun x v h' tk T' _ k t res ok' hP'=>?_)
  obtain⟨hk,hP'⟩:=ite_post hP'
  obtain⟨ds,hds,hP'⟩:=hP'.of_some
  rw [if_neg (by decide)] at hds
  refine iter_ok res hk hds ok' S.hand fun I fp P St h1 wk _=>hq ds I h1 h' tk T' fp P St k t (R.step S.env k t) wk ?_ hP'
  cases hx:x.1 <;> rw [hx] at hds <;> simp only [items] at hds <;> try contradiction
  all_goals
   split at hds
   ·rename_i hl
    cases hds
    first | exact hl | simpa using hl.1
   ·cases hds
theorem ev_comp {elt:X} {v:Nat} {rng:Bool} {it cond:X}:ev Φ (.comp elt v rng it cond) σ=(ev Φ it σ).bind fun x=>if x.2.isTr then Option.none else
   (Ev.of (if rng then (match x.1 with | .int n=>rangeD 0 n | _=>Option.none) else items x.1)).bind fun ds=>
   (compGo (compF Φ elt v cond σ) ds).calm.bind fun ys=>Ev.ok (.lst ys,.fr):=rfl
theorem calm_inv {α β γ:Type} {rel:(Addr→Prop)→Heap→Heap→β→γ→Prop} {r:Ev α} {f:α→Ev γ} {Q:β→Shared→Prop} (hP:PostG C m rel (r.calm.bind f) T s Q E):∃ a,r=some (.ok a)∧PostG C m rel (f a) T s Q E:=by
 match r,hP with
 | some (.ok a),hP=>exact⟨a,rfl,hP⟩
 | some .bad,hP=>exact hP.elim
 | Option.none,hP=>exact hP.elim
theorem is_comp {elt:X} {v:Nat} {rng:Bool} {it cond:X} (ie:Is W Φ elt) (ii:Is W Φ it) (ic:Is W Φ cond):Is W Φ (.comp elt v rng it cond):=by
 intro C K e σ m cm T s hc S R
 refine chk_comp hc fun e1 x px iter ifs scope p h1 h2 h3 h4 h5=>?_
 have O:=scope_ok h1
 refine .of R.ok (fun Q E hP=>?_) rfl
 rw [ev_comp] at hP
 rw [eval_ListComp]
 refine wpAny_comprehension_free (use:=none) rfl (notSet h3) (clos_eq (free_cell S.env O)) O.kind O.loc (comp_iter (Res.old C) ii S R h4 hP fun ds I h1 h' tk T' fp P St _ _ R' wk hsz hP'=>?_)
 obtain⟨ys,hys,hP'⟩:=calm_inv hP'
 refine comp_core (s:={ s with heap:=h',toks:=tk }) (RR:=fun acc C'=>compPost C.M C.A E none Q acc C') S O R' ie ic h2 h5 wk hsz hys fun G A h2 tk2 T2 vs n m' hG hA hGA k2 t2 nG nA hn ho r=>?_
 refine⟨m',hn,fun h3 hs3=>?_⟩
 have hk3:∀ b o,b≠A→h2.get? b=some o→h3.get? b=some o:=hs3.extBut
 exact hP' _ h3 tk2 T2 (k2.but k2.ns (ne_new hA (ns_live R'.ok.ns)) hA hk3) (t2.but nA hk3) (.fr nG (R'.ok.new hG) hG (hk3 _ _ hGA ho) (r.mono (fun _ q=>q) fun a o ta e=>hk3 _ o (by rintro rfl;exact nA ta) e))
end
theorem is_non {W:Wld} {Φ:Nat→List D→Ev (D×Kd)}:Is W Φ .non:=by
 intro C K e σ m cm T s hc
 exact ff hc
mutual
theorem ev_ok {W:Wld} {Φ:Nat→List D→Ev (D×Kd)}:∀ x:X,Is W Φ x
 | .non=>is_non
 | .lit _=>is_lit
 | .var _=>is_var
 | .bin _ a b=>is_bin (ev_ok a) (ev_ok b)
 | .neg a=>is_neg (ev_ok a)
 | .cmp _ a b=>is_cmp (ev_ok a) (ev_ok b)
 | .cmp2 _ _ a b c=>is_cmp2 (ev_ok a) (ev_ok b) (ev_ok c)
 | .not a=>is_not (ev_ok a)
 | .and a b=>is_and (ev_ok a) (ev_ok b)
 | .or a b=>is_or (ev_ok a) (ev_ok b)
 | .ite c a b=>is_ite (ev_ok c) (ev_ok a) (ev_ok b)
 | .call _ l=>is_call (evs_ok l)
 | .fn1 _ a=>is_fn1 (ev_ok a)
 | .fn2 _ a b=>is_fn2 (ev_ok a) (ev_ok b)
 | .mth _ a b=>is_mth (ev_ok a) (ev_ok b)
 | .idx a b=>is_idx (ev_ok a) (ev_ok b)
 | .slc a lo hi=>is_slc (ev_ok a) (ev_ok lo) (ev_ok hi)
 | .tup l=>is_tup (evs_ok l)
 | .lst l=>is_lst (evs_ok l)
 | .comp elt _ _ it cond=>is_comp (ev_ok elt) (ev_ok it) (ev_ok cond)
theorem evs_ok {W:Wld} {Φ:Nat→List D→Ev (D×Kd)}:∀ l:List X,IsL W Φ l
 | []=>isl_nil
 | x :: l=>isl_cons (ev_ok x) (evs_ok l)
end
end Mine

namespace Mine
open PySem PySem.W PySem.Calls PyProof.Rows PyProof.V PySem.Spec
theorem zip_lookup {ns:List Str}:∀ {vs:List Value} {k:Nat} {n:Str} {v:Value},ns.Nodup→ns[k]?=some n→vs[k]?=some v→(ns.zip vs).lookup n=some v:=by
 induction ns with
 | nil=>intro vs k n v _ h;cases k <;> cases h
 | cons n ns ih=>
  intro vs k n' v' hd h1 h2
  cases vs with
  | nil=>cases k <;> cases h2
  | cons v vs=>
   cases k with
   | zero=>cases h1;cases h2;simp
   | succ k=>
    have hd':=List.nodup_cons.mp hd
    have hne:(n' == n)=false:=beq_eq_false_iff_ne.mpr fun e=>hd'.1 (e ▸ List.mem_of_getElem? h1)
    simp only [List.zip_cons_cons,List.lookup_cons,hne]
    exact ih hd'.2 h1 h2
theorem fm_congr {α β:Type} {f g:α→Option β}:∀ {l:List α},(∀ x ∈ l,f x=g x)→l.filterMap f=l.filterMap g
 | [],_=>rfl
 | a :: l,h=>by rw [List.filterMap_cons,List.filterMap_cons,h a (.head _),fm_congr fun x hx=>h x (.tail _ hx)]
theorem zip_self {ns:List Str}:∀ {vs:List Value},ns.Nodup→vs.length=ns.length→ns.filterMap (fun n=>((ns.zip vs).lookup n).map (n,·))=ns.zip vs:=by
 induction ns with
 | nil=>intro vs _ _;rfl
 | cons n ns ih=>
  intro vs hd hl
  cases vs with
  | nil=>cases hl
  | cons v vs=>
   have hd':=List.nodup_cons.mp hd
   have ih:=ih (vs:=vs) hd'.2 (Nat.succ.inj hl)
   simp only [List.zip_cons_cons,List.filterMap_cons,List.lookup_cons,beq_self_eq_true,Option.map_some]
   congr 1
   refine(fm_congr fun x hx=>?_).trans ih
   have hne:(x == n)=false:=beq_eq_false_iff_ne.mpr fun e=>hd'.1 (e ▸ hx)
   simp only [hne]
theorem bind_plain {fd:FuncData} {vs:List Value} {names:List Str} (h1:fd.params.posonlyargs=[]) (h2:fd.params.args.map (·.arg)=names) (h3:fd.params.vararg=none) (h4:fd.params.kwonlyargs=[]) (h5:fd.params.kwarg=none)
  (h6:fd.defaults=.none) (hd:names.Nodup) (hl:vs.length=names.length):bindArgs fd ⟨vs,[]⟩=pure (names.zip vs):=by
 have hm:names.filter (fun n=>((names.zip vs).lookup n).isNone)=[]:=by
  rw [List.filter_eq_nil_iff]
  intro n hn
  obtain⟨k,hk,rfl⟩:=List.getElem_of_mem hn
  rw [zip_lookup (k:=k) (v:=vs[k]) hd (by simp [hk]) (by simp)]
  simp
 unfold bindArgs
 simp only [h1,h2,h3,h4,h5,h6]
 simp [hl,hm,zip_self hd hl,seqItems?,notAStandIn]
theorem cells_mem {n:Str} {c:Addr}:∀ {names:List (Str×NameKind)} {L:Nat} {acc:List (Str×Addr)},(n,c) ∈ cellsFrom L names acc→(n,c) ∈ acc∨L≤c∧(n,NameKind.cell) ∈ names
 | [],_,_,h=>.inl h
 | (n',k) :: r,L,acc,h=>by
  unfold cellsFrom at h
  split at h
  ·rename_i hk
   have hk:k=.cell:=by simpa using hk
   subst hk
   rcases cells_mem h with h | ⟨h1,h2⟩
   ·rcases List.mem_cons.mp h with h | h
    ·cases h;exact .inr ⟨Nat.le_refl _,.head _⟩
    ·exact .inl h
   ·exact .inr ⟨Nat.le_of_succ_le h1,.tail _ h2⟩
  ·rcases cells_mem h with h | ⟨h1,h2⟩
   ·exact .inl h
   ·exact .inr ⟨h1,.tail _ h2⟩
theorem cells_sub {q:Str×Addr}:∀ {names:List (Str×NameKind)} {L:Nat} {acc:List (Str×Addr)},q ∈ acc→q ∈ cellsFrom L names acc
 | [],_,_,h=>h
 | (n',k) :: r,L,acc,h=>by
  unfold cellsFrom
  split
  ·exact cells_sub (.tail _ h)
  ·exact cells_sub h
theorem cells_has {n:Str}:∀ {names:List (Str×NameKind)} {L:Nat} {acc:List (Str×Addr)},(n,NameKind.cell) ∈ names→∃ c,(n,c) ∈ cellsFrom L names acc
 | (n',k) :: r,L,acc,h=>by
  unfold cellsFrom
  rcases List.mem_cons.mp h with h | h
  ·cases h
   rw [if_pos (by decide)]
   exact⟨L,cells_sub (.head _)⟩
  ·split
   ·exact cells_has h
   ·exact cells_has h
theorem bindL_keep {kindOf:Str→Option NameKind} {n:Str}:∀ {binds:List (Str×Value)} {m:Str→Option Value},n ∉ binds.map (·.1)→bindL kindOf binds m n=m n
 | [],_,_=>rfl
 | (x,v) :: r,m,h=>by
  rw [bindL,bindL_keep fun q=>h (.tail _ q)]
  split
  ·exact if_neg (show n≠x from fun e=>h (by simp [e]))
  ·rfl
theorem bindC_keep {kindOf:Str→Option NameKind} {n:Str}:∀ {binds:List (Str×Value)} {m:Str→Option Value},n ∉ binds.map (·.1)→bindC kindOf binds m n=m n
 | [],_,_=>rfl
 | (x,v) :: r,m,h=>by
  rw [bindC,bindC_keep fun q=>h (.tail _ q)]
  split
  ·rfl
  ·exact if_neg (show n≠x from fun e=>h (by simp [e]))
theorem bind_get {kindOf:Str→Option NameKind} {n:Str} {v:Value}:∀ {binds:List (Str×Value)} {m cm:Str→Option Value},(binds.map (·.1)).Nodup→(n,v) ∈ binds→(if kindOf n=some .local then bindL kindOf binds m n else bindC kindOf binds cm n)=some v
 | (x,w) :: r,m,cm,hd,h=>by
  have hd':=List.nodup_cons.mp hd
  rcases List.mem_cons.mp h with h | h
  ·cases h
   rw [bindL,bindC,bindL_keep hd'.1,bindC_keep hd'.1]
   split <;> simp [*]
  ·rw [bindL,bindC]
   exact bind_get hd'.2 h
end Mine

namespace Mine
open PySem
open Sem (wp)
noncomputable abbrev bmX:List Value:=[.type "Exception",.type "BaseException",.type "object"]
section
variable {M:Model} {A:Around} {E:Value→Shared→Prop} {h:Heap} {g:Array GenState} {d:Drawn} {t:Nat} {os:OsState}
variable {nm q:Str} {C C1 N:Addr} {bs bm:List Value} {hdct:Bool} {sn:List Str} {sub:List Value} {ab:Bool} {col:Option Bool} {dd:Option Addr} {k0 k1 k2 k3 k5:Option Value}
theorem look_init {mN mN1:Str→Option Value} {c0:Value} {d1:Option Addr} {cd:ClassData} {sl:Array (Option Value)} {f:Value} {Q:Option Value→Shared→Prop}
  (hC:h.get? C=some (excClassObj nm q C N bs (.ref C1 :: bmX) hdct sn sub ab col dd k0 k1 k2 k3 k5 "Exception.__new__")) (hn:h.Ns N mN) (hni:mN "__init__" = none)
  (hC1:h.get? C1=some { cls:=c0,dict:=d1,data:=.cls cd,slots:=sl }) (hn1:h.Ns cd.ns mN1) (hi1:mN1 "__init__" = some f) (hq:Q (some f) ⟨h,g,d,t,os⟩):
  wpAny M A (typeLookup (.ref C) "__init__") Q E ⟨h,g,d,t,os⟩:=by
 rw [typeLookup_eq]
 refine wpAny_bind (wpAny_mroOf_exc hC ?_)
 rw [lookupAlong_cons]
 refine wpAny_bind (wpAny_classOwn_exc hC hn ?_)
 rw [hni]
 show wpAny M A (lookupAlong (.ref C1 :: bmX) "__init__") Q E _
 rw [lookupAlong_cons]
 refine wpAny_bind (wpAny_classOwn_cls hC1 hn1 ?_)
 rw [hi1]
 exact wpAny_pure hq
end
section
variable {prog:Program} {w:World} {A:Around} {E:Value→Shared→Prop} {R:Result→Shared→Prop} {h:Heap} {g:Array GenState} {d:Drawn} {t:Nat} {os:OsState}
variable {nm q:Str} {C C1 N:Addr} {bs bm:List Value} {hdct:Bool} {sn:List Str} {sub:List Value} {ab:Bool} {col:Option Bool} {dd:Option Addr} {k0 k1 k2 k3 k5:Option Value}
theorem exc_new {B newId initId:String} {bmN:List Value} (Fn:ExcBaseFacts B newId initId bmN) {rest:List Value} (hC:h.get? C=some (excClassObj nm q C N bs bm hdct sn sub ab col dd k0 k1 k2 k3 k5 newId))
  (hcB:(Value.ref C :: bm).contains (.type B)=true) (hcA:(Value.ref C :: bm).contains (.type "AttributeError")=false) (hcN:(Value.ref C :: bm).contains (.type "NameError")=false)
  (hq:R (.ok (.ret (.ref (h.objs.size + 1)))) ⟨(h.push { cls:=.type "tuple",data:=.seq rest.toArray }).push
   { cls:=.ref C,data:=.fields #[.ref h.objs.size,.none,.none,.none,.bool false,.none] },g,d,t,os⟩) (hrest:rest.length≤sizeLine):
  codeAny (model prog w) A (.builtin newId ⟨.ref C :: rest,[]⟩) R ⟨h,g,d,t,os⟩:=by
 have hends:=Fn.ends
 refine codeAny_builtinAt Fn.entry ?_
 unfold Builtin.«BaseException.__new__»
 refine wpAt_bind ?_
 show wpAt _ _ _ (stack >>= _) _ _ _
 refine wpAt_bind (wpAt_stack fun p below=>wpAt_of_wpAny ?_)
 wp_walk
 refine wpAt_of_wpAny ?_
 rw [Fn.owner]
 repeat (first | with_reducible refine wpAny_madeHere_exc Fn.canon hC ?_ | with_reducible refine wpAny_loadPart_at hC ?_ | (with_reducible refine wpAny_isSubtype_exc hC ?_;first | rw [hcB] | rw [hcA] | rw [hcN]) | wp_step)
 show R _ _
 rw [Heap.size_push]
 exact hq
theorem exc_type_call {mN mN1:Str→Option Value} {c0:Value} {d1:Option Addr} {cd:ClassData} {sl:Array (Option Value)} {fI:Addr} {oI:Obj} {rest:List Value} {Q:Fin→Shared→Prop}
  (hC:h.get? C=some (excClassObj nm q C N bs (.ref C1 :: bmX) hdct sn sub ab col dd k0 k1 k2 k3 k5 "Exception.__new__")) (hn:h.Ns N mN) (hni:mN "__init__" = none)
  (hC1:h.get? C1=some { cls:=c0,dict:=d1,data:=.cls cd,slots:=sl }) (hn1:h.Ns cd.ns mN1) (hi1:mN1 "__init__" = some (.ref fI)) (hfI:h.get? fI=some oI) (hfc:oI.cls=.type "function")
  (hq:∀ h' e,Heap.MadeExcOf h h' e (.ref C) rest→
   wpAny (model prog w) A (call (.ref fI) (.ref e :: rest)) (fun r s'=>r=.none∧Q (.done (.ret (.ref e))) s') E ⟨h',g,d,t,os⟩) (hrest:rest.length≤sizeLine):
  wpAny (model prog w) A (Builtin.«type.__call__» ⟨.ref C :: rest,[]⟩) Q E ⟨h,g,d,t,os⟩:=by
 have Fn:=PySem.F.excBase_Exception
 have hcB:(Value.ref C1 :: bmX).contains (.type "Exception")=true:=by rw [List.contains_cons,Fn.hasB];simp
 repeat (first | with_reducible refine wpAny_loadPart_at hC ?_ | with_reducible refine wpAny_madeBy_exc hC ?_ | wp_step)
 refine codeAny_call_builtin_code (Code.quiet_builtin _ Fn.quiet) (wpAny_check_new_subU (bmB:=.ref C1 :: bmX) Fn hcB .base hC ?_)
 refine exc_new Fn hC (by rw [List.contains_cons,hcB];simp) (by rw [List.contains_cons,List.contains_cons,Fn.noAttr];rfl) (by rw [List.contains_cons,List.contains_cons,Fn.noName];rfl) ?_ hrest
 show wpAny _ _ _ _ _ _
 have up:∀ {b:Addr} {o:Obj},h.get? b=some o→((h.push { cls:=.type "tuple",data:=.seq rest.toArray }).push { cls:=.ref C,data:=.fields #[.ref h.objs.size,.none,.none,.none,.bool false,.none] }).get? b=some o:=
  fun e=>Heap.get?_push_of_some _ (Heap.get?_push_of_some _ e)
 have upn:∀ {b:Addr} {m:Str→Option Value},h.Ns b m→((h.push { cls:=.type "tuple",data:=.seq rest.toArray }).push { cls:=.ref C,data:=.fields #[.ref h.objs.size,.none,.none,.none,.bool false,.none] }).Ns b m:=
  fun hn=>hn.keeps fun _ _ e=>up e
 have hC₁:=up hC
 have hget:((h.push { cls:=.type "tuple",data:=.seq rest.toArray }).push
   { cls:=.ref C,data:=.fields #[.ref h.objs.size,.none,.none,.none,.bool false,.none] }).get? (h.objs.size + 1)=some
   { cls:=.ref C,data:=.fields #[.ref h.objs.size,.none,.none,.none,.bool false,.none] }:=by heap_get
 have hcC:(Value.ref C :: .ref C1 :: bmX).contains (.ref C)=true:=by simp
 have hfI₁:=up hfI
 unfold isInstance
 repeat (first | with_reducible refine wpAny_loadPart_at hget ?_ | (with_reducible refine wpAny_isSubtype_exc hC₁ ?_;rw [hcC]) | wp_step)
 show wpAny _ _ (typeLookup (.ref C) _) _ _ _
 refine look_init hC₁ (upn hn) hni (up hC1) (upn hn1) hi1 ?_
 refine wpAny_holding (wpAny_bind ?_)
 unfold bindSpecial
 refine wpAny_bind (wpAny_typeOf (T:="function") ⟨_,hfI₁,hfc⟩ ?_)
 rw [if_pos (by decide)]
 refine wpAny_pure (wpAny_bind (wpAny_mono (hq _ (h.objs.size + 1) ⟨fun b o hb=>up hb,Heap.get?_none_of_le (Nat.le_succ _),h.objs.size,hget,Heap.get?_none_of_le (Nat.le_refl _),?_⟩) (fun r s' hr=>?_) fun _ _ x=>x))
 ·exact Heap.get?_push_of_some _ (Heap.get?_push_at rfl rfl)
 ·obtain⟨rfl,hQ⟩:=hr
  wp_walk
  exact hQ
theorem exc_call {mN mN1:Str→Option Value} {c0:Value} {d1:Option Addr} {cd:ClassData} {sl:Array (Option Value)} {fI:Addr} {oI:Obj} {rest:List Value} {Q:Value→Shared→Prop}
  (hC:h.get? C=some (excClassObj nm q C N bs (.ref C1 :: bmX) hdct sn sub ab col dd k0 k1 k2 k3 k5 "Exception.__new__")) (hn:h.Ns N mN) (hni:mN "__init__" = none)
  (hC1:h.get? C1=some { cls:=c0,dict:=d1,data:=.cls cd,slots:=sl }) (hn1:h.Ns cd.ns mN1) (hi1:mN1 "__init__" = some (.ref fI)) (hfI:h.get? fI=some oI) (hfc:oI.cls=.type "function")
  (hq:∀ h' e,Heap.MadeExcOf h h' e (.ref C) rest→
   wpAny (model prog w) (A.under (.builtin "type.__call__" ⟨.ref C :: rest,[]⟩)) (call (.ref fI) (.ref e :: rest)) (fun r s'=>r=.none∧Q (.ref e) s') E ⟨h',g,d,t,os⟩) (hrest:rest.length≤sizeLine):
  wpAny (model prog w) A (call (.ref C) rest) Q E ⟨h,g,d,t,os⟩:=by
 have f1:=tc_lookup
 have f2:=tc_bind (.ref C)
 have hT:(⟨h,g,d,t,os⟩:Shared).TypeIs (.ref C) "type" := ⟨_,hC,rfl⟩
 refine wpAny_call (codeAny_of_tree ?_)
 show wpAny _ _ (callAny (.ref C) _) _ _ _
 repeat (any_goals (first | assumption | with_reducible refine wpAny_loadPart_at hC ?_ | wp_step))
 refine⟨rfl,?_⟩
 refine codeAny_call_builtin_at (Code.quiet_builtin _ (by decide +kernel)) entry_typeCall (wpAny_check_type_call_sub hC (exc_type_call hC hn hni hC1 hn1 hi1 hfI hfc (fun h' e hm=>?_) hrest))
 exact hq h' e hm
end
end Mine

namespace Mine
open PySem
open Sem (wp)
section
variable {M:Model} {A:Around} {E:Value→Shared→Prop} {h:Heap} {g:Array GenState} {d:Drawn} {t:Nat} {os:OsState}
variable {nm q:Str} {C C1 N:Addr} {bs bm:List Value} {hdct:Bool} {sn:List Str} {sub:List Value} {ab:Bool} {col:Option Bool} {dd:Option Addr} {k0 k1 k2 k3 k5:Option Value} {newId:String}
theorem look_past {mN mN1:Str→Option Value} {c0:Value} {d1:Option Addr} {cd:ClassData} {sl:Array (Option Value)} {n:Str} {y:Option Value} {Q:Option Value→Shared→Prop}
  (hC:h.get? C=some (excClassObj nm q C N bs (.ref C1 :: bmX) hdct sn sub ab col dd k0 k1 k2 k3 k5 newId)) (hn:h.Ns N mN) (hni:mN n=none)
  (hC1:h.get? C1=some { cls:=c0,dict:=d1,data:=.cls cd,slots:=sl }) (hn1:h.Ns cd.ns mN1) (hi1:mN1 n=none) (hB:typeLookup (.type "Exception") n=pure y) (hq:Q y ⟨h,g,d,t,os⟩):
  wpAny M A (typeLookup (.ref C) n) Q E ⟨h,g,d,t,os⟩:=by
 have hrest:lookupAlong bmX n=pure y:=by rw [typeLookup_eq,PySem.F.excBase_Exception.mroIs] at hB;exact hB
 rw [typeLookup_eq]
 refine wpAny_bind (wpAny_mroOf_exc hC ?_)
 rw [lookupAlong_cons]
 refine wpAny_bind (wpAny_classOwn_exc hC hn ?_)
 rw [hni]
 show wpAny M A (lookupAlong (.ref C1 :: bmX) n) Q E _
 rw [lookupAlong_cons]
 refine wpAny_bind (wpAny_classOwn_cls hC1 hn1 ?_)
 rw [hi1]
 show wpAny M A (lookupAlong bmX n) Q E _
 rw [hrest]
 exact wpAny_pure hq
theorem check_init {B newId' initId:String} {bmN:List Value} (F:ExcBaseFacts B newId' initId bmN) {e:Addr} {oe:Obj} {rest:List Value} {Q:Unit→Shared→Prop}
  (hC:h.get? C=some (excClassObj nm q C N bs bm hdct sn sub ab col dd k0 k1 k2 k3 k5 newId)) (hcB:(Value.ref C :: bm).contains (.type B)=true) (he:h.get? e=some oe) (hcls:oe.cls=.ref C) (hq:Q () ⟨h,g,d,t,os⟩):
  wpAny M A (checkBuiltinCall initId ⟨.ref e :: rest,[]⟩) Q E ⟨h,g,d,t,os⟩:=by
 have hshort:=F.noStar
 simp only [checkBuiltinCall,F.initKind,F.initSplit,F.initRow]
 repeat (first | (with_reducible refine wpAny_loadPart_at he ?_;rw [hcls]) | with_reducible refine wpAny_loadPart_at hC ?_ | (with_reducible refine wpAny_isSubtype_exc hC ?_;rw [hcB]) | wp_step)
 refine wpAny_onRaise ?_
 rw [show ∀ (a b:String) (n:Nat),Bind.check ⟨.positional, "*",B,.self,[⟨"args",.varPos,false⟩]⟩ a b n (List.map (fun x=>x.fst) ({ pos:=Value.ref e :: rest }:Args).kw)=pure () from
  fun a b n=>check_star_args _ _ _ _ _ _]
 exact wpAny_pure hq
end
section
variable {prog:Program} {w:World} {A:Around} {E:Value→Shared→Prop} {h:Heap} {g:Array GenState} {d:Drawn} {t:Nat} {os:OsState}
variable {nm q:Str} {C C1 N:Addr} {bs bm:List Value} {hdct:Bool} {sn:List Str} {sub:List Value} {ab:Bool} {col:Option Bool} {dd:Option Addr} {k0 k1 k2 k3 k5:Option Value} {newId:String}
theorem base_init {B newId' initId:String} {bmN:List Value} (F:ExcBaseFacts B newId' initId bmN) {e t0:Addr} {rest:List Value} {Q:Value→Shared→Prop}
  (hC:h.get? C=some (excClassObj nm q C N bs bm hdct sn sub ab col dd k0 k1 k2 k3 k5 newId)) (hcB:(Value.ref C :: bm).contains (.type B)=true)
  (he:h.get? e=some { cls:=.ref C,data:=.fields #[.ref t0,.none,.none,.none,.bool false,.none] }) (hrest:rest.length≤sizeLine)
  (hq:∀ h',h'.get? e=some { cls:=.ref C,data:=.fields #[.ref h.objs.size,.none,.none,.none,.bool false,.none] }→(∀ b o,b≠e→h.get? b=some o→h'.get? b=some o)→Q .none ⟨h',g,d,t,os⟩):
  wpAny (model prog w) A (call (.builtin initId) (.ref e :: rest)) Q E ⟨h,g,d,t,os⟩:=by
 refine wpAny_call (codeAny_call_builtin F.init.plain F.initEntry (check_init F hC hcB he rfl ?_))
 wp_walk
 refine hq _ ?_ fun b o hb hbo=>?_
 ·rw [Heap.get?_update_self _ (Heap.get?_push_of_some _ he) rfl]
  rfl
 ·rw [Heap.get?_update_other _ _ (Ne.symm hb)]
  exact Heap.get?_push_of_some _ hbo
variable {sa owner:String} {mN mN1:Str→Option Value} {c0:Value} {d1:Option Addr} {cd:ClassData} {sl:Array (Option Value)} {x:Addr} {name:Str} {v:Value}
open Builtin Builtin.ObjectAttr
theorem check_sa {M:Model} {o:Obj} {nameV:Value} {Q:Unit→Shared→Prop} (SF:StoreFacts "Exception" bmX sa owner)
  (hC:h.get? C=some (excClassObj nm q C N bs (.ref C1 :: bmX) true sn sub ab col dd k0 k1 k2 k3 k5 newId)) (hx:h.get? x=some o) (hc:o.cls=.ref C) (hq:Q () ⟨h,g,d,t,os⟩):
  wpAny M A (checkBuiltinCall sa ⟨[.ref x,nameV,v],[]⟩) Q E ⟨h,g,d,t,os⟩:=by
 have hcB:(Value.ref C :: .ref C1 :: bmX).contains (.type owner)=true:=by rw [List.contains_cons,List.contains_cons,SF.hasOwner];simp
 have ha:=SF.args (.ref x) nameV v
 simp only [checkBuiltinCall,SF.kind,SF.split]
 refine wpAny_bind ?_
 ·unfold isInstance
  repeat (first | (with_reducible refine wpAny_loadPart_at hx ?_;rw [hc]) | (with_reducible refine wpAny_isSubtype_exc hC ?_;rw [hcB]) | wp_step)
  cases hsig:Manifest.signature? sa with
  | none=>exact wpAny_pure hq
  | some sig=>
   simp only [argsOk,hsig] at ha
   have h2:Bind.checkArgs sa sig ⟨[.ref x,nameV,v],[]⟩=pure ():=ha
   show wpAny M A (Bind.checkArgs sa sig ⟨[.ref x,nameV,v],[]⟩) Q E _
   rw [h2];exact wpAny_pure hq
theorem store_first {tk:Tok} {o:Obj} {Q:Fin→Shared→Prop} (SF:StoreFacts "Exception" bmX sa owner)
  (hC:h.get? C=some (excClassObj nm q C N bs (.ref C1 :: bmX) true sn sub ab col dd k0 k1 k2 k3 k5 newId)) (hn:h.Ns N mN) (hna:mN name=none)
  (hC1:h.get? C1=some { cls:=c0,dict:=d1,data:=.cls cd,slots:=sl }) (hn1:h.Ns cd.ns mN1) (hna1:mN1 name=none)
  (hB:typeLookup (.type "Exception") name=pure none) (hx:h.get? x=some o) (hc:o.cls=.ref C) (hnc:∀ c,o.data≠.cls c) (hdn:o.dict=none)
  (hq:∀ h' tk' dx,h'.get? x=some { o with dict:=some dx }→(∀ b o,b≠x→h.get? b=some o→h'.get? b=some o)→Q (.done (.ret .none)) ⟨h',g,d,tk',os⟩):
  wpAny (model prog w) A (Builtin.«object.__setattr__» ⟨[.ref x,.str name tk,v],[]⟩) Q E ⟨h,g,d,t,os⟩:=by
 have hpass:=SF.passes (.ref x)
 unfold Builtin.«object.__setattr__»
 repeat (first | rw [refuse_eq] | (rw [refuseLoop_ref,refuseLoop_ref,hpass]) | (with_reducible refine wpAny_loadPart_at hx ?_;rw [hc]) | with_reducible refine wpAny_mroOf_exc hC ?_ | (with_reducible refine look_past hC hn hna hC1 hn1 hna1 hB ?_) | wp_step)
 rw [hdn,if_neg (by simp [typeHasDict])]
 split
 ·rename_i hcd
  cases hcd
 split
 ·rename_i c hcd
  exact absurd hcd (hnc c)
 ·have hx₁:(h.push { cls:=.type "dict",data:=.dict #[] }).get? x=some o:=Heap.get?_push_of_some _ hx
  have hxs:x≠h.objs.size:=Nat.ne_of_lt (Heap.lt_size hx)
  refine wpAny_bind (wpAny_alloc' ?_)
  refine wpAny_bind (wpAny_update' hx₁ ?_)
  refine wpAny_pure ?_
  have hgd:((h.push { cls:=.type "dict",data:=.dict #[] }).update x fun o=>{ cls:=o.cls,dict:=some h.objs.size,data:=o.data,slots:=o.slots }).get? h.objs.size
    = some { cls:=.type "dict",data:=.dict #[] }:=
   (Heap.get?_update_ne _ _ _ _ hxs.symm).trans (Heap.get?_push_at rfl rfl)
  have hnd:((h.push { cls:=.type "dict",data:=.dict #[] }).update x fun o=>{ cls:=o.cls,dict:=some h.objs.size,data:=o.data,slots:=o.slots }).Ns h.objs.size (fun _=>none):=
   ⟨_,#[],_,hgd,rfl,fun e he=>absurd he (by simp),fun _=>rfl⟩
  show wpAny _ _ (storeInDict h.objs.size (.str name tk) name v) _ _ _
  unfold storeInDict newKeyGuard
  refine wpAny_bind (wpAny_pure (wpAny_bind (wpAny_nsSet1 (Heap.Ns1.of_empty hnd) fun h' hn' hs=>?_)))
  obtain⟨oD,esD,epD,hoD,hdD,hcD⟩:=hn'.count (Within.cons name v Within.nil)
  refine wpAny_bind (wpAny_lookBehind hoD (by rw [hdD];exact pastItsLine_dict (Nat.le_trans hcD (by rw [List.length_cons,List.length_nil,sizeLine_eq];exact li0 .o (nat_lit 0x19450050000000000051401400)))) ?_)
  wp_walk
  refine hq h' _ h.objs.size ?_ fun b ob hbx hb=>?_
  ·refine(hs.2 x hxs).trans (Heap.get?_update_self _ hx₁ ?_)
   have hfr:=(Heap.get?_some_iff.mp hx).2
   obtain⟨oc,od,odt,osl⟩:=o
   cases odt <;> first | rfl | exact hfr
  ·exact(hs.2 b (Nat.ne_of_lt (Heap.lt_size hb))).trans ((Heap.get?_update_ne _ _ _ _ hbx).trans (Heap.get?_push_of_some _ hb))
theorem store_exc {o:Obj} {Q:Unit→Shared→Prop} (SF:StoreFacts "Exception" bmX sa owner)
  (hC:h.get? C=some (excClassObj nm q C N bs (.ref C1 :: bmX) true sn sub ab col dd k0 k1 k2 k3 k5 newId)) (hn:h.Ns N mN) (hns:mN "__setattr__" = none) (hna:mN name=none)
  (hC1:h.get? C1=some { cls:=c0,dict:=d1,data:=.cls cd,slots:=sl }) (hn1:h.Ns cd.ns mN1) (hns1:mN1 "__setattr__" = none) (hna1:mN1 name=none)
  (hB:typeLookup (.type "Exception") name=pure none) (hx:h.get? x=some o) (hc:o.cls=.ref C) (hnc:∀ c,o.data≠.cls c) (hdn:o.dict=none)
  (hq:∀ h' tk' dx,h'.get? x=some { o with dict:=some dx }→(∀ b o,b≠x→h.get? b=some o→h'.get? b=some o)→Q () ⟨h',g,d,tk',os⟩):
  wpAny (model prog w) A (setAttr (.ref x) name v) Q E ⟨h,g,d,t,os⟩:=by
 have f3:=SF.slot.bind (.ref x)
 unfold setAttr callSpecial? specialOf
 repeat (any_goals (first | assumption | (with_reducible refine wpAny_loadPart_at hx ?_;rw [hc]) | (with_reducible refine look_past hC hn hns hC1 hn1 hns1 SF.slot.lookup ?_) | wp_step))
 refine codeAny_call_builtin SF.slot.plain SF.entry (check_sa SF hC hx hc (store_first SF hC hn hna hC1 hn1 hna1 hB hx hc hnc hdn fun h' tk' dx h1 hk=>?_))
 repeat (any_goals (first | assumption | wp_step))
 exact hq h' tk' dx h1 hk
end
end Mine

namespace Mine
open PySem PySem.W PySem.Calls PyProof.Rows PyProof.V PySem.Spec
structure InitFn (fd:FuncData):Prop where
 kind:fd.scope.kind=.function
 co:fd.scope.isCoroutine=false
 gen:fd.scope.isGenerator=false
 names:fd.scope.names=[(("self" : Str),NameKind.local),(("text" : Str),NameKind.local),(("Exception" : Str),NameKind.globalImplicit)]
 p1:fd.params.posonlyargs=[]
 p2:fd.params.vararg=none
 p3:fd.params.kwonlyargs=[]
 p4:fd.params.kwarg=none
 args:fd.params.args.map (·.arg)=[("self" : Str),("text" : Str)]
 df:fd.defaults=.none
 glo:fd.globals=mainGlobals
 blt:fd.builtins=builtinsNs
 clo:fd.closure=[]
 body:∃ q1 q2 q3 q4 q5 q6 q7 q8 q9 q10,(q2.endLine == q5.line)=true∧fd.body=.stmts [.Expr (.Call (.Attribute (.Name "Exception" q1) "__init__" q2) [.Name "self" q3,.Name "text" q4] [] q5) q6,.Assign [.Attribute (.Name "self" q7) "text" q8] (.Name "text" q9) q10]
inductive BadAt (h:Heap) (C:Addr):Prop
 | mk nm q N bs hdct sn sub ab col dd k0 k1 k2 k3 k5 C1 mN mN1 c0 d1 cd sl fI oI fd (e0:hdct=true)
  (a1:h.get? C=some (excClassObj nm q C N bs (.ref C1 :: bmX) hdct sn sub ab col dd k0 k1 k2 k3 k5 "Exception.__new__")) (a2:h.Ns N mN) (a3:mN "__init__" = none) (a4:mN "__setattr__" = none) (a5:mN "text" = none)
  (a6:h.get? C1=some { cls:=c0,dict:=d1,data:=.cls cd,slots:=sl }) (a7:h.Ns cd.ns mN1) (a8:mN1 "__init__" = some (.ref fI)) (a9:mN1 "__setattr__" = none) (b1:mN1 "text" = none)
  (b2:h.get? fI=some oI) (b3:oI.cls=.type "function") (b4:oI.data=.func fd) (b5:h.CodeRec fd.code fd.qualname) (b6:InitFn fd):BadAt h C
section
variable {prog:Program} {w:World} {A:Around} {E:Value→Shared→Prop} {s:Shared}
theorem find_init:findCls [] (.type "Exception") (.type "type") "__init__" = some (.val (.builtin "Exception.__init__")):=by kernel_rfl
theorem look_text:typeLookup (.type "Exception") "text" = pure none:=by rw [typeLookup_type,builtinLookup_eq_fast];kernel_rfl
theorem call_attr {o:PySem.Expr} {name:Str} {apos pos:Pos} {args:List PySem.Expr} {env:Env} {Q:Value→Shared→Prop} (hbase:attributeBase o name env (eval o env)=eval o env)
  (hfew:((backTo pos (starEach args env)).all (fun x=>!x.1) && (backToKw pos (keywordEach [] env)).all (fun x=>x.1.isSome)
   && decide (args.length + ([]:List Keyword).length + (if ([]:List Keyword).isEmpty then 0 else 1) < 30))=true) (hline:(apos.endLine == pos.line)=true)
  (h:wpAny (model prog w) A (eval o env) (fun ov s₁=>∃ f first,(∀ {pl:Sem Bool} {Q:Value×List Value→Shared→Prop},(∀ tk,Q (f,first) { s₁ with toks:=tk })→wpAny (model prog w) A (getMethod ov name pl) Q E s₁)∧
   ∀ tk,wpAny (model prog w) A (callWith pos f first (backTo pos (starEach args env)) []) Q E { s₁ with toks:=tk }) E s):
  wpAny (model prog w) A (eval (.Call (.Attribute o name apos) args [] pos) env) Q E s:=by
 rw [arm_eval_Call,hbase]
 refine wpAny_bind (wpAny_mono h (fun ov s₁ h₁=>?_) fun _ _ e=>e)
 obtain⟨f,first,hg,hc⟩:=h₁
 refine wpAny_bind (wpAny_standAt ?_)
 have hform:methodCallForm (args.length + ([]:List Keyword).length) (backTo pos (starEach args env)) (backToKw pos (keywordEach [] env))=true:=hfew
 have hpos:methodCallPos true o env apos pos=pure pos:=by unfold methodCallPos;simp [hline]
 unfold methodCall
 rw [hform]
 refine wpAny_bind (wpAny_holding (hg fun tk=>?_))
 exact wpAny_bind (wpAny_of_eq hpos (hc tk))
theorem init_call {C e t0 fI C1:Addr} {oI:Obj} {fd:FuncData} {v:Value} {Q:Value→Shared→Prop} {mg mb:Str→Option Value}
  {nm q:Str} {N:Addr} {bs:List Value} {sn:List Str} {sub:List Value} {ab:Bool} {col:Option Bool} {dd:Option Addr} {k0 k1 k2 k3 k5:Option Value} {mN mN1:Str→Option Value} {c0:Value} {d1:Option Addr} {cd:ClassData} {sl:Array (Option Value)}
  (a1:s.heap.get? C=some (excClassObj nm q C N bs (.ref C1 :: bmX) true sn sub ab col dd k0 k1 k2 k3 k5 "Exception.__new__")) (a2:s.heap.Ns N mN) (a4:mN "__setattr__" = none) (a5:mN "text" = none)
  (a6:s.heap.get? C1=some { cls:=c0,dict:=d1,data:=.cls cd,slots:=sl }) (a7:s.heap.Ns cd.ns mN1) (a9:mN1 "__setattr__" = none) (b1:mN1 "text" = none)
  (b2:s.heap.get? fI=some oI) (b4:oI.data=.func fd) (b5:s.heap.CodeRec fd.code fd.qualname) (I:InitFn fd)
  (hdep:A.depth < recursionLimit) (hlim:s.heap.NoLimit) (hg:s.heap.Ns mainGlobals mg) (hgx:mg "Exception" = none) (hb:s.heap.Ns builtinsNs mb) (hbx:mb "Exception" = some (.type "Exception"))
  (he:s.heap.get? e=some { cls:=.ref C,data:=.fields #[.ref t0,.none,.none,.none,.bool false,.none] })
  (hCe:C≠e) (hNe:N≠e) (hC1e:C1≠e) (hnse:cd.ns≠e)
  (hq:∀ h' tk dx t1,h'.get? e=some { cls:=.ref C,dict:=some dx,data:=.fields #[.ref t1,.none,.none,.none,.bool false,.none] }→(∀ b o,b≠e→s.heap.get? b=some o→h'.get? b=some o)→Q .none { s with heap:=h',toks:=tk }):
  wpAny (model prog w) A (call (.ref fI) [.ref e,v]) Q E s:=by
 obtain⟨q1,q2,q3,q4,q5,q6,q7,q8,q9,q10,hline,hbody⟩:=I.body
 have hbind:=bind_plain (fd:=fd) (vs:=[.ref e,v]) I.p1 I.args I.p2 I.p3 I.p4 I.df (by decide) rfl
 have hker:∀ (x:Str),(callEnvC fd s.heap.objs.size fI).kindOf x=([(("self" : Str),NameKind.local),(("text" : Str),NameKind.local),(("Exception" : Str),NameKind.globalImplicit)]:List (Str×NameKind)).lookup x:=fun x=>by
  show fd.scope.names.lookup x=_
  rw [I.names]
 refine wpAny_call (codeAny_call_cells hdep b2 b4 hlim b5 hbody hbind I.clo (fun x hx=>?_) (fun s₁ X=>?_) I.co I.gen I.kind)
 ·rw [I.names]
  have hx':x=(("self" : Str),Value.ref e)∨x=(("text" : Str),v):=by simpa using hx
  rcases hx' with rfl | rfl
  ·exact .inl (show([(("self" : Str),NameKind.local),(("text" : Str),NameKind.local),(("Exception" : Str),NameKind.globalImplicit)]:List (Str×NameKind)).lookup ("self" : Str)=some NameKind.local by decide)
  ·exact .inl (show([(("self" : Str),NameKind.local),(("text" : Str),NameKind.local),(("Exception" : Str),NameKind.globalImplicit)]:List (Str×NameKind)).lookup ("text" : Str)=some NameKind.local by decide)
 ·have hk:(callEnvC fd s.heap.objs.size fI).scope.kind=.function:=I.kind
  have kself:(callEnvC fd s.heap.objs.size fI).kindOf "self" = some .local:=by rw [hker];decide
  have ktext:(callEnvC fd s.heap.objs.size fI).kindOf "text" = some .local:=by rw [hker];decide
  have kexc:(callEnvC fd s.heap.objs.size fI).kindOf "Exception" = some .globalImplicit:=by rw [hker];decide
  have hglo:(callEnvC fd s.heap.objs.size fI).globals=mainGlobals:=I.glo
  have hblt:(callEnvC fd s.heap.objs.size fI).builtins=builtinsNs:=I.blt
  have hint:interactive (callEnvC fd s.heap.objs.size fI)=false:=by unfold interactive;rw [hk];rfl
  have mself:bindL (callEnvC fd s.heap.objs.size fI).kindOf ([("self" : Str),("text" : Str)].zip [Value.ref e,v]) (fun _=>none) "self" = some (.ref e):=by
   have:=bind_get (kindOf:=(callEnvC fd s.heap.objs.size fI).kindOf) (n:="self") (v:=.ref e) (binds:=[("self" : Str),("text" : Str)].zip [Value.ref e,v]) (m:=fun _=>none) (cm:=fun _=>none) (by show([("self" : Str),("text" : Str)]:List Str).Nodup;decide) (.head _)
   rwa [if_pos kself] at this
  have mtext:bindL (callEnvC fd s.heap.objs.size fI).kindOf ([("self" : Str),("text" : Str)].zip [Value.ref e,v]) (fun _=>none) "text" = some v:=by
   have:=bind_get (kindOf:=(callEnvC fd s.heap.objs.size fI).kindOf) (n:="text") (v:=v) (binds:=[("self" : Str),("text" : Str)].zip [Value.ref e,v]) (m:=fun _=>none) (cm:=fun _=>none) (by show([("self" : Str),("text" : Str)]:List Str).Nodup;decide) (.tail _ (.head _))
   rwa [if_pos ktext] at this
  obtain⟨⟨hh,tk,rfl⟩,ns,keep,fresh⟩:=X.toInCall
  dsimp only at ns keep fresh
  generalize hm:bindL (callEnvC fd s.heap.objs.size fI).kindOf ([("self" : Str),("text" : Str)].zip [Value.ref e,v]) (fun _=>none)=m at ns mself mtext
  have hLe:(callEnvC fd s.heap.objs.size fI).locals≠e:=Nat.ne_of_gt (Heap.lt_size he)
  refine wpAny_execs_cons (wpAny_Expr (call_attr rfl rfl hline (Name_function_global hk kexc (loadGlobal_builtin (mg:=mg) (mb:=mb) (by rw [hglo];exact hg.keeps keep) hgx (by rw [hblt];exact hb.keeps keep) hbx ?_) (by decide))) hint rfl)
  refine⟨.builtin "Exception.__init__",[],fun {pl Q'} hq'=>method_type (K:=[]) (nw_fr ns) (fun p o hp=>by simp at hp) (by first | rfl | kernel_rfl) (by decide +kernel) find_init (by decide +kernel) (hq' _),fun tk2=>?_⟩
  refine callWith_builtin1 ?_ rfl rfl
  refine args_cons ?_ rfl
  refine wpAny_Name (wpAny_loadName_local hk kself ns mself ?_) (by decide)
  refine args_cons ?_ rfl
  refine wpAny_Name (wpAny_loadName_local hk ktext ns mtext ?_) (by decide)
  refine args_nil ?_
  refine base_init PySem.F.excBase_Exception (keep _ _ a1) (by rw [List.contains_cons,List.contains_cons,PySem.F.excBase_Exception.hasB];simp) (keep _ _ he) (by rw [sizeLine_eq];exact(show 1≤16777216 by decide)) fun h2 he2 hk2=>?_
  have ns2:=ns.at' fun o x=>hk2 _ o hLe x
  have up:∀ b o,b≠e→s.heap.get? b=some o→h2.get? b=some o:=fun b o hb x=>hk2 b o hb (keep b o x)
  refine wpAny_execs_cons (plainObj_wpAny_Assign_Attribute (wpAny_Name (wpAny_loadName_local hk ktext ns2 mtext (wpAny_Name (wpAny_loadName_local hk kself ns2 mself ?_) (by decide))) (by decide)) rfl)
  have upn:∀ {b:Addr} {m:Str→Option Value},b≠e→s.heap.Ns b m→h2.Ns b m:=fun hb hn=>hn.at' fun o x=>up _ o hb x
  refine store_exc PySem.F.store_Exception (up _ _ hCe a1) (upn hNe a2) a4 a5 (up _ _ hC1e a6) (upn hnse a7) a9 b1 look_text he2 rfl (fun c q=>by cases q) rfl fun h3 tk3 dx he3 hk3=>?_
  exact wpAny_execs_nil (hq h3 tk3 dx _ he3 fun b o hb x=>hk3 b o hb (up b o hb x))
end
end Mine

namespace Mine
open PySem PySem.W PySem.Calls PyProof.Rows PyProof.V PySem.Spec
noncomputable def isComp:PySem.Expr→Bool
 | .ListComp ..=>true
 | .SetComp ..=>true
 | .DictComp ..=>true
 | _=>false
noncomputable def swUsed (K:Ck) (x:Str) (px:Pos):PySem.Expr→Bool
 | .ListComp _ _ scope p=>K.loc x && px.line == p.line && !(scope.names.any fun (n,k)=>n == x && (k == .local || k == .cell))
 | _=>false
noncomputable def chkNs:List Nat→Ck→List PySem.Expr→Bool
 | [],_,l=>on0 l true
 | i :: is,K,l=>onC l fun e es=>onName e fun x _=>K.ctx.lookup x == some i && chkNs is K es
noncomputable def isTupE:PySem.Expr→Bool
 | .Tuple ..=>true
 | _=>false
noncomputable def stReturn (e:Stmt) (f:Option PySem.Expr→Pos→Bool):Bool:=onIx e.ctorIdx 3 fun h=>Stmt.Return.elim (motive_2:=fun _=>Bool) e h f
theorem stReturn_ok {P:Stmt→Prop} {e:Stmt} {f:Option PySem.Expr→Pos→Bool} (h:stReturn e f=true) (k:∀ a b,f a b=true→P (.Return a b)):P e:=
 onIx_ok h fun hi=>Stmt.Return.elim (motive_2:=fun e=>∀ h:e.ctorIdx=3,Stmt.Return.elim (motive_2:=fun _=>Bool) e h f=true→P e) e hi (fun a b _=>k a b) hi
noncomputable def stAssign (e:Stmt) (f:List PySem.Expr→PySem.Expr→Pos→Bool):Bool:=onIx e.ctorIdx 5 fun h=>Stmt.Assign.elim (motive_2:=fun _=>Bool) e h f
theorem stAssign_ok {P:Stmt→Prop} {e:Stmt} {f:List PySem.Expr→PySem.Expr→Pos→Bool} (h:stAssign e f=true) (k:∀ a b c,f a b c=true→P (.Assign a b c)):P e:=
 onIx_ok h fun hi=>Stmt.Assign.elim (motive_2:=fun e=>∀ h:e.ctorIdx=5,Stmt.Assign.elim (motive_2:=fun _=>Bool) e h f=true→P e) e hi (fun a b c _=>k a b c) hi
noncomputable def stFor (e:Stmt) (f:PySem.Expr→PySem.Expr→List Stmt→List Stmt→Pos→Bool):Bool:=onIx e.ctorIdx 9 fun h=>Stmt.For.elim (motive_2:=fun _=>Bool) e h f
theorem stFor_ok {P:Stmt→Prop} {e:Stmt} {f:PySem.Expr→PySem.Expr→List Stmt→List Stmt→Pos→Bool} (h:stFor e f=true) (k:∀ a b c d g,f a b c d g=true→P (.For a b c d g)):P e:=
 onIx_ok h fun hi=>Stmt.For.elim (motive_2:=fun e=>∀ h:e.ctorIdx=9,Stmt.For.elim (motive_2:=fun _=>Bool) e h f=true→P e) e hi (fun a b c d g _=>k a b c d g) hi
noncomputable def stWhile (e:Stmt) (f:PySem.Expr→List Stmt→List Stmt→Pos→Bool):Bool:=onIx e.ctorIdx 11 fun h=>Stmt.While.elim (motive_2:=fun _=>Bool) e h f
theorem stWhile_ok {P:Stmt→Prop} {e:Stmt} {f:PySem.Expr→List Stmt→List Stmt→Pos→Bool} (h:stWhile e f=true) (k:∀ a b c d,f a b c d=true→P (.While a b c d)):P e:=
 onIx_ok h fun hi=>Stmt.While.elim (motive_2:=fun e=>∀ h:e.ctorIdx=11,Stmt.While.elim (motive_2:=fun _=>Bool) e h f=true→P e) e hi (fun a b c d _=>k a b c d) hi
noncomputable def stIf (e:Stmt) (f:PySem.Expr→List Stmt→List Stmt→Pos→Bool):Bool:=onIx e.ctorIdx 12 fun h=>Stmt.If.elim (motive_2:=fun _=>Bool) e h f
theorem stIf_ok {P:Stmt→Prop} {e:Stmt} {f:PySem.Expr→List Stmt→List Stmt→Pos→Bool} (h:stIf e f=true) (k:∀ a b c d,f a b c d=true→P (.If a b c d)):P e:=
 onIx_ok h fun hi=>Stmt.If.elim (motive_2:=fun e=>∀ h:e.ctorIdx=12,Stmt.If.elim (motive_2:=fun _=>Bool) e h f=true→P e) e hi (fun a b c d _=>k a b c d) hi
noncomputable def stRaise (e:Stmt) (f:Option PySem.Expr→Option PySem.Expr→Pos→Bool):Bool:=onIx e.ctorIdx 16 fun h=>Stmt.Raise.elim (motive_2:=fun _=>Bool) e h f
theorem stRaise_ok {P:Stmt→Prop} {e:Stmt} {f:Option PySem.Expr→Option PySem.Expr→Pos→Bool} (h:stRaise e f=true) (k:∀ a b c,f a b c=true→P (.Raise a b c)):P e:=
 onIx_ok h fun hi=>Stmt.Raise.elim (motive_2:=fun e=>∀ h:e.ctorIdx=16,Stmt.Raise.elim (motive_2:=fun _=>Bool) e h f=true→P e) e hi (fun a b c _=>k a b c) hi
noncomputable def stTry (e:Stmt) (f:List Stmt→List ExceptHandler→List Stmt→List Stmt→Pos→Bool):Bool:=onIx e.ctorIdx 17 fun h=>Stmt.Try.elim (motive_2:=fun _=>Bool) e h f
theorem stTry_ok {P:Stmt→Prop} {e:Stmt} {f:List Stmt→List ExceptHandler→List Stmt→List Stmt→Pos→Bool} (h:stTry e f=true) (k:∀ a b c d g,f a b c d g=true→P (.Try a b c d g)):P e:=
 onIx_ok h fun hi=>Stmt.Try.elim (motive_2:=fun e=>∀ h:e.ctorIdx=17,Stmt.Try.elim (motive_2:=fun _=>Bool) e h f=true→P e) e hi (fun a b c d g _=>k a b c d g) hi
noncomputable def stExpr (e:Stmt) (f:PySem.Expr→Pos→Bool):Bool:=onIx e.ctorIdx 24 fun h=>Stmt.Expr.elim (motive_2:=fun _=>Bool) e h f
theorem stExpr_ok {P:Stmt→Prop} {e:Stmt} {f:PySem.Expr→Pos→Bool} (h:stExpr e f=true) (k:∀ a b,f a b=true→P (.Expr a b)):P e:=
 onIx_ok h fun hi=>Stmt.Expr.elim (motive_2:=fun e=>∀ h:e.ctorIdx=24,Stmt.Expr.elim (motive_2:=fun _=>Bool) e h f=true→P e) e hi (fun a b _=>k a b) hi
noncomputable def stContinue (e:Stmt) (f:Pos→Bool):Bool:=onIx e.ctorIdx 27 fun h=>Stmt.Continue.elim (motive_2:=fun _=>Bool) e h f
theorem stContinue_ok {P:Stmt→Prop} {e:Stmt} {f:Pos→Bool} (h:stContinue e f=true) (k:∀ a,f a=true→P (.Continue a)):P e:=
 onIx_ok h fun hi=>Stmt.Continue.elim (motive_2:=fun e=>∀ h:e.ctorIdx=27,Stmt.Continue.elim (motive_2:=fun _=>Bool) e h f=true→P e) e hi (fun a _=>k a) hi
noncomputable def rngA (a b:X) (K:Ck) (args:List PySem.Expr):Bool:=match args with
 | []=>false
 | i :: r=>(match r with
  | []=>isNon a && chk b K i
  | j :: r=>on0 r (!isNon a && (chk a K i && chk b K j)))
noncomputable def hdOf (h:ExceptHandler) (f:Option PySem.Expr→Option Str→List Stmt→Bool):Bool:=match h with
 | .ExceptHandler t n b _=>f t n b
theorem hdOf_ok {P:ExceptHandler→Prop} {h:ExceptHandler} {f:Option PySem.Expr→Option Str→List Stmt→Bool} (hc:hdOf h f=true) (k:∀ t n b p,f t n b=true→P (.ExceptHandler t n b p)):P h:=by
 cases h with
 | ExceptHandler t n b p=>exact k t n b p hc
mutual
noncomputable def chkS:St→Ck→Stmt→Bool
 | .asg i e,K,t=>stAssign t fun ts v _=>on1 ts fun tg=>onName tg fun x px=>K.ctx.lookup x == some i && (chk e K v && (!isComp v || swUsed K x px v))
 | .asgT is e,K,t=>stAssign t fun ts v _=>on1 ts fun tg=>onTuple tg fun ts _ _=>chkNs is K ts && (chk e K v && !isTupE v)
 | .setI i a e,K,t=>stAssign t fun ts v _=>on1 ts fun tg=>onSubscript tg fun b s _=>onName b fun x _=>K.ctx.lookup x == some i && (notDebug x && (chk a K s && (chk e K v && !isComp v)))
 | .app i e,K,t=>stExpr t fun c _=>onCall c fun f args ks p=>onAttribute f fun o n ap=>onName o fun x _=>on1 args fun v=>on0 ks (n == ("append" : Str) && (K.ctx.lookup x == some i && (notDebug x && (ap.endLine == p.line && chk e K v))))
 | .ret e,K,t=>stReturn t fun o _=>onS o fun v=>chk e K v
 | .iff c a b,K,t=>stIf t fun t x y _=>chk c K t && (chkSs a K x && chkSs b K y)
 | .forE i e body,K,t=>stFor t fun tg iter b el _=>onName tg fun x _=>on0 el (K.ctx.lookup x == some i && (noSet iter && (chk e K iter && chkSs body K b)))
 | .forT is e body,K,t=>stFor t fun tg iter b el _=>onTuple tg fun es _ _=>on0 el (chkNs is K es && (noSet iter && (chk e K iter && chkSs body K b)))
 | .forR i a b body,K,t=>stFor t fun tg iter bd el _=>onName tg fun x _=>on0 el (onNC iter fun y args=>y == ("range" : Str) && (K.ctx.lookup x == some i && (chkSs body K bd && (K.glb "range" && (notDebug "range" && rngA a b K args)))))
 | .whil c body,K,t=>stWhile t fun t b el _=>on0 el (chk c K t && chkSs body K b)
 | .rais e,K,t=>stRaise t fun o c _=>onS o fun x=>onN c (onNC x fun x args=>on1 args fun v=>x == ("BadMove" : Str) && (K.glb "BadMove" && (notDebug "BadMove" && chk e K v)))
 | .tryr e,K,t=>stTry t fun bd hs el fi _=>on0 el (on0 fi (on1 bd fun b=>stReturn b fun o _=>onS o fun v=>on1 hs fun h=>hdOf h fun ty nm hb=>onS ty fun x=>onName x fun x _=>onN nm (on1 hb fun b=>stReturn b fun o _=>onS o fun c=>onConstant c fun c _ _=>
   x == ("BadMove" : Str) && (K.glb "BadMove" && (notDebug "BadMove" && (chk e K v && optIs (constD c) .none))))))
 | .cont,_,t=>stContinue t fun _=>true
 | .stk,_,_=>true
noncomputable def chkSs:List St→Ck→List Stmt→Bool
 | [],_,t=>on0 t true
 | s :: r,K,t=>onC t fun t u=>chkS s K t && chkSs r K u
end
section
variable {K:Ck} {t:Stmt} {P:Stmt→Prop}
theorem cAsg {i:Nat} {e:X} (hc:chkS (.asg i e) K t=true) (k:∀ x px v p,K.ctx.lookup x=some i→chk e K v=true→(isComp v=false∨swUsed K x px v=true)→P (.Assign [.Name x px] v p)):P t:=
 stAssign_ok hc fun _ v p h=>on1_ok (P:=fun ts=>P (.Assign ts v p)) h fun _ h=>onName_ok (P:=fun tg=>P (.Assign [tg] v p)) h fun x px h=>k x px v p (eq_of_beq (a2 h).1) (a2 (a2 h).2).1 ((Bool.or_eq_true_iff.mp (a2 (a2 h).2).2).imp nt id)
theorem cAsgT {is:List Nat} {e:X} (hc:chkS (.asgT is e) K t=true) (k:∀ ts n q v p,chkNs is K ts=true→chk e K v=true→isTupE v=false→P (.Assign [.Tuple ts n q] v p)):P t:=
 stAssign_ok hc fun _ v p h=>on1_ok (P:=fun ts=>P (.Assign ts v p)) h fun _ h=>onTuple_ok (P:=fun tg=>P (.Assign [tg] v p)) h fun ts n q h=>k ts n q v p (a2 h).1 (a2 (a2 h).2).1 (nt (a2 (a2 h).2).2)
theorem cSet {i:Nat} {a e:X} (hc:chkS (.setI i a e) K t=true) (k:∀ x p s q v r,K.ctx.lookup x=some i→notDebug x=true→chk a K s=true→chk e K v=true→isComp v=false→P (.Assign [.Subscript (.Name x p) s q] v r)):P t:=
 stAssign_ok hc fun _ v r h=>on1_ok (P:=fun ts=>P (.Assign ts v r)) h fun _ h=>onSubscript_ok (P:=fun tg=>P (.Assign [tg] v r)) h fun _ s q h=>onName_ok (P:=fun b=>P (.Assign [.Subscript b s q] v r)) h fun x p h=>
  k x p s q v r (eq_of_beq (a2 h).1) (a2 (a2 h).2).1 (a2 (a2 (a2 h).2).2).1 (a2 (a2 (a2 (a2 h).2).2).2).1 (nt (a2 (a2 (a2 (a2 h).2).2).2).2)
theorem cApp {i:Nat} {e:X} (hc:chkS (.app i e) K t=true) (k:∀ x q ap v p r,K.ctx.lookup x=some i→notDebug x=true→(ap.endLine == p.line)=true→chk e K v=true→P (.Expr (.Call (.Attribute (.Name x q) "append" ap) [v] [] p) r)):P t:=
 stExpr_ok hc fun _ r h=>onCall_ok (P:=fun c=>P (.Expr c r)) h fun _ args ks p h=>onAttribute_ok (P:=fun f=>P (.Expr (.Call f args ks p) r)) h fun _ n ap h=>onName_ok (P:=fun o=>P (.Expr (.Call (.Attribute o n ap) args ks p) r)) h fun x q h=>
  on1_ok (P:=fun args=>P (.Expr (.Call (.Attribute (.Name x q) n ap) args ks p) r)) h fun v h=>on0_ok (P:=fun ks=>P (.Expr (.Call (.Attribute (.Name x q) n ap) [v] ks p) r)) h fun h=>
  eqq (P:=fun n=>P (.Expr (.Call (.Attribute (.Name x q) n ap) [v] [] p) r)) h fun h=>k x q ap v p r (eq_of_beq (a2 h).1) (a2 (a2 h).2).1 (a2 (a2 (a2 h).2).2).1 (a2 (a2 (a2 h).2).2).2
theorem cRet {e:X} (hc:chkS (.ret e) K t=true) (k:∀ v p,chk e K v=true→P (.Return (some v) p)):P t:=
 stReturn_ok hc fun _ p h=>onS_ok (P:=fun o=>P (.Return o p)) h fun v h=>k v p h
theorem cIff {c:X} {a b:List St} (hc:chkS (.iff c a b) K t=true) (k:∀ v x y p,chk c K v=true→chkSs a K x=true→chkSs b K y=true→P (.If v x y p)):P t:=
 stIf_ok hc fun v x y p h=>k v x y p (a2 h).1 (a2 (a2 h).2).1 (a2 (a2 h).2).2
theorem cForE {i:Nat} {e:X} {b:List St} (hc:chkS (.forE i e b) K t=true) (k:∀ x q it bd p,K.ctx.lookup x=some i→noSet it=true→chk e K it=true→chkSs b K bd=true→P (.For (.Name x q) it bd [] p)):P t:=
 stFor_ok hc fun _ it bd el p h=>onName_ok (P:=fun tg=>P (.For tg it bd el p)) h fun x q h=>on0_ok (P:=fun el=>P (.For (.Name x q) it bd el p)) h fun h=>k x q it bd p (eq_of_beq (a2 h).1) (a2 (a2 h).2).1 (a2 (a2 (a2 h).2).2).1 (a2 (a2 (a2 h).2).2).2
theorem cForT {is:List Nat} {e:X} {b:List St} (hc:chkS (.forT is e b) K t=true) (k:∀ es n q it bd p,chkNs is K es=true→noSet it=true→chk e K it=true→chkSs b K bd=true→P (.For (.Tuple es n q) it bd [] p)):P t:=
 stFor_ok hc fun _ it bd el p h=>onTuple_ok (P:=fun tg=>P (.For tg it bd el p)) h fun es n q h=>on0_ok (P:=fun el=>P (.For (.Tuple es n q) it bd el p)) h fun h=>k es n q it bd p (a2 h).1 (a2 (a2 h).2).1 (a2 (a2 (a2 h).2).2).1 (a2 (a2 (a2 h).2).2).2
theorem rngA_ok {a b:X} {args:List PySem.Expr} (h:rngA a b K args=true):(∃ j,args=[j]∧isNon a=true∧chk b K j=true)∨∃ j l,args=[j,l]∧isNon a=false∧chk a K j=true∧chk b K l=true:=by
 cases args with
 | nil=>exact ff h
 | cons j r=>
  cases r with
  | nil=>exact .inl ⟨j,rfl,a2 h⟩
  | cons l r=>
   refine on0_ok (P:=fun r=>(∃ j',j :: l :: r=[j']∧isNon a=true∧chk b K j'=true)∨∃ j' l',j :: l :: r=[j',l']∧isNon a=false∧chk a K j'=true∧chk b K l'=true) h fun h=>?_
   exact .inr ⟨j,l,rfl,nt (a2 h).1,a2 (a2 h).2⟩
theorem cForR {i:Nat} {a b:X} {body:List St} (hc:chkS (.forR i a b body) K t=true) (k:∀ x q py args p' bd p,K.ctx.lookup x=some i→chkSs body K bd=true→K.glb "range" = true→notDebug "range" = true→
  ((∃ j,args=[j]∧isNon a=true∧chk b K j=true)∨∃ j l,args=[j,l]∧isNon a=false∧chk a K j=true∧chk b K l=true)→P (.For (.Name x q) (.Call (.Name "range" py) args [] p') bd [] p)):P t:=
 stFor_ok hc fun _ it bd el p h=>onName_ok (P:=fun tg=>P (.For tg it bd el p)) h fun x q h=>on0_ok (P:=fun el=>P (.For (.Name x q) it bd el p)) h fun h=>onNC_ok (P:=fun it=>P (.For (.Name x q) it bd [] p)) h fun y py args p' h=>
  eqq (P:=fun y=>P (.For (.Name x q) (.Call (.Name y py) args [] p') bd [] p)) h fun h=>k x q py args p' bd p (eq_of_beq (a2 h).1) (a2 (a2 h).2).1 (a2 (a2 (a2 h).2).2).1 (a2 (a2 (a2 (a2 h).2).2).2).1 (rngA_ok (a2 (a2 (a2 (a2 h).2).2).2).2)
theorem cWhil {c:X} {b:List St} (hc:chkS (.whil c b) K t=true) (k:∀ v bd p,chk c K v=true→chkSs b K bd=true→P (.While v bd [] p)):P t:=
 stWhile_ok hc fun v bd el p h=>on0_ok (P:=fun el=>P (.While v bd el p)) h fun h=>k v bd p (a2 h).1 (a2 h).2
theorem cRais {e:X} (hc:chkS (.rais e) K t=true) (k:∀ q v r p,K.glb "BadMove" = true→notDebug "BadMove" = true→chk e K v=true→P (.Raise (some (.Call (.Name "BadMove" q) [v] [] r)) none p)):P t:=
 stRaise_ok hc fun o c p h=>onS_ok (P:=fun o=>P (.Raise o c p)) h fun x h=>onN_ok (P:=fun c=>P (.Raise (some x) c p)) h fun h=>onNC_ok (P:=fun x=>P (.Raise (some x) none p)) h fun x q args r h=>
  on1_ok (P:=fun args=>P (.Raise (some (.Call (.Name x q) args [] r)) none p)) h fun v h=>eqq (P:=fun x=>P (.Raise (some (.Call (.Name x q) [v] [] r)) none p)) h fun h=>k q v r p (a2 h).1 (a2 (a2 h).2).1 (a2 (a2 h).2).2
theorem cTryr {e:X} (hc:chkS (.tryr e) K t=true) (k:∀ v p1 p2 c n p3 p4 p5 p6,K.glb "BadMove" = true→notDebug "BadMove" = true→chk e K v=true→constD c=some .none→
  P (.Try [.Return (some v) p1] [.ExceptHandler (some (.Name "BadMove" p2)) none [.Return (some (.Constant c n p3)) p4] p5] [] [] p6)):P t:=
 stTry_ok hc fun bd hs el fi p6 h=>on0_ok (P:=fun el=>P (.Try bd hs el fi p6)) h fun h=>on0_ok (P:=fun fi=>P (.Try bd hs [] fi p6)) h fun h=>on1_ok (P:=fun bd=>P (.Try bd hs [] [] p6)) h fun _ h=>
  stReturn_ok (P:=fun b=>P (.Try [b] hs [] [] p6)) h fun _ p1 h=>onS_ok (P:=fun o=>P (.Try [.Return o p1] hs [] [] p6)) h fun v h=>on1_ok (P:=fun hs=>P (.Try [.Return (some v) p1] hs [] [] p6)) h fun _ h=>
  hdOf_ok (P:=fun hd=>P (.Try [.Return (some v) p1] [hd] [] [] p6)) h fun ty nm hb p5 h=>onS_ok (P:=fun ty=>P (.Try [.Return (some v) p1] [.ExceptHandler ty nm hb p5] [] [] p6)) h fun _ h=>
  onName_ok (P:=fun x=>P (.Try [.Return (some v) p1] [.ExceptHandler (some x) nm hb p5] [] [] p6)) h fun x p2 h=>onN_ok (P:=fun nm=>P (.Try [.Return (some v) p1] [.ExceptHandler (some (.Name x p2)) nm hb p5] [] [] p6)) h fun h=>
  on1_ok (P:=fun hb=>P (.Try [.Return (some v) p1] [.ExceptHandler (some (.Name x p2)) none hb p5] [] [] p6)) h fun _ h=>stReturn_ok (P:=fun b=>P (.Try [.Return (some v) p1] [.ExceptHandler (some (.Name x p2)) none [b] p5] [] [] p6)) h fun _ p4 h=>
  onS_ok (P:=fun o=>P (.Try [.Return (some v) p1] [.ExceptHandler (some (.Name x p2)) none [.Return o p4] p5] [] [] p6)) h fun _ h=>onConstant_ok (P:=fun c=>P (.Try [.Return (some v) p1] [.ExceptHandler (some (.Name x p2)) none [.Return (some c) p4] p5] [] [] p6)) h fun c n p3 h=>
  eqq (P:=fun x=>P (.Try [.Return (some v) p1] [.ExceptHandler (some (.Name x p2)) none [.Return (some (.Constant c n p3)) p4] p5] [] [] p6)) h fun h=>
  k v p1 p2 c n p3 p4 p5 p6 (a2 h).1 (a2 (a2 h).2).1 (a2 (a2 (a2 h).2).2).1 (optIs_eq (a2 (a2 (a2 h).2).2).2)
theorem vCont_eq (hc:chkS .cont K t=true):∃ p,t=.Continue p:=
 stContinue_ok (P:=fun t=>∃ p,t=.Continue p) hc fun p _=>⟨p,rfl⟩
end
inductive UpAt (C:Cx) (B:Heap) (e:Addr) (h:Heap):Prop
 | fly {a0:Value} (x:Heap.FlyingW B C.outs e C.cls a0 h)
 | new {oe:Obj} {vs:Array Value} {a0:Value} (st:B.StaysIn h) (nw:B.get? e=none) (fr:h.FunFrames B C.outs) (ho:h.get? e=some oe) (hc:oe.cls=C.cls) (hd:oe.data=.fields vs) (h1:vs[1]?=some .none) (h0:vs[0]?=some a0)
inductive UpI (C:Cx) (h₀:Heap) (gs:Array GenState) (dr:Drawn) (os:OsState) (e:Value) (s':Shared):Prop
 | mk (ea:Addr) (h':Heap) (tk:Nat) (B:Heap) (e1:e=.ref ea) (e2:s'=⟨h',gs,dr,tk,os⟩) (up:UpAt C B ea h') (h1:∀ b o,b ∉ C.FS→h₀.get? b=some o→B.get? b=some o)
  (h2:∀ b o,h₀.get? b=some o→b ∈ C.FS→∃ sl,h'.get? b=some { o with slots:=sl }):UpI C h₀ gs dr os e s'
noncomputable abbrev Up (C:Cx) (h₀:Heap) (s:Shared) (e:Value) (s':Shared):Prop:=UpI C h₀ s.gens s.drawn s.os e s'
structure Inv (C:Cx) (K:Ck) (h₀:Heap) (T₀:Addr→Prop) (m cm:Str→Option Value) (T:Addr→Prop) (h:Heap) (σ:Sg):Prop where
 rel:Rel C K m cm T h σ
 ext:TExt T₀ h₀ T h
 keep:∀ b o,h₀.get? b=some o→∃ sl,h.get? b=some { o with slots:=sl }∧(b ∉ C.FS→sl=o.slots)
 own:∀ x i d a,K.ctx.lookup x=some i→σ i=some ⟨d,true⟩→vof C m cm x=some (.ref a)→h₀.get? a=none
 apart:∀ x y i j d e a,K.ctx.lookup x=some i→K.ctx.lookup y=some j→σ i=some ⟨d,true⟩→σ j=some ⟨e,true⟩→vof C m cm x=some (.ref a)→vof C m cm y=some (.ref a)→i=j
structure ExcOk (C:Cx) (W:Wld):Prop where
 stack:C.A.frames=some C.outs
 outs:∃ rest,C.outs=C.env :: rest
 fr:C.env.frame=some C.L
 dep:C.A.depth≤900
 cls:∃ cb,C.cls=.ref cb∧W.mg "BadMove" = some (.ref cb)∧BadAt C.base cb
 mgx:W.mg "Exception" = none
 mbx:W.mb "Exception" = some (.type "Exception")
 lim:C.base.NoLimit
structure Fix (C:Cx) (K:Ck) (W:Wld) (Φ:Nat→List D→Ev (D×Kd)) (h₀:Heap) (E:Value→Shared→Prop):Prop where
 sit:Sit C K W Φ
 ln:h₀.get? C.L=none
 cn:∀ p ∈ C.env.cells,h₀.get? p.2=none
 cf:∀ p ∈ C.env.cells,p.2 ∉ C.FS
 inj:∀ x y i,K.ctx.lookup x=some i→K.ctx.lookup y=some i→x=y
 own:PassesOwn C.M C.A C.env E
 exc:ExcOk C W
inductive FlOk (C:Cx) (T:Addr→Prop) (h₀ h:Heap):Fl→Flow→Prop
 | next:FlOk C T h₀ h .next .next
 | cont:FlOk C T h₀ h .cont .cont
 | ret {d:D} {k:Kd} {v:Value} (hk:k.sto=true) (r:Res C T h₀ h v (d,k)):FlOk C T h₀ h (.ret d k) (.ret v)
noncomputable def SPost (C:Cx) (K:Ck) (h₀:Heap) (T₀:Addr→Prop) (r:Ev (Fl×Sg)) (s:Shared) (Q:Flow→Shared→Prop) (E:Value→Shared→Prop):Prop:=
 match r with
 | Option.none=>False
 | some (.ok (fl,σ'))=>∀ f h' tk T' m' cm',Inv C K h₀ T₀ m' cm' T' h' σ'→FlOk C T' h₀ h' fl f→Q f { s with heap:=h',toks:=tk }
 | some .bad=>∀ e s',Up C h₀ s e s'→E e s'
noncomputable def IsS (W:Wld) (Φ:Nat→List D→Ev (D×Kd)) (st:St):Prop:=∀ {C:Cx} {K:Ck} {e:Stmt} {σ:Sg} {m cm:Str→Option Value} {T:Addr→Prop} {h₀:Heap} {T₀:Addr→Prop} {s:Shared} {Q:Flow→Shared→Prop} {E:Value→Shared→Prop},
 chkS st K e=true→Fix C K W Φ h₀ E→Inv C K h₀ T₀ m cm T s.heap σ→SPost C K h₀ T₀ (ex Φ st σ) s Q E→wpAny C.M C.A (exec e C.env) Q E s
noncomputable def IsSs (W:Wld) (Φ:Nat→List D→Ev (D×Kd)) (l:List St):Prop:=∀ {C:Cx} {K:Ck} {e:List Stmt} {σ:Sg} {m cm:Str→Option Value} {T:Addr→Prop} {h₀:Heap} {T₀:Addr→Prop} {s:Shared} {Q:Flow→Shared→Prop} {E:Value→Shared→Prop},
 chkSs l K e=true→Fix C K W Φ h₀ E→Inv C K h₀ T₀ m cm T s.heap σ→SPost C K h₀ T₀ (exs Φ l σ) s Q E→wpAny C.M C.A (execs e C.env) Q E s
section
variable {C:Cx} {K:Ck} {W:Wld} {Φ:Nat→List D→Ev (D×Kd)} {m m' cm cm':Str→Option Value} {T T' T₀:Addr→Prop} {s:Shared} {σ σ':Sg} {h h' h₀ h2:Heap}
 {Q:Flow→Shared→Prop} {E:Value→Shared→Prop}
theorem Inv.gone (I:Inv C K h₀ T₀ m cm T h σ) {a:Addr} (e:h.get? a=none):h₀.get? a=none:=by
 cases q:h₀.get? a with
 | none=>rfl
 | some o=>obtain⟨sl,e1,_⟩:=I.keep a o q;rw [e] at e1;cases e1
theorem Inv.step (I:Inv C K h₀ T₀ m cm T h σ) (F:Fix C K W Φ h₀ E) (k:Kx C m h h') (t:TExt T h T' h'):Inv C K h₀ T₀ m cm T' h' σ:=
  ⟨I.rel.step F.sit.env k t,⟨fun a q=>t.up a (I.ext.up a q),fun a q=>(t.new a q).elim (I.ext.new a) fun z=>.inr (I.gone z),t.live⟩,
   fun b o e=>by
    obtain⟨sl,e1,p1⟩:=I.keep b o e
    obtain⟨sl2,e2,p2⟩:=k.keep b _ (by rintro rfl;rw [F.ln] at e;cases e) e1
    exact⟨sl2,e2,fun hf=>(p2 hf).trans (p1 hf)⟩,I.own,I.apart⟩
theorem Exc.up {e:Value} {s':Shared} (I:Inv C K h₀ T₀ m cm T s.heap σ) (F:Fix C K W Φ h₀ E) (x:Exc C m s e s'):Up C h₀ s e s':=by
 obtain⟨ea,h',tk,B,a0,rfl,rfl,hB,hf,hk,hs,_⟩:=x
 refine⟨ea,h',tk,B,rfl,rfl,.fly hf,fun b o hb e=>?_,fun b o e hb=>?_⟩
 ·obtain⟨sl,e1,p1⟩:=I.keep b o e
  rw [p1 hb] at e1
  exact hk b o (by rintro rfl;rw [F.ln] at e;cases e) hb e1
 ·obtain⟨sl,e1,_⟩:=I.keep b o e
  obtain⟨sl2,e2⟩:=hs b _ (by rintro rfl;rw [F.ln] at e;cases e) e1 hb
  exact⟨sl2,e2⟩
theorem sp_ev {x:X} {e:PySem.Expr} {f:D×Kd→Ev (Fl×Sg)} {Q':Value→Shared→Prop} (hc:chk x K e=true) (F:Fix C K W Φ h₀ E) (I:Inv C K h₀ T₀ m cm T s.heap σ)
  (hP:SPost C K h₀ T₀ ((ev Φ x σ).bind f) s Q E)
  (h:∀ r v h' tk T',Res C T' s.heap h' v r→Inv C K h₀ T₀ m cm T' h' σ→Kx C m s.heap h'→TExt T s.heap T' h'→SPost C K h₀ T₀ (f r) s Q E→Q' v { s with heap:=h',toks:=tk }):wpAny C.M C.A (eval e C.env) Q' E s:=by
 refine(ev_ok x hc F.sit I.rel).val _ _ ?_
 match hr:ev Φ x σ,hP with
 | some (.ok r),hP=>exact fun v h' tk T' k t res=>h r v h' tk T' res (I.step F k t) k t hP
 | some .bad,hP=>exact fun e s' x=>hP e s' (x.up I F)
 | Option.none,hP=>exact hP.elim
theorem sp_tst {x:X} {e:PySem.Expr} {f:Bool→Ev (Fl×Sg)} {R:Bool→Shared→Prop} (hc:chk x K e=true) (F:Fix C K W Φ h₀ E) (I:Inv C K h₀ T₀ m cm T s.heap σ)
  (hP:SPost C K h₀ T₀ ((ev Φ x σ).bind fun r=>(Ev.of (asB r.1)).bind f) s Q E)
  (h:∀ b h' tk T',Inv C K h₀ T₀ m cm T' h' σ→SPost C K h₀ T₀ (f b) s Q E→R b { s with heap:=h',toks:=tk }):wpAny C.M C.A (isTrue e C.env (eval e C.env)) R E s:=by
 refine(ev_ok x hc F.sit I.rel).tst _ _ ?_
 match hr:ev Φ x σ,hP with
 | some (.ok r),hP=>
  have hP:SPost C K h₀ T₀ ((Ev.of (asB r.1)).bind f) s Q E:=hP
  cases hb:asB r.1 with
  | none=>rw [hb] at hP;exact hP.elim
  | some b=>
   rw [hb] at hP
   have e2:Mine.tst (some (.ok r))=Ev.ok (.bool b,.pl):=by
    show(Ev.of (asB r.1)).bind _=_
    rw [hb];rfl
   rw [e2]
   intro v h' tk T' k t res b' hb'
   have I2:=I.step F k t
   have hv:=bool_ok (x:=(D.bool b,Kd.pl)) I2.rel.ok res rfl
   rw [hv] at hb';cases hb'
   exact h b h' tk T' I2 hP
 | some .bad,hP=>exact fun e s' x=>hP e s' (x.up I F)
 | Option.none,hP=>exact hP.elim
theorem sp_of {ζ:Type} {o:Option ζ} {f:ζ→Ev (Fl×Sg)} (hP:SPost C K h₀ T₀ ((Ev.of o).bind f) s Q E):∃ a,o=some a∧SPost C K h₀ T₀ (f a) s Q E:=by
 cases o with
 | none=>exact hP.elim
 | some a=>exact⟨a,rfl,hP⟩
end
end Mine

namespace Mine
open PySem PySem.W PySem.Calls PyProof.Rows PyProof.V PySem.Spec
section
variable {C:Cx} {K:Ck} {W:Wld} {Φ:Nat→List D→Ev (D×Kd)} {m m' cm cm':Str→Option Value} {T T' T₀:Addr→Prop} {s:Shared} {σ σ':Sg} {h h' h₀ h2:Heap}
 {Q:Flow→Shared→Prop} {E:Value→Shared→Prop}
theorem frames_of {base:Heap}:∀ {l:List Env},h.FunFrames base l→(∀ b ∈ l.filterMap (·.frame),∀ o,h.get? b=some o→(∀ vs,o.data≠.fields vs)→∃ o',h'.get? b=some o'∧∀ vs,o'.data≠.fields vs)→h'.FunFrames base l
 | [],_,_=>trivial
 | env :: r,⟨h1,⟨L,o,h2,h3,h4,h5⟩,h6⟩,hk=>by
  obtain⟨o',e1,e2⟩:=hk L (List.mem_filterMap.mpr ⟨env,.head _,h2⟩) o h4 h5
  exact⟨h1,⟨L,o',h2,h3,e1,e2⟩,frames_of h6 fun b hb=>hk b (by
   obtain⟨env',he,hf⟩:=List.mem_filterMap.mp hb
   exact List.mem_filterMap.mpr ⟨env',.tail _ he,hf⟩)⟩
theorem ns_data {a:Addr} (hn:h.Ns a m):∃ o,h.get? a=some o∧∀ vs,o.data≠.fields vs:=by
 obtain⟨o,es,ep,e,hd,_⟩:=hn
 exact⟨o,e,fun vs q=>by rw [hd] at q;cases q⟩
theorem Ok.chg (o:Ok C m T h) (ns':h'.Ns C.L m') (hT:∀ a o,T a→h.get? a=some o→h'.get? a=some o) (hF:∀ b ∈ C.FS,b≠C.L→∀ o,h.get? b=some o→h'.get? b=some o)
    (hc:∀ p ∈ C.env.cells,∃ o,h'.get? p.2=some o):Ok C m' T h':=
  ⟨ns',o.sub,fun a ha=>by
    by_cases hL:a=C.L
    · rw [hL];exact ns_live ns'
    · obtain⟨x,hx⟩:=o.live a ha
      exact⟨x,hF a ha hL x hx⟩,hc,fun a ha=>by obtain⟨x,hx⟩:=o.ex a ha;exact⟨x,hT a x ha hx⟩,o.bs,fun a x e=>hT a x (o.bs a x e) (o.stay a x e),
   frames_of o.fr fun b hb x hx hd=>by
    by_cases hL:b=C.L
    · rw [hL];exact ns_data ns'
    · exact⟨x,hF b hb hL x hx,hd⟩⟩
theorem VarOk.kept {v:Value} {c:Cell} (x:VarOk C T h v c) (o:Ok C m T h) (hk:∀ a o,C.N a→h.get? a=some o→h'.get? a=some o):VarOk C T h' v c:=by
 cases x with
 | pl r=>exact .pl (r.mono (fun _ q=>q) fun a o' ta e=>hk a o' (o.sub a ta) e)
 | own ta hn ho r=>exact .own ta hn (hk _ _ hn ho) (r.mono (fun _ q=>q) fun a o' ta e=>hk a o' (o.sub a ta) e)
theorem Inv.set (I:Inv C K h₀ T₀ m cm T h σ) (F:Fix C K W Φ h₀ E) {J:Addr} (hk:∀ b o,b≠J→h.get? b=some o→h'.get? b=some o) (hJN:¬ C.N J) (hJ0:h₀.get? J=none) (ok':Ok C m' T h')
  (cell':∀ x c,C.env.cells.lookup x=some c→h'.IsCell c (cm' x)) {x:Str} {i:Nat} {v:Value} {c:Cell} (hx:K.ctx.lookup x=some i) (hv1:vof C m' cm' x=some v) (hv2:∀ y j,y≠x→K.ctx.lookup y=some j→vof C m' cm' y=vof C m cm y)
  (hv:VarOk C T h v c) (hf:c.own=true→∀ a,v=.ref a→h₀.get? a=none∧∀ y j d,K.ctx.lookup y=some j→j≠i→σ j=some ⟨d,true⟩→vof C m cm y≠some (.ref a)):Inv C K h₀ T₀ m' cm' T h' (upd σ i c):=by
 have hkN:∀ a o,C.N a→h.get? a=some o→h'.get? a=some o:=fun a o hn e=>hk a o (by rintro rfl;exact hJN hn) e
 have far:∀ y j,K.ctx.lookup y=some j→j≠i→y≠x:=fun y j hy hj e=>by rw [e,hx] at hy;exact hj (Option.some.inj hy).symm
 refine⟨⟨ok',cell',fun y j e hy he=>?_⟩,⟨I.ext.up,I.ext.new,ok'.ex⟩,fun b o e=>?_,fun y j d a hy hd ha=>?_,fun y z j k d e a hy hz hd he ha hb=>?_⟩
 ·by_cases hj:j=i
  ·subst hj
   have:=F.inj _ _ _ hy hx
   subst this
   rw [upd_same] at he
   cases he
   exact⟨v,hv1,hv.kept I.rel.ok hkN⟩
  ·rw [upd_ne _ _ (by simpa using hj)] at he
   obtain⟨w,hw,hr⟩:=I.rel.var y j e hy he
   exact⟨w,(hv2 y j (far y j hy hj) hy).trans hw,hr.kept I.rel.ok hkN⟩
 ·obtain⟨sl,e1,p1⟩:=I.keep b o e
  exact⟨sl,hk _ _ (by rintro rfl;rw [hJ0] at e;cases e) e1,p1⟩
 ·by_cases hj:j=i
  ·subst hj
   have:=F.inj _ _ _ hy hx
   subst this
   rw [upd_same] at hd
   cases hd
   rw [hv1] at ha
   exact(hf rfl a (Option.some.inj ha)).1
  ·rw [upd_ne _ _ (by simpa using hj)] at hd
   rw [hv2 y j (far y j hy hj) hy] at ha
   exact I.own y j d a hy hd ha
 ·by_cases hj:j=i
  ·subst hj
   have:=F.inj _ _ _ hy hx
   subst this
   rw [upd_same] at hd
   cases hd
   rw [hv1] at ha
   by_cases hkj:k=j
   ·exact hkj.symm
   ·rw [upd_ne _ _ (by simpa using hkj)] at he
    rw [hv2 z k (far z k hz hkj) hz] at hb
    exact absurd hb ((hf rfl a (Option.some.inj ha)).2 z k e hz hkj he)
  ·rw [upd_ne _ _ (by simpa using hj)] at hd
   rw [hv2 y j (far y j hy hj) hy] at ha
   by_cases hki:k=i
   ·subst hki
    have:=F.inj _ _ _ hz hx
    subst this
    rw [upd_same] at he
    cases he
    rw [hv1] at hb
    exact absurd ha ((hf rfl a (Option.some.inj hb)).2 y j d hy hj hd)
   ·rw [upd_ne _ _ (by simpa using hki)] at he
    rw [hv2 z k (far z k hz hki) hz] at hb
    exact I.apart y z j k d e a hy hz hd he ha hb
theorem store_ok (F:Fix C K W Φ h₀ E) (I:Inv C K h₀ T₀ m cm T s.heap σ) {x:Str} {i:Nat} (hx:K.ctx.lookup x=some i) {c:Cell} {v:Value} (hv:VarOk C T s.heap v c)
  (hf:c.own=true→∀ a,v=.ref a→h₀.get? a=none∧∀ y j d,K.ctx.lookup y=some j→j≠i→σ j=some ⟨d,true⟩→vof C m cm y≠some (.ref a)) {Q:Unit→Shared→Prop} {E':Value→Shared→Prop}
  (hq:∀ m' cm' h' tk,(∀ b o,C.N b→s.heap.get? b=some o→h'.get? b=some o)→Inv C K h₀ T₀ m' cm' T h' (upd σ i c)→Q () { s with heap:=h',toks:=tk }):wpAny C.M C.A (storeName C.env x v) Q E' s:=by
 have hp:(C.env.scope.kind == .class || (C.env.scope.kind == .module && C.env.locals != C.env.globals))=false:=by rw [F.sit.env.kind];rfl
 have R:=I.rel
 rcases F.sit.env.ctx x i hx with hl | ⟨hl,ca,hca⟩
 ·refine wpAny_storeName_local hl R.ok.ns (fun h' hn hs=>?_) hp
  have hk:∀ b o,b≠C.L→s.heap.get? b=some o→h'.get? b=some o:=hs.extBut
  have nl:∀ x c,C.env.cells.lookup x=some c→c≠C.L:=fun x c hc=>F.sit.env.nl _ (PySem.mem_of_lookup hc)
  refine hq (fun y=>if y=x then some v else m y) cm h' _ (fun b o hn e=>hk b o hn.1 e) (I.set F hk (fun q=>q.1 rfl) F.ln (R.ok.chg hn (fun a o ta e=>hk a o (R.ok.sub a ta).1 e) (fun b _ hb o e=>hk b o hb e) fun p hp=>?_) (fun y c hc=>?_) hx ?_ (fun y j hy _=>?_) hv hf)
  ·obtain⟨o,ho⟩:=R.ok.cells p hp
   exact⟨o,hk _ _ (F.sit.env.nl p hp) ho⟩
  ·obtain⟨o,ho,hd⟩:=R.cell y c hc
   exact⟨o,hk _ _ (nl y c hc) ho,hd⟩
  ·unfold vof;rw [if_pos hl];exact if_pos rfl
  ·unfold vof;simp only [if_neg hy]
 ·refine wpAny_storeName_cell F.sit.env.kind hl hca (R.cell x ca hca) fun h' hc hs=>?_
  have hk:∀ b o,b≠ca→s.heap.get? b=some o→h'.get? b=some o:=hs.extBut
  have hm:=PySem.mem_of_lookup hca
  have hLc:C.L≠ca:=Ne.symm (F.sit.env.nl _ hm)
  refine hq m (fun y=>if y=x then some v else cm y) h' _ (fun b o hn e=>hk b o (hn.2.2 _ hm) e) (I.set F hk (fun q=>q.2.2 _ hm rfl) (F.cn _ hm) (R.ok.chg (R.ok.ns.at' fun o e=>hk _ o hLc e) (fun a o ta e=>hk a o ((R.ok.sub a ta).2.2 _ hm) e) (fun b hb _ o e=>hk b o (by rintro rfl;exact F.cf _ hm hb) e) fun p hp=>?_) (fun y c' hc'=>?_) hx ?_ (fun y j hy _=>?_) hv hf)
  ·by_cases hpc:p.2=ca
   ·rw [hpc];obtain⟨o,ho,_⟩:=hc;exact⟨o,ho⟩
   ·obtain⟨o,ho⟩:=R.ok.cells p hp
    exact⟨o,hk _ _ hpc ho⟩
  ·by_cases hyx:y=x
   ·subst hyx
    rw [hca] at hc'
    cases hc'
    simpa using hc
   ·simp only [if_neg hyx]
    obtain⟨o,ho,hd⟩:=R.cell y c' hc'
    exact⟨o,hk _ _ (by rintro rfl;exact hyx (F.sit.env.ap _ _ _ hc' hca)) ho,hd⟩
  ·unfold vof;rw [if_neg (by rw [hl];decide)];exact if_pos rfl
  ·unfold vof;simp only [if_neg hy]
theorem store_pl (F:Fix C K W Φ h₀ E) (I:Inv C K h₀ T₀ m cm T s.heap σ) {x:Str} {i:Nat} (hx:K.ctx.lookup x=some i) {d:D} {v:Value} (hv:Rd T s.heap v d) {Q:Unit→Shared→Prop} {E':Value→Shared→Prop}
  (hq:∀ m' cm' h' tk,(∀ b o,C.N b→s.heap.get? b=some o→h'.get? b=some o)→Inv C K h₀ T₀ m' cm' T h' (upd σ i ⟨d,false⟩)→Q () { s with heap:=h',toks:=tk }):wpAny C.M C.A (storeName C.env x v) Q E' s:=
 store_ok F I hx (.pl hv) (fun h=>nomatch h) hq
theorem Inv.freeze (I:Inv C K h₀ T₀ m cm T h σ) (P:Nat→Prop) (hP:∀ k,P k→σ' k=(σ k).map fun c=>{ c with own:=false }) (hN:∀ k,¬ P k→σ' k=σ k):
  Inv C K h₀ T₀ m cm (fun a=>T a∨∃ x i d,P i∧K.ctx.lookup x=some i∧σ i=some ⟨d,true⟩∧vof C m cm x=some (.ref a)) h σ':=by
 have R:=I.rel
 have inT:∀ a,(∃ x i d,P i∧K.ctx.lookup x=some i∧σ i=some ⟨d,true⟩∧vof C m cm x=some (.ref a))→C.N a∧(∃ o,h.get? a=some o)∧h₀.get? a=none:=by
  rintro a ⟨x,i,d,_,hx,hi,ha⟩
  obtain⟨w,hw,hr⟩:=R.var x i _ hx hi
  rw [ha] at hw
  cases hw
  cases hr with
  | own ta hn ho r=>exact⟨hn,⟨_,ho⟩,I.own x i _ a hx hi ha⟩
 have ok':Ok C m (fun a=>T a∨∃ x i d,P i∧K.ctx.lookup x=some i∧σ i=some ⟨d,true⟩∧vof C m cm x=some (.ref a)) h:=
  ⟨R.ok.ns,fun a q=>q.elim (R.ok.sub a) fun z=>(inT a z).1,R.ok.live,R.ok.cells,fun a q=>q.elim (R.ok.ex a) fun z=>(inT a z).2.1,fun a o e=>.inl (R.ok.bs a o e),R.ok.stay,R.ok.fr⟩
 have own':∀ i d,σ' i=some ⟨d,true⟩→¬ P i∧σ i=some ⟨d,true⟩:=fun i d hi=>by
  by_cases hp:P i
  ·rw [hP i hp] at hi
   cases hs:σ i with
   | none=>rw [hs] at hi;cases hi
   | some c=>rw [hs] at hi;cases hi
  ·exact⟨hp,(hN i hp) ▸ hi⟩
 refine⟨⟨ok',R.cell,fun x i c hx hc=>?_⟩,⟨fun a q=>.inl (I.ext.up a q),fun a q=>q.elim (I.ext.new a) fun z=>.inr (inT a z).2.2,ok'.ex⟩,I.keep,fun x i d a hx hi ha=>I.own x i d a hx (own' i d hi).2 ha,fun x y i j d e a hx hy hi hj ha hb=>I.apart x y i j d e a hx hy (own' i d hi).2 (own' j e hj).2 ha hb⟩
 by_cases hp:P i
 ·rw [hP i hp] at hc
  cases hs:σ i with
  | none=>rw [hs] at hc;cases hc
  | some c0=>
   rw [hs] at hc
   obtain⟨w,hw,hr⟩:=R.var x i c0 hx hs
   refine⟨w,hw,?_⟩
   cases hr with
   | pl r=>cases hc;exact .pl (r.up fun _=>.inl)
   | own ta hn ho r=>cases hc;exact .pl (.lst (.inr ⟨x,i,_,hp,hx,hs,hw⟩) ho rfl rfl rfl (r.up fun _=>.inl))
 ·rw [hN i hp] at hc
  obtain⟨w,hw,hr⟩:=R.var x i c hx hc
  refine⟨w,hw,?_⟩
  cases hr with
  | pl r=>exact .pl (r.up fun _=>.inl)
  | own ta hn ho r=>
   refine .own (fun q=>q.elim ta ?_) hn ho (r.up fun _=>.inl)
   rintro⟨y,j,e,hpj,hy,hj,hb⟩
   exact hp (I.apart x y i j _ e _ hx hy hc hj hw hb ▸ hpj)
theorem Inv.freezeAll (I:Inv C K h₀ T₀ m cm T h σ):∃ T',(∀ a,T a→T' a)∧Inv C K h₀ T₀ m cm T' h (frzAll σ):=
 ⟨_,fun _=>.inl,I.freeze (fun _=>True) (fun _ _=>rfl) fun _ q=>absurd trivial q⟩
theorem Inv.freeze1 (I:Inv C K h₀ T₀ m cm T h σ) (j:Nat):∃ T',(∀ a,T a→T' a)∧Inv C K h₀ T₀ m cm T' h (frz1 σ j):=
 ⟨_,fun _=>.inl,I.freeze (fun k=>k=j) (fun k hk=>by simp [frz1,hk]) fun k hk=>by simp [frz1,hk]⟩
end
end Mine

namespace Mine
open PySem PySem.W PySem.Calls PyProof.Rows PyProof.V PySem.Spec
section
variable {C:Cx} {K:Ck} {W:Wld} {Φ:Nat→List D→Ev (D×Kd)} {m m' cm cm':Str→Option Value} {T T' T₀:Addr→Prop} {s:Shared} {σ σ':Sg} {h h' h₀ h2:Heap}
 {Q:Flow→Shared→Prop} {E:Value→Shared→Prop} {e:Stmt}
theorem Inv.but (I:Inv C K h₀ T₀ m cm T h σ) (_F:Fix C K W Φ h₀ E) {A:Addr} (hA:h₀.get? A=none) (hT:¬ T A) (hN:C.N A) (hl:∀ vs n,h.get? A≠some (lobj vs n)) (hk:∀ b o,b≠A→h.get? b=some o→h'.get? b=some o):
  Inv C K h₀ T₀ m cm T h' σ:=by
 have R:=I.rel
 have nT:∀ a,T a→a≠A:=fun a ta e=>hT (e ▸ ta)
 refine⟨⟨R.ok.chg (R.ok.ns.at' fun o e=>hk _ o (Ne.symm hN.1) e) (fun a o ta e=>hk a o (nT a ta) e) (fun b hb _ o e=>hk b o (fun q=>hN.2.1 (q ▸ hb)) e) (fun p hp=>?_),fun x c hc=>?_,fun x i c hx hc=>?_⟩,⟨I.ext.up,I.ext.new,fun a ta=>?_⟩,fun b o e=>?_,I.own,I.apart⟩
 ·obtain⟨o,ho⟩:=R.ok.cells p hp
  exact⟨o,hk _ _ (fun q=>hN.2.2 p hp q.symm) ho⟩
 ·obtain⟨o,ho,hd⟩:=R.cell x c hc
  exact⟨o,hk _ _ (fun q=>hN.2.2 _ (PySem.mem_of_lookup hc) q.symm) ho,hd⟩
 ·obtain⟨v,hv,hr⟩:=R.var x i c hx hc
  refine⟨v,hv,?_⟩
  cases hr with
  | pl r=>exact .pl (r.mono (fun _ q=>q) fun a o ta e=>hk a o (nT a ta) e)
  | own ta hn ho r=>exact .own ta hn (hk _ _ (by rintro rfl;exact hl _ _ ho) ho) (r.mono (fun _ q=>q) fun a o ta e=>hk a o (nT a ta) e)
 ·obtain⟨o,ho⟩:=R.ok.ex a ta
  exact⟨o,hk _ _ (nT a ta) ho⟩
 ·obtain⟨sl,e1,p1⟩:=I.keep b o e
  exact⟨sl,hk _ _ (by rintro rfl;rw [hA] at e;cases e) e1,p1⟩
noncomputable def hid (C:Cx) (K:Ck) (m cm:Str→Option Value) (σ:Sg):List Addr:=
 C.L :: C.env.cells.map (·.2) ++ K.ctx.filterMap fun p=>if K.ctx.lookup p.1=some p.2 then (match σ p.2,vof C m cm p.1 with
  | some ⟨_,true⟩,some (.ref a)=>some a
  | _,_=>Option.none) else Option.none
theorem hid_iff {a:Addr}:a ∈ hid C K m cm σ ↔ a=C.L∨(∃ p ∈ C.env.cells,p.2=a)∨∃ x i d,K.ctx.lookup x=some i∧σ i=some ⟨d,true⟩∧vof C m cm x=some (.ref a):=by
 unfold hid
 rw [List.mem_append,List.mem_cons,List.mem_map,List.mem_filterMap,or_assoc]
 refine or_congr Iff.rfl (or_congr Iff.rfl ⟨?_,?_⟩)
 ·rintro⟨p,hp,h⟩
  split at h
  ·rename_i hl
   split at h
   ·cases h;exact⟨_,_,_,hl,by assumption,by assumption⟩
   ·cases h
  ·cases h
 ·rintro⟨x,i,d,h1,h2,h3⟩
  exact⟨(x,i),PySem.mem_of_lookup h1,by simp [h1,h2,h3]⟩
structure Re (C:Cx) (K:Ck) (W:Wld) (Φ:Nat→List D→Ev (D×Kd)) (h₀:Heap) (T₀:Addr→Prop) (m cm:Str→Option Value) (T:Addr→Prop) (h:Heap) (σ:Sg) (E:Value→Shared→Prop) (hb:Heap):Prop where
 inv:Inv C K hb T m cm T h σ
 fix:Fix C K W Φ hb E
 get:∀ b o,C.N b→(∀ x i d,K.ctx.lookup x=some i→σ i=some ⟨d,true⟩→vof C m cm x≠some (.ref b))→h.get? b=some o→hb.get? b=some o
 sub:∀ b o,hb.get? b=some o→h.get? b=some o
 gone:∀ a,hb.get? a=none→h₀.get? a=none
 back:∀ {r:Ev (Fl×Sg)} {s:Shared} {Q:Flow→Shared→Prop},SPost C K h₀ T₀ r s Q E→SPost C K hb T r s Q E
 off:∀ {m' cm' T' h' σ'},Inv C K hb T m' cm' T' h' σ'→Inv C K h₀ T₀ m' cm' T' h' σ'
theorem Inv.rebase (I:Inv C K h₀ T₀ m cm T h σ) (F:Fix C K W Φ h₀ E):∃ hb,Re C K W Φ h₀ T₀ m cm T h σ E hb:=by
 have R:=I.rel
 have z:∀ a,a ∈ hid C K m cm σ→h₀.get? a=none:=fun a ha=>by
  rcases hid_iff.mp ha with rfl | ⟨p,hp,rfl⟩ | ⟨x,i,d,h1,h2,h3⟩
  ·exact F.ln
  ·exact F.cn p hp
  ·exact I.own x i d a h1 h2 h3
 have up:∀ b o,h₀.get? b=some o→∃ sl,(hideAll h (hid C K m cm σ)).get? b=some { o with slots:=sl }∧(b ∉ C.FS→sl=o.slots):=fun b o e=>by
  obtain⟨sl,e1,p1⟩:=I.keep b o e
  exact⟨sl,hideAll_get _ e1 (fun q=>by rw [z b q] at e;cases e),p1⟩
 have gone:∀ a,(hideAll h (hid C K m cm σ)).get? a=none→h₀.get? a=none:=fun a e=>by
  cases q:h₀.get? a with
  | none=>rfl
  | some o=>obtain⟨sl,e1,_⟩:=up a o q;rw [e] at e1;cases e1
 have keep2:∀ {h':Heap},(∀ b o,(hideAll h (hid C K m cm σ)).get? b=some o→∃ sl,h'.get? b=some { o with slots:=sl }∧(b ∉ C.FS→sl=o.slots))→∀ b o,h₀.get? b=some o→∃ sl,h'.get? b=some { o with slots:=sl }∧(b ∉ C.FS→sl=o.slots):=fun hk b o e=>by
  obtain⟨sl,e1,p1⟩:=up b o e
  obtain⟨sl2,e2,p2⟩:=hk b _ e1
  exact⟨sl2,e2,fun hf=>(p2 hf).trans (p1 hf)⟩
 have off:∀ {m' cm' T' h' σ'},Inv C K (hideAll h (hid C K m cm σ)) T m' cm' T' h' σ'→Inv C K h₀ T₀ m' cm' T' h' σ':=fun I2=>
  ⟨I2.rel,⟨fun a q=>I2.ext.up a (I.ext.up a q),fun a q=>(I2.ext.new a q).elim (I.ext.new a) fun e=>.inr (gone a e),I2.ext.live⟩,keep2 I2.keep,fun x i d a h1 h2 h3=>gone a (I2.own x i d a h1 h2 h3),I2.apart⟩
 refine⟨hideAll h (hid C K m cm σ),⟨R,⟨fun _ q=>q,fun _ q=>.inl q,R.ok.ex⟩,fun b o e=>⟨o.slots,of_hideAll _ e,fun _=>rfl⟩,fun x i d a h1 h2 h3=>hideAll_none _ (hid_iff.mpr (.inr (.inr ⟨x,i,d,h1,h2,h3⟩))),I.apart⟩,
  ⟨F.sit,hideAll_none _ (hid_iff.mpr (.inl rfl)),fun p hp=>hideAll_none _ (hid_iff.mpr (.inr (.inl ⟨p,hp,rfl⟩))),F.cf,F.inj,F.own,F.exc⟩,fun b o hn hx e=>hideAll_get _ e fun q=>?_,fun b o e=>of_hideAll _ e,gone,fun {r s Q} hP=>?_,off⟩
 ·rcases hid_iff.mp q with rfl | ⟨p,hp,rfl⟩ | ⟨x,i,d,h1,h2,h3⟩
  ·exact hn.1 rfl
  ·exact hn.2.2 p hp rfl
  ·exact hx x i d h1 h2 h3
 ·match r,hP with
  | some (.ok (fl,σ')),hP=>
   intro f h' tk T' m' cm' I2 hf
   refine hP f h' tk T' m' cm' (off I2) ?_
   cases hf with
   | next=>exact .next
   | cont=>exact .cont
   | ret hk r=>exact .ret hk (r.older gone)
  | some .bad,hP=>
   rintro e s' ⟨ea,h',tk,B,rfl,rfl,hu,hB,hs⟩
   refine hP _ _ ⟨ea,h',tk,B,rfl,rfl,hu,fun b o hb e=>?_,fun b o e hb=>?_⟩
   ·obtain⟨sl,e1,p1⟩:=up b o e
    rw [p1 hb] at e1
    exact hB b o hb e1
   ·obtain⟨sl,e1,_⟩:=up b o e
    obtain⟨sl2,e2⟩:=hs b _ e1 hb
    exact⟨sl2,e2⟩
theorem SPost.bindS {r:Ev (Fl×Sg)} {f:Fl×Sg→Ev (Fl×Sg)} {Q':Flow→Shared→Prop} (hP:SPost C K h₀ T₀ (r.bind f) s Q E)
  (h:∀ fl σ' fw h' tk T' m' cm',SPost C K h₀ T₀ (f (fl,σ')) s Q E→Inv C K h₀ T₀ m' cm' T' h' σ'→FlOk C T' h₀ h' fl fw→Q' fw { s with heap:=h',toks:=tk }):SPost C K h₀ T₀ r s Q' E:=by
 match r,hP with
 | some (.ok (fl,σ')),hP=>exact fun fw h' tk T' m' cm' I hf=>h fl σ' fw h' tk T' m' cm' hP I hf
 | some .bad,hP=>exact hP
theorem SPost.at {r:Ev (Fl×Sg)} {h':Heap} {tk:Nat} (hP:SPost C K h₀ T₀ r s Q E):SPost C K h₀ T₀ r { s with heap:=h',toks:=tk } Q E:=by
 match r,hP with
 | some (.ok (fl,σ')),hP=>exact hP
 | some .bad,hP=>exact hP
theorem iss_nil:IsSs W Φ []:=by
 intro C K e σ m cm T h₀ T₀ s Q E hc F I hP
 cases e with
 | nil=>exact wpAny_execs_nil (hP .next s.heap s.toks T m cm I .next)
 | cons=>exact ff hc
theorem iss_cons {st:St} {l:List St} (is:IsS W Φ st) (il:IsSs W Φ l):IsSs W Φ (st :: l):=by
 intro C K e σ m cm T h₀ T₀ s Q E hc F I hP
 cases e with
 | nil=>exact ff hc
 | cons e es=>
  have hc:=a2 hc
  refine wpAny_execs_cons (is hc.1 F I (SPost.bindS hP fun fl σ' fw h' tk T' m' cm' hP' I' hf=>?_))
  cases hf with
  | next=>exact il hc.2 F I' hP'
  | cont=>exact hP' _ _ _ _ _ _ I' .cont
  | ret hk r=>exact hP' _ _ _ _ _ _ I' (.ret hk r)
theorem is_cont:IsS W Φ .cont:=by
 intro C K e σ m cm T h₀ T₀ s Q E hc F I hP
 obtain⟨p,rfl⟩:=vCont_eq hc
 exact wpAny_Continue (hP .cont s.heap s.toks T m cm I .cont)
theorem is_stk:IsS W Φ .stk:=by
 intro C K e σ m cm T h₀ T₀ s Q E hc F I hP
 exact hP.elim
theorem is_iff {c:X} {a b:List St} (ia:IsSs W Φ a) (ib:IsSs W Φ b):IsS W Φ (.iff c a b):=by
 intro C K e σ m cm T h₀ T₀ s Q E hc F I hP
 refine cIff (P:=fun t=>wpAny C.M C.A (exec t C.env) Q E s) hc fun v x y p h1 h2 h3=>?_
 refine wpAny_If (sp_tst h1 F I hP fun b h' tk T' I' hP'=>?_)
 cases b with
 | true=>rw [if_pos rfl];exact ia h2 F I' hP'
 | false=>rw [if_neg (by decide)];exact ib h3 F I' hP'
theorem ret_var {j:Nat}:IsS W Φ (.ret (.var j)):=by
 intro C K e σ m cm T h₀ T₀ s Q E hc F I hP
 refine cRet (P:=fun t=>wpAny C.M C.A (exec t C.env) Q E s) hc fun v p hc=>?_
 refine chk_var (P:=fun v=>wpAny C.M C.A (exec (.Return (some v) p) C.env) Q E s) hc fun x px h1 h2=>?_
 change SPost C K h₀ T₀ (match σ j with
   | some ⟨d,true⟩=>Ev.ok (.ret d .fr,σ)
   | some ⟨d,false⟩=>Ev.ok (.ret d .pl,σ)
   | Option.none=>Option.none) s Q E at hP
 cases hs:σ j with
 | none=>rw [hs] at hP;exact hP.elim
 | some c=>
  rw [hs] at hP
  refine wpAny_Return_some (name_ld F.sit.env I.rel h1 h2 hs fun v hv hr=>?_)
  cases hr with
  | pl r=>exact hP _ s.heap s.toks T m cm I (.ret rfl (.pl r))
  | own ta hn ho r=>exact hP _ s.heap s.toks T m cm I (.ret rfl (.fr ta hn (I.own x j _ _ h1 hs hv) ho r))
theorem ret_any {e:X} (hne:∀ j,e≠.var j):IsS W Φ (.ret e):=by
 intro C K st σ m cm T h₀ T₀ s Q E hc F I hP
 refine cRet (P:=fun t=>wpAny C.M C.A (exec t C.env) Q E s) hc fun v p hc=>?_
 have hP:SPost C K h₀ T₀ ((ev Φ e (frzAll σ)).bind fun r=>if r.2.sto then Ev.ok (.ret r.1 r.2,frzAll σ) else Option.none) s Q E:=by
  cases e <;> first | exact hP | exact absurd rfl (hne _)
 obtain⟨T1,u1,I1⟩:=I.freezeAll
 refine wpAny_Return_some (sp_ev hc F I1 hP fun r v h' tk T' res I' k t hP'=>?_)
 by_cases hs:r.2.sto=true
 ·rw [if_pos hs] at hP'
  exact hP' _ _ _ _ _ _ I' (.ret hs (res.older fun a e=>I1.gone e))
 ·rw [if_neg hs] at hP';exact hP'.elim
theorem is_ret {e:X}:IsS W Φ (.ret e):=by
 by_cases h:∃ j,e=.var j
 ·obtain⟨j,rfl⟩:=h;exact ret_var
 ·exact ret_any fun j hj=>h ⟨j,hj⟩
end
end Mine

namespace Mine
open PySem PySem.W PySem.Calls PyProof.Rows PyProof.V PySem.Spec
section
variable {C:Cx} {K:Ck} {W:Wld} {Φ:Nat→List D→Ev (D×Kd)} {m m' cm cm':Str→Option Value} {T T' T₀:Addr→Prop} {s:Shared} {σ σ':Sg} {h h' h₀ h2:Heap}
 {Q:Flow→Shared→Prop} {E:Value→Shared→Prop} {e:Stmt}
theorem sw_false {v:PySem.Expr} {t:Option PySem.Expr} {l:Nat} {env:Env} (h:isComp v=false):swapsWith v t l env=pure false:=by
 cases v <;> first | rfl | (cases h)
theorem sw_used {v:PySem.Expr} {x:Str} {px:Pos} {l:Nat} (S:EnvOk C K) (h:swUsed K x px v=true):swapsWith v (some (.Name x px)) l C.env=pure true:=by
 cases v <;> simp only [swUsed] at h <;> try (cases h;done)
 simp only [Bool.and_eq_true,Bool.not_eq_true'] at h
 obtain⟨⟨h1,h2⟩,h3⟩:=h
 have hb:C.env.blockKind=.function:=by unfold Env.blockKind;rw [S.kind];rfl
 show(pure (C.env.blockKind == .function && C.env.kindOf x == some .local && px.line == _ && !_):Sem Bool)=_
 rw [hb,S.loc x h1]
 refine congrArg pure ?_
 simp only [Bool.and_eq_true,Bool.not_eq_true']
 exact⟨⟨by simp,h2⟩,h3⟩
theorem fr_own (I:Inv C K h₀ T₀ m cm T s.heap σ) {a:Addr} (hf:s.heap.get? a=none):∀ b,Value.ref a=.ref b→h₀.get? b=none∧∀ i y j d,K.ctx.lookup y=some j→j≠i→σ j=some ⟨d,true⟩→vof C m cm y≠some (.ref b):=by
 rintro b hb
 cases hb
 refine⟨I.gone hf,fun i y j d hy _ hd ha=>?_⟩
 obtain⟨w,hw,hr⟩:=I.rel.var y j _ hy hd
 rw [ha] at hw
 cases hw
 cases hr with
 | own ta hn ho r=>rw [hf] at ho;cases ho
noncomputable def varR:Option Cell→Ev (D×Kd)
 | some ⟨d,false⟩=>Ev.ok (d,Kd.pl)
 | some ⟨d,true⟩=>Ev.ok (d,Kd.bo)
 | Option.none=>Option.none
theorem ev_var (j:Nat):ev Φ (.var j) σ=varR (σ j):=by
 show(match σ j with
  | some ⟨d,false⟩=>Ev.ok (d,Kd.pl)
  | some ⟨d,true⟩=>Ev.ok (d,Kd.bo)
  | Option.none=>Option.none)=_
 rcases σ j with _ | ⟨d,_ | _⟩ <;> rfl
noncomputable def asgF (i:Nat) (e:X) (σ:Sg) (r:D×Kd):Ev (Fl×Sg):=match r.2 with
 | .pl=>Ev.ok (Fl.next,upd σ i ⟨r.1,false⟩)
 | .fr=>Ev.ok (.next,upd σ i ⟨r.1,true⟩)
 | .bo=>(Ev.of (handOn e .bo σ)).bind fun σ'=>Ev.ok (.next,upd σ' i ⟨r.1,false⟩)
 | .tr=>Option.none
theorem ex_asg (i:Nat) (e:X):ex Φ (.asg i e) σ=(ev Φ e σ).bind (asgF i e σ):=by
 show(ev Φ e σ).bind _=_
 congr 1
theorem asg_var {i j:Nat}:IsS W Φ (.asg i (.var j)):=by
 intro C K st σ m cm T h₀ T₀ s Q E hc F I hP
 refine cAsg (P:=fun t=>wpAny C.M C.A (exec t C.env) Q E s) hc fun x px v p hx hv hsw=>?_
 refine chk_var (P:=fun v=>wpAny C.M C.A (exec (.Assign [.Name x px] v p) C.env) Q E s) hv fun y py h1 h2=>?_
 rw [ex_asg,ev_var] at hP
 cases hs:σ j with
 | none=>rw [hs] at hP;exact hP.elim
 | some c=>
  rw [hs] at hP
  refine wpAny_Assign_Name (name_ld F.sit.env I.rel h1 h2 hs fun v hv hr=>?_) (sw_false rfl)
  cases hr with
  | pl r=>exact store_pl F I hx r fun m' cm' h' tk _ I'=>hP .next _ _ _ _ _ I' .next
  | @own a vs n ds ta hn ho r=>
   obtain⟨T1,u1,I1⟩:=I.freeze1 j
   obtain⟨w,hw,hr1⟩:=I1.rel.var y j ⟨.lst ds,false⟩ h1 (by simp [frz1,hs])
   rw [hv] at hw
   cases hw
   cases hr1 with
   | pl r1=>exact store_pl F I1 hx r1 fun m' cm' h' tk _ I'=>hP .next _ _ _ _ _ I' .next
theorem asg_plain {i:Nat} {e:X} (hne:∀ j,e≠.var j) {x:Str} {px:Pos} {v:PySem.Expr} {p:Pos} {K:Ck} {C:Cx} {E:Value→Shared→Prop} {Q:Flow→Shared→Prop} {s:Shared} {σ:Sg} {m cm:Str→Option Value} {T:Addr→Prop} {h₀:Heap} {T₀:Addr→Prop}
  (hx:K.ctx.lookup x=some i) (hv:chk e K v=true) (hnc:isComp v=false) (F:Fix C K W Φ h₀ E) (I:Inv C K h₀ T₀ m cm T s.heap σ) (hP:SPost C K h₀ T₀ (ex Φ (.asg i e) σ) s Q E):wpAny C.M C.A (exec (.Assign [.Name x px] v p) C.env) Q E s:=by
 rw [ex_asg] at hP
 refine wpAny_Assign_Name (sp_ev hv F I hP fun r v h' tk T' res I' k t hP'=>?_) (sw_false hnc)
 cases res with
 | pl r=>exact store_pl F I' hx r fun m' cm' h2 tk2 _ I2=>hP' .next _ _ _ _ _ I2 .next
 | fr ta hn hf ho r=>
  refine store_ok F I' hx (.own ta hn ho r) (fun _ b hb=>⟨((fr_own I hf) b hb).1,((fr_own I hf) b hb).2 i⟩) fun m' cm' h2 tk2 _ I2=>hP' .next _ _ _ _ _ I2 .next
 | bo hn ho r=>
  have:handOn e .bo σ=Option.none:=by cases e <;> first | rfl | exact absurd rfl (hne _)
  simp only [asgF,this] at hP'
  exact hP'.elim
 | tr r=>exact hP'.elim
noncomputable def RelT (C:Cx) (T:Addr→Prop) (h₀ h:Heap) (v:Value×(Addr→Prop)) (r:D×Kd):Prop:=v.2=T∧Res C T h₀ h v.1 r
theorem RelT.old (C:Cx):Older (RelT C):=fun _ _ _ _ _ _ hf x=>⟨x.1,x.2.older hf⟩
theorem sp_post {x:X} {f:D×Kd→Ev (Fl×Sg)} (F:Fix C K W Φ h₀ E) (I:Inv C K h₀ T₀ m cm T s.heap σ) (hP:SPost C K h₀ T₀ ((ev Φ x σ).bind f) s Q E):
  PostG C m (RelT C) (ev Φ x σ) T s (fun v s'=>∃ r h' tk,s'={ s with heap:=h',toks:=tk }∧Res C v.2 s.heap h' v.1 r∧Inv C K h₀ T₀ m cm v.2 h' σ∧SPost C K h₀ T₀ (f r) s Q E) E:=by
 match hr:ev Φ x σ,hP with
 | some (.ok r),hP=>
  rintro⟨v,T1⟩ h' tk T' k t ⟨rfl,res⟩
  exact⟨r,h',tk,rfl,res,I.step F k t,hP⟩
 | some .bad,hP=>exact fun e s' x=>hP e s' (x.up I F)
theorem asg_comp {i:Nat} {elt:X} {vn:Nat} {rng:Bool} {it cond:X} {x:Str} {px:Pos} {v:PySem.Expr} {p:Pos} {K:Ck} {C:Cx} {E:Value→Shared→Prop} {Q:Flow→Shared→Prop} {s:Shared} {σ:Sg} {m cm:Str→Option Value} {T:Addr→Prop} {h₀:Heap} {T₀:Addr→Prop}
  (hx:K.ctx.lookup x=some i) (hv:chk (.comp elt vn rng it cond) K v=true) (hsw:swUsed K x px v=true) (F:Fix C K W Φ h₀ E) (I:Inv C K h₀ T₀ m cm T s.heap σ) (hP:SPost C K h₀ T₀ (ex Φ (.asg i (.comp elt vn rng it cond)) σ) s Q E):
  wpAny C.M C.A (exec (.Assign [.Name x px] v p) C.env) Q E s:=by
 rw [exec_Assign_Name_used _ _ _ _ (sw_used F.sit.env hsw)]
 obtain⟨e1,y,py,iter,ifs,scope,p',rfl,h1,h2,h3,h4,h5⟩:=chk_compE hv
 have O:=scope_ok h1
 have S:=F.sit
 have R:=I.rel
 rw [ex_asg] at hP
 have hP1:=sp_post F I hP
 rw [ev_comp] at hP1
 refine wpAny_bind (wpAny_standAt (wpAny_bind ?_))
 show wpAny _ C.A (do let _ ← comprehension (.ListComp e1 [⟨.Name y py,iter,ifs,0⟩] scope p') scope C.env _ (newList []) false (eval iter C.env) (some (assign (.Name x px) C.env))) _ _ s
 refine wpAny_bind (wpAny_mono (wpAny_comprehension_free (use:=some (assign (.Name x px) C.env)) (Q:=fun _ s'=>Q .next s') rfl (notSet h3) (clos_eq (free_cell S.env O)) O.kind O.loc
  (comp_iter (RelT.old C) (ev_ok it) S R h4 hP1 fun ds J h1 h' tk T' fp P St k1 t1 R' wk hsz hP'=>?_)) (fun _ s' hq=>wpAny_pure (wpAny_pure hq)) fun _ _ e=>e)
 obtain⟨ys,hys,hP'⟩:=calm_inv hP'
 refine comp_core (s:={ s with heap:=h',toks:=tk }) (RR:=fun acc A=>compPost C.M C.A E (some (assign (.Name x px) C.env)) (fun _ s'=>Q .next s') acc A) S O R' (ev_ok elt) (ev_ok cond) h2 h5 wk hsz hys fun G A h2 tk2 T2 vs n m' hG hA hGA k2 t2 nG nA hn ho r=>?_
 obtain⟨rr,h3,tk3,e3,res,I3,hP3⟩:=hP' (.ref G,T2) h2 tk2 T2 k2 t2 ⟨rfl,.fr nG (R'.ok.new hG) hG ho r⟩
 obtain⟨rfl,rfl⟩:h2=h3∧tk2=tk3:=by cases e3;exact⟨rfl,rfl⟩
 have hNA:C.N A:=R'.ok.new hA
 have hA0:h₀.get? A=none:=I.gone (k1.live hA (ns_live R.ok.ns))
 refine wpAny_assign_Name ?_
 have fin:∀ {σ'} {m2 cm2:Str→Option Value} {h4:Heap} {tk4:Nat},(∀ b o,C.N b→h2.get? b=some o→h4.get? b=some o)→Inv C K h₀ T₀ m2 cm2 T2 h4 σ'→SPost C K h₀ T₀ (Ev.ok (Fl.next,σ')) s Q E→
   ∃ m,h4.Ns A m∧∀ h',Heap.SameBut A h4 h'→Q .next { s with heap:=h',toks:=tk4 }:=fun hk I4 hP4=>by
  have hn4:=hn.at' fun o e=>hk A o hNA e
  refine⟨m',hn4,fun h5 hs5=>hP4 .next h5 _ T2 _ _ (I4.but F hA0 nA hNA (fun vs n e=>ns_lobj hn4 e rfl) hs5.extBut) .next⟩
 cases res with
 | pl r=>exact store_pl F I3 hx r fun m2 cm2 h4 tk4 hk I4=>fin hk I4 hP3
 | fr ta hn hf ho r=>exact store_ok F I3 hx (.own ta hn ho r) (fun _ b hb=>⟨((fr_own I hf) b hb).1,((fr_own I hf) b hb).2 i⟩) fun m2 cm2 h4 tk4 hk I4=>fin hk I4 hP3
 | bo hn ho r=>exact hP3.elim
 | tr r=>exact hP3.elim
theorem asg_rest {i:Nat} {e:X} (h:¬ ∃ j,e=.var j):IsS W Φ (.asg i e):=by
 intro C K st σ m cm T h₀ T₀ s Q E hc F I hP
 refine cAsg (P:=fun t=>wpAny C.M C.A (exec t C.env) Q E s) hc fun x px v p hx hv hsw=>?_
 cases hcv:isComp v with
 | false=>exact asg_plain (fun j hj=>h ⟨j,hj⟩) hx hv hcv F I hP
 | true=>
  have hu:swUsed K x px v=true:=hsw.resolve_left (by rw [hcv];decide)
  cases v with
  | ListComp a g sc q=>
   cases e with
   | comp elt vn rng it cond=>exact asg_comp hx hv hu F I hP
   | _=>exact ff hv
  | _=>exact ff hu
theorem is_asg {i:Nat} {e:X}:IsS W Φ (.asg i e):=by
 by_cases h:∃ j,e=.var j
 ·obtain⟨j,rfl⟩:=h;exact asg_var
 ·exact asg_rest h
end
end Mine

namespace Mine
open PySem PySem.W PySem.Calls PyProof.Rows PyProof.V PySem.Spec
section
variable {C:Cx} {K:Ck} {W:Wld} {Φ:Nat→List D→Ev (D×Kd)} {m m' cm cm':Str→Option Value} {T T' T₀:Addr→Prop} {s:Shared} {σ σ':Sg} {h h' h₀ h2:Heap}
 {Q:Flow→Shared→Prop} {E:Value→Shared→Prop} {e:Stmt}
theorem ns_len {is:List Nat} {ts:List PySem.Expr} {env:Env} (h:chkNs is K ts=true):(assignEach ts env).length=is.length∧(assignEach ts env).findIdx? (·.1)=none:=by
 induction is generalizing ts with
 | nil=>cases ts with
  | nil=>exact⟨rfl,rfl⟩
  | cons=>exact ff h
 | cons i is ih=>
  cases ts with
  | nil=>exact ff h
  | cons t ts=>
   refine onName_ok (P:=fun t=>(assignEach (t :: ts) env).length=(i :: is).length∧(assignEach (t :: ts) env).findIdx? (·.1)=none) h fun x p h=>?_
   obtain⟨h1,h2⟩:=ih (a2 h).2
   refine⟨by simpa [assignEach] using h1,?_⟩
   simp only [assignEach,List.findIdx?_cons]
   rw [h2];rfl
theorem store_all {E':Value→Shared→Prop} (F:Fix C K W Φ h₀ E):∀ {is:List Nat} {ts:List PySem.Expr} {vs:List Value} {ds:List D} {σ σ':Sg} {m cm:Str→Option Value} {s:Shared} {Q:Unit→Shared→Prop},chkNs is K ts=true→Inv C K h₀ T₀ m cm T s.heap σ→RdAll T s.heap vs ds→
  bindAll is ds σ=some σ'→(∀ m' cm' h' tk,Inv C K h₀ T₀ m' cm' T h' σ'→Q () { s with heap:=h',toks:=tk })→wpAny C.M C.A (assignInOrder ((assignEach ts C.env).map (·.2)) vs) Q E' s
 | [],[],vs,ds,σ,σ',m,cm,s,Q,_,I,r,hb,hq=>by
  cases ds with
  | nil=>cases hb;exact assignInOrder_nil (hq m cm s.heap s.toks I)
  | cons=>cases hb
 | [],_ :: _,_,_,_,_,_,_,_,_,h,_,_,_,_=>ff h
 | _ :: _,[],_,_,_,_,_,_,_,_,h,_,_,_,_=>ff h
 | i :: is,t :: ts,vs,ds,σ,σ',m,cm,s,Q,h,I,r,hb,hq=>by
  cases r with
  | nil=>cases hb
  | cons hd r=>
   refine onName_ok (P:=fun t=>wpAny C.M C.A (assignInOrder ((assignEach (t :: ts) C.env).map (·.2)) _) Q E' s) h fun x p h=>?_
   refine assignInOrder_cons (wpAny_assign_Name (store_pl F I (eq_of_beq (a2 h).1) hd fun m' cm' h' tk hk I'=>?_))
   exact store_all F (a2 h).2 I' (r.mono (fun _ q=>q) fun a o ta e=>hk a o (I.rel.ok.sub a ta) e) hb hq
theorem unpack_ok {E':Value→Shared→Prop} (F:Fix C K W Φ h₀ E) {is:List Nat} {ts:List PySem.Expr} {k:Nat} {p:Pos} {v:Value} {ds:List D} {Q:Unit→Shared→Prop} (hc:chkNs is K ts=true) (I:Inv C K h₀ T₀ m cm T s.heap σ) (r:Rd T s.heap v (.tup ds))
  (hb:bindAll is ds σ=some σ') (hq:∀ m' cm' h' tk,Inv C K h₀ T₀ m' cm' T h' σ'→Q () { s with heap:=h',toks:=tk }):wpAny C.M C.A (assign (.Tuple ts k p) C.env v) Q E' s:=by
 have bl:∀ {is:List Nat} {ds:List D} {σ σ':Sg},bindAll is ds σ=some σ'→is.length=ds.length:=by
  intro is
  induction is with
  | nil=>intro ds σ σ' h;cases ds <;> simp [bindAll] at h;rfl
  | cons i is ih=>intro ds σ σ' h;cases ds <;> simp [bindAll] at h;simp [ih h]
 cases r with
 | @tup a o vs n _ ta ho hcl hd r=>
  obtain⟨l1,l2⟩:=ns_len (env:=C.env) hc
  have hlen:=r.length
  have hit:s.heap.IsTuple a vs:=⟨o,ho,hcl,n,hd⟩
  refine wpAny_assign_Tuple F.sit.hand hit (by rw [l1,bl hb,← hlen];simp) l2 fun h' he=>?_
  have k':Kx C m s.heap h':=.of (I.rel.ok.ns.at' fun o e=>he _ o (Nat.ne_of_lt (Heap.lt_size e)) e) fun b o _ e=>he _ o (Nat.ne_of_lt (Heap.lt_size e)) e
  have t':=I.rel.ok.keep k'
  exact store_all F hc (I.step F k' t') (r.step I.rel.ok k' t') hb hq
theorem is_asgT {is:List Nat} {e:X}:IsS W Φ (.asgT is e):=by
 intro C K st σ m cm T h₀ T₀ s Q E hc F I hP
 refine cAsgT (P:=fun t=>wpAny C.M C.A (exec t C.env) Q E s) hc fun ts k q v p h1 h2 h3=>?_
 have hP:SPost C K h₀ T₀ ((ev Φ e σ).bind fun r=>match r with
  | (.tup ds,.pl)=>(Ev.of (bindAll is ds σ)).bind fun σ'=>Ev.ok (Fl.next,σ')
  | _=>Option.none) s Q E:=hP
 have hs:swapsWithSole [.Tuple ts k q] v p.line C.env=pure false:=by
  show swapsWith v (some (.Tuple ts k q)) p.line C.env=pure false
  cases v <;> rfl
 have hw:swappedStores [.Tuple ts k q] v C.env=pure none:=by cases v <;> first | rfl | (cases h3)
 refine Assign_Tuple (sp_ev h2 F I hP fun r v h' tk T' res I' k t hP'=>?_) hs hw
 split at hP'
 ·obtain⟨σ',hb,hP'⟩:=sp_of hP'
  cases res with
  | pl r=>exact unpack_ok F h1 I' r hb fun m' cm' h2 tk2 I2=>hP' .next _ _ _ _ _ I2 .next
 ·exact hP'.elim
theorem Inv.own_upd (I:Inv C K h₀ T₀ m cm T h σ) (F:Fix C K W Φ h₀ E) {x:Str} {i:Nat} {a:Addr} {ds ds':List D} {vs':Array Value} {n':Nat} (hx:K.ctx.lookup x=some i) (hi:σ i=some ⟨.lst ds,true⟩) (ha:vof C m cm x=some (.ref a))
  (ho':h'.get? a=some (lobj vs' n')) (r':RdAll T h vs'.toList ds') (hk:∀ b o,b≠a→h.get? b=some o→h'.get? b=some o):Inv C K h₀ T₀ m cm T h' (upd σ i ⟨.lst ds',true⟩):=by
 have R:=I.rel
 have ha0:=I.own x i _ a hx hi ha
 obtain⟨w,hw,hr⟩:=R.var x i _ hx hi
 rw [ha] at hw
 cases hw
 cases hr with
 | own ta hn ho r=>
  have nT:∀ b,T b→b≠a:=fun b tb e=>ta (e ▸ tb)
  have up:∀ j e,upd σ i ⟨.lst ds',true⟩ j=some ⟨e,true⟩→∃ e',σ j=some ⟨e',true⟩:=fun j e hj=>by
   by_cases hji:j=i
   ·subst hji;exact⟨_,hi⟩
   ·rw [upd_ne _ _ (by simpa using hji)] at hj;exact⟨_,hj⟩
  refine⟨⟨R.ok.chg (R.ok.ns.at' fun o e=>hk _ o (Ne.symm hn.1) e) (fun b o tb e=>hk b o (nT b tb) e) (fun b hb _ o e=>hk b o (by rintro rfl;exact hn.2.1 hb) e) (fun p hp=>?_),fun y c hc=>?_,fun y j c hy hc=>?_⟩,⟨I.ext.up,I.ext.new,fun b tb=>?_⟩,fun b o e=>?_,fun y j d b hy hj hb=>?_,fun y z j l d e b hy hz hj hl hb hb'=>?_⟩
  ·obtain⟨o,ho⟩:=R.ok.cells p hp
   exact⟨o,hk _ _ (fun q=>hn.2.2 p hp q.symm) ho⟩
  ·obtain⟨o,ho,hd⟩:=R.cell y c hc
   exact⟨o,hk _ _ (fun q=>hn.2.2 _ (PySem.mem_of_lookup hc) q.symm) ho,hd⟩
  ·by_cases hji:j=i
   ·subst hji
    rw [upd_same] at hc
    cases hc
    have:=F.inj _ _ _ hy hx
    subst this
    exact⟨_,ha,.own ta hn ho' (r'.mono (fun _ q=>q) fun c o tc e=>hk c o (nT c tc) e)⟩
   ·rw [upd_ne _ _ (by simpa using hji)] at hc
    obtain⟨w,hw,hr⟩:=R.var y j c hy hc
    refine⟨w,hw,?_⟩
    cases hr with
    | pl r=>exact .pl (r.mono (fun _ q=>q) fun b o tb e=>hk b o (nT b tb) e)
    | own tb hnb hob rb=>
     exact .own tb hnb (hk _ _ (by rintro rfl;exact hji (I.apart y x j i _ _ _ hy hx hc hi hw ha)) hob) (rb.mono (fun _ q=>q) fun b o tb e=>hk b o (nT b tb) e)
  ·obtain⟨o,ho⟩:=R.ok.ex b tb
   exact⟨o,hk _ _ (nT b tb) ho⟩
  ·obtain⟨sl,e1,p1⟩:=I.keep b o e
   exact⟨sl,hk _ _ (by rintro rfl;rw [ha0] at e;cases e) e1,p1⟩
  ·obtain⟨d',hd'⟩:=up j d hj
   exact I.own y j d' b hy hd' hb
  ·obtain⟨d',hd'⟩:=up j d hj
   obtain⟨e',he'⟩:=up l e hl
   exact I.apart y z j l d' e' b hy hz hd' he' hb hb'
theorem is_setI {i:Nat} {a e:X}:IsS W Φ (.setI i a e):=by
 intro C K st σ m cm T h₀ T₀ s Q E hc F I hP
 refine cSet (P:=fun t=>wpAny C.M C.A (exec t C.env) Q E s) hc fun x p ix q v r hx hd h1 h2 hnc=>?_
 have hP:SPost C K h₀ T₀ (match σ i with
  | some ⟨.lst ds,true⟩=>(ev Φ e σ).bind fun r=>(ev Φ a σ).bind fun k=>(Ev.of (frz r)).bind fun d=>match k.1 with
   | .int n=>if 0≤n∧n < ds.length∧ds.length≤big then Ev.ok (Fl.next,upd σ i ⟨.lst (ds.set n.toNat d),true⟩) else Option.none
   | _=>Option.none
  | _=>Option.none) s Q E:=hP
 split at hP
 ·rename_i ds hs
  refine wpAny_Assign_Subscript (sp_ev h2 F I hP fun rv v h' tk T' res I' k t hP'=>?_) (sw_false hnc)
  refine name_ld F.sit.env I'.rel hx hd hs fun lv hlv _=>?_
  refine sp_ev h1 F I' hP' fun ri iv h2 tk2 T2 res2 I2 k2 t2 hP2=>?_
  obtain⟨d,hd',hP3⟩:=sp_of hP2
  have hl:=ns_live I.rel.ok.ns
  have kk:=k.trans k2
  have tt:=t.trans t2 k hl
  have res3:=res.step I'.rel.ok k2 t2
  obtain⟨T3,u3,t3,r3⟩:=res3.frz tt hd'
  have I3:=I.step F kk t3
  obtain⟨ri,kri⟩:=ri
  cases ri with
  | int n=>
   dsimp only at hP3
   split at hP3
   ·rename_i hn
    obtain⟨tn,rfl⟩:=(res2.any I2.rel.ok).int_inv
    obtain⟨w,hw,hr⟩:=I3.rel.var x i _ hx hs
    rw [hlv] at hw
    cases hw
    cases hr with
    | @own la vs nn _ ta hN ho rr=>
     have hlen:vs.size=ds.length:=by rw [← rr.length];simp
     have hb:ds.length≤1048576:=hn.2.2
     refine ki_setAt (n:=nn) ho hn.1 (by omega) (by rw [hlen];exact hn.2.1) ?_
     have q:=PySem.IsL.update (show PySem.IsL h2 la vs nn from ho) (·.setIfInBounds n.toNat v)
     refine hP3 .next _ tk2 T3 _ _ (I3.own_upd F hx hs hlv q ?_ fun b o hb e=>(Heap.get?_update_other _ _ (Ne.symm hb)).trans e) .next
     rw [Array.toList_setIfInBounds]
     exact rr.set r3 _
   ·exact hP3.elim
  | _=>exact hP3.elim
 ·exact hP.elim
theorem is_app {i:Nat} {e:X}:IsS W Φ (.app i e):=by
 intro C K st σ m cm T h₀ T₀ s Q E hc F I hP
 refine cApp (P:=fun t=>wpAny C.M C.A (exec t C.env) Q E s) hc fun x q ap v p r hx hd hli h1=>?_
 have hP:SPost C K h₀ T₀ (match σ i with
  | some ⟨.lst ds,true⟩=>(ev Φ e σ).bind fun r=>(Ev.of (frz r)).bind fun d=>if ds.length < big then Ev.ok (Fl.next,upd σ i ⟨.lst (ds ++ [d]),true⟩) else Option.none
  | _=>Option.none) s Q E:=hP
 split at hP
 ·rename_i ds hs
  have es:=star_of (C:=C) h1 []
  have hfew:((backTo p (starEach [v] C.env)).all (fun x=>!x.1) && (backToKw p (keywordEach [] C.env)).all (fun x=>x.1.isSome)
    && decide (([v]:List PySem.Expr).length + ([]:List Keyword).length + (if ([]:List Keyword).isEmpty then 0 else 1) < 30))=true:=by rw [es];rfl
  refine wpAny_Expr (wpAny_Call_method rfl hfew hli PySem.F.plainAttrs_list PySem.F.slot_list_append PySem.F.type_list_append (name_ld F.sit.env I.rel hx hd hs fun lv hlv hr=>?_)) ?_ rfl
  ·cases hr with
   | @own la vs nn _ ta hN ho rr=>
    refine⟨⟨_,ho,rfl⟩,fun a ha=>(by cases ha;exact⟨_,ho,rfl⟩),?_⟩
    refine callWith_method1 (args_cons (sp_ev h1 F I hP fun rv v h' tk T' res I' k t hP'=>args_nil ?_) es) es
    obtain⟨d,hd',hP3⟩:=sp_of hP'
    obtain⟨T3,u3,t3,r3⟩:=res.frz t hd'
    have I3:=I.step F k t3
    by_cases hb:ds.length < big
    ·rw [if_pos hb] at hP3
     obtain⟨w,hw,hr⟩:=I3.rel.var x i _ hx hs
     rw [hlv] at hw
     cases hw
     cases hr with
     | @own la vs nn _ ta hN ho rr=>
      have hlen:vs.size=ds.length:=by rw [← rr.length];simp
      refine wpAny_list_append_plain ⟨nn,ho⟩ (fun h6 hp6 hs6=>?_) (by rw [hlen,sizeLine_eq];rw [big] at hb;exact li1 (.n (ds.length) .o) (nat_lit 0x7d94000000000018da400000000063) hb)
      obtain⟨n6,hp6⟩:=hp6
      refine hP3 .next _ tk T3 _ _ (I3.own_upd F hx hs hlv hp6 ?_ hs6.extBut) .next
      rw [Array.toList_push]
      exact rr.append (.cons r3 .nil)
    ·rw [if_neg hb] at hP3;exact hP3.elim
  ·unfold interactive
   rw [F.sit.env.kind];rfl
 ·exact hP.elim
end
end Mine

namespace Mine
open PySem PySem.W PySem.Calls PyProof.Rows PyProof.V PySem.Spec
section
variable {C:Cx} {K:Ck} {W:Wld} {Φ:Nat→List D→Ev (D×Kd)} {m m' cm cm':Str→Option Value} {T T' T₀:Addr→Prop} {s:Shared} {σ σ':Sg} {h h' h₀ h2:Heap}
 {Q:Flow→Shared→Prop} {E:Value→Shared→Prop} {e:Stmt}
theorem rd_keep {T1 T2:Addr→Prop} {h1 h2:Heap} {v:Value} {d:D} (r:Rd T1 h1 v d) (hT:∀ a,T1 a→T2 a) (hk:∀ a o,T1 a→h1.get? a=some o→h2.get? a=some o):Rd T2 h2 v d:=r.mono hT hk
theorem Re.getT {hb:Heap} (B:Re C K W Φ h₀ T₀ m cm T h σ E hb) {a:Addr} {o:Obj} (ta:T a) (e:h.get? a=some o):hb.get? a=some o:=by
 refine B.get a o (B.inv.rel.ok.sub a ta) (fun x i d hx hi ha=>?_) e
 obtain⟨w,hw,hr⟩:=B.inv.rel.var x i _ hx hi
 rw [ha] at hw
 cases hw
 cases hr with
 | own tn _ _ _=>exact tn ta
inductive ForAt (C:Cx) (K:Ck) (hb0:Heap) (T:Addr→Prop) (s:Shared) (J:Addr) (ds:List D) (f:D→Sg→Ev (Fl×Sg)) (St:Nat→Heap→Prop) (Q:Flow→Shared→Prop) (E:Value→Shared→Prop) (k:Nat) (s':Shared):Prop
 | mk (i:Nat) (h:Heap) (tk:Nat) (m cm:Str→Option Value) (T1:Addr→Prop) (σ:Sg) (e1:s'={ s with heap:=h,toks:=tk }) (e2:k=ds.length - i) (le:i≤ds.length) (st:St i h) (nT:¬ T1 J) (I:Inv C K hb0 T m cm T1 h σ) (hP:SPost C K hb0 T (forGo f (ds.drop i) σ) s Q E):
  ForAt C K hb0 T s J ds f St Q E k s'
theorem for_core {target:PySem.Expr} {bd:List Stmt} {ds:List D} {f:D→Sg→Ev (Fl×Sg)} {J:Addr} {h1:Heap} {fp:List Addr} {P:Nat→Value→Prop} {St:Nat→Heap→Prop} (F:Fix C K W Φ h₀ E) (I:Inv C K h₀ T₀ m cm T s.heap σ)
  (wk:Walk C m T s.heap ds J h1 fp P St) (hfp:∀ b ∈ fp,b=J∨T b) (hP:SPost C K h₀ T₀ (forGo f ds σ) s Q E)
  (ht:(∃ x p,target=.Name x p)∨∃ es k p,target=.Tuple es k p)
  (hbody:∀ {hb:Heap} {T1 T2:Addr→Prop} {m cm:Str→Option Value} {σ:Sg} {s:Shared} {d:D} {v:Value} {Qb:Flow→Shared→Prop},Fix C K W Φ hb E→Inv C K hb T1 m cm T2 s.heap σ→Rd T2 s.heap v d→SPost C K hb T1 (f d σ) s Qb E→
   wpAny C.M C.A (assign target C.env v) (fun _ s2=>wpAny C.M C.A (execs bd C.env) Qb E s2) E s):
  codeAny C.M C.A (.forLoop target (.ref J) bd [] C.env) (fun r s'=>match r with | .ok f=>Q f s' | .error e=>cameBackBy C.M C.A C.env E e s') { s with heap:=h1 }:=by
 have hl:=ns_live I.rel.ok.ns
 have hLJ:C.L≠J:=ne_new wk.new hl
 have hNJ:C.N J:=I.rel.ok.new wk.new
 obtain⟨hb0,B0⟩:=I.rebase F
 have F0:=B0.fix
 have hJ0:hb0.get? J=none:=by
  cases q:hb0.get? J with
  | none=>rfl
  | some o=>have:=B0.sub J o q;rw [wk.new] at this;cases this
 have notL:∀ {i h},St i h→∀ vs n,h.get? J≠some (lobj vs n):=fun {i h} st vs n e=>by
  obtain⟨nm,h1,h2⟩:=wk.nm i h st _ e
  cases h1
  simp at h2
 have nTJ:¬ T J:=fun q=>by obtain⟨o,ho⟩:=I.rel.ok.ex J q;rw [wk.new] at ho;cases ho
 have hP0:=B0.back hP
 have I1:Inv C K hb0 T m cm T h1 σ:=B0.inv.step F0 wk.kx (I.rel.ok.keep wk.kx)
 refine codeAny_forLoop_any (ForAt C K hb0 T s J ds f St Q E) ?_ ds.length
  ⟨0,h1,s.toks,m,cm,T,σ,rfl,rfl,Nat.zero_le _,wk.st,nTJ,I1,hP0⟩
 rintro k s' ⟨i,h,tk,m,cm,T1,σ,rfl,rfl,le,st,nT1,Ii,hPi⟩
 by_cases hlt:i < ds.length
 ·refine wk.walks.item i _ _ _ hlt st fun v h2 tk2 hv st2 hk2=>?_
  have hk2':∀ b o,b≠J→h.get? b=some o→h2.get? b=some o:=fun b o hb e=>hk2 b o (by simpa using hb) e
  obtain⟨d,hd,rd⟩:=wk.item i v hv
  have I2:=Ii.but F0 hJ0 nT1 hNJ (notL st) hk2'
  have rd2:Rd T1 h2 v d:=rd.mono (fun a q=>Ii.ext.up a q) fun a o ta e=>by
   have e0:=B0.getT ta e
   obtain⟨sl,e1,p1⟩:=I2.keep a o e0
   rw [p1 (I.rel.ok.sub a ta).2.1] at e1
   exact e1
  have hdrop:ds.drop i=d :: ds.drop (i + 1):=by
   rw [List.drop_eq_getElem_cons hlt]
   congr 1
   rw [List.getElem?_eq_getElem hlt] at hd
   cases hd;rfl
  rw [hdrop] at hPi
  obtain⟨hb,B⟩:=I2.rebase F0
  have hJb:∃ o,hb.get? J=some o∧h2.get? J=some o:=by
   obtain⟨o,ho⟩:=wk.here _ _ st2
   refine⟨o,B.get J o hNJ (fun x j e hx hj ha=>?_) ho,ho⟩
   obtain⟨w,hw,hr⟩:=I2.rel.var x j _ hx hj
   rw [ha] at hw
   cases hw
   cases hr with
   | own _ _ ho' _=>exact notL st2 _ _ ho'
  have bodyP:SPost C K hb T1 (f d σ) s (fun fw s3=>match fw with
    | .next | .cont=>∃ m₁,m₁ < ds.length - i∧ForAt C K hb0 T s J ds f St Q E m₁ s3
    | .brk=>Q .next s3
    | .ret v=>Q (.ret v) s3) E:=by
   have hPi':SPost C K hb0 T ((f d σ).bind fun r=>match r.1 with
    | .ret _ _=>Ev.ok r
    | _=>forGo f (ds.drop (i + 1)) r.2) s Q E:=hPi
   match hr:f d σ,hPi' with
   | some .bad,hPi'=>exact B.back (r:=some .bad) hPi'
   | some (.ok (fl,σ2)),hPi'=>
    intro fw h3 tk3 T3 m3 cm3 I3 hf
    have st3:St (i + 1) h3:=wk.walks.frame _ _ _ st2 fun b hbm o e=>by
     have eb:hb.get? b=some o∧C.N b:=by
      rcases hfp b hbm with rfl | tb
      ·obtain⟨o',e1,e2⟩:=hJb
       rw [e] at e2;cases e2
       exact⟨e1,hNJ⟩
      ·exact⟨B.getT (Ii.ext.up b tb) e,I.rel.ok.sub b tb⟩
     obtain⟨sl,e1,p1⟩:=I3.keep b o eb.1
     rw [p1 eb.2.2.1] at e1
     exact e1
    have nT3:¬ T3 J:=fun q=>(I3.ext.new J q).elim nT1 fun z=>by obtain⟨o,e1,_⟩:=hJb;rw [z] at e1;cases e1
    cases hf with
    | next=>exact⟨ds.length - (i + 1),by exact li3 (.n (ds.length - (i + 1)) (.n (ds.length - i) (.n i (.n (ds.length) .o)))) (nat_lit 0x7df7da92375c6d00246a599c6e64659199a575c6d002369140196671b9914500658d999140195a9a5) hlt (lsn (ds.length) (i + 1)) (lsn (ds.length) (i)),i + 1,h3,tk3,m3,cm3,T3,σ2,rfl,rfl,hlt,st3,nT3,B.off I3,hPi'⟩
    | cont=>exact⟨ds.length - (i + 1),by exact li3 (.n (ds.length - (i + 1)) (.n (ds.length - i) (.n i (.n (ds.length) .o)))) (nat_lit 0x7df7da92375c6d00246a599c6e64659199a575c6d002369140196671b9914500658d999140195a9a5) hlt (lsn (ds.length) (i + 1)) (lsn (ds.length) (i)),i + 1,h3,tk3,m3,cm3,T3,σ2,rfl,rfl,hlt,st3,nT3,B.off I3,hPi'⟩
    | ret hk r=>exact hPi' _ h3 tk3 T3 m3 cm3 (B.off I3) (.ret hk (r.older fun a e=>B.gone a e))
  have go:=hbody (s:={ s with heap:=h2,toks:=tk2 }) B.fix B.inv rd2 bodyP.at
  have owned:wpAny C.M C.A (letOwnedTupleGo target (.ref J) v) (fun _ s1=>wpAny C.M C.A (assign target C.env v) (fun _ s2=>wpAny C.M C.A (execs bd C.env) (fun fw s3=>match fw with
    | .next | .cont=>∃ m₁,m₁ < ds.length - i∧ForAt C K hb0 T s J ds f St Q E m₁ s3
    | .brk=>Q .next s3
    | .ret v=>Q (.ret v) s3) E s2) E s1) E { s with heap:=h2,toks:=tk2 }:=by
   rcases ht with ⟨x,p,rfl⟩ | ⟨es,k,p,rfl⟩
   ·exact wpAny_pure go
   ·unfold letOwnedTupleGo
    cases v with
    | ref a=>
     obtain⟨o,ho⟩:=wk.here _ _ st2
     refine wpAny_bind (wpAny_load ho ?_)
     obtain⟨nm,hn1,hn2⟩:=wk.nm _ _ st2 o ho
     rw [hn1]
     simp only [List.mem_cons,List.not_mem_nil,or_false] at hn2
     have hc:["enumerate", "zip", "dict_itemiterator", "dict_reverseitemiterator", "odict_iterator", "itertools.zip_longest", "itertools.pairwise"].contains nm=false:=by
      rcases hn2 with rfl | rfl | rfl | rfl <;> decide
     split
     ·rename_i n vs e1 e2
      cases e1
      rw [hc,Bool.false_and,if_neg (by decide)]
      exact wpAny_pure go
     ·exact wpAny_pure go
    | _=>exact wpAny_pure go
  exact wpAny_passesOwn F.own (wpAny_mono owned (fun _ s1 h1=>wpAny_passesOwn F.own (wpAny_mono h1 (fun _ s2 h2=>wpAny_passesOwn F.own h2) fun _ _ x=>x)) fun _ _ x=>x)
 ·have hi:i=ds.length:=by exact li2 (.n i (.n (ds.length) .o)) (nat_lit 0x7df6e48de6a48d9923) le hlt
  subst hi
  refine wk.walks.done _ _ _ st fun h2 tk2 hk2=>?_
  have hk2':∀ b o,b≠J→h.get? b=some o→h2.get? b=some o:=fun b o hb e=>hk2 b o (by simpa using hb) e
  rw [List.drop_length] at hPi
  exact wpAny_execs_nil (hPi .next h2 tk2 T1 m cm (Ii.but F0 hJ0 nT1 hNJ (notL st) hk2') .next)
end
end Mine

namespace Mine
open PySem PySem.W PySem.Calls PyProof.Rows PyProof.V PySem.Spec
section
variable {C:Cx} {K:Ck} {W:Wld} {Φ:Nat→List D→Ev (D×Kd)} {m m' cm cm':Str→Option Value} {T T' T₀:Addr→Prop} {s:Shared} {σ σ':Sg} {h h' h₀ h2:Heap}
 {Q:Flow→Shared→Prop} {E:Value→Shared→Prop} {e:Stmt}
theorem hand_other {e:X} {k:Kd} (hne:∀ j,e≠.var j):handOn e k σ=(match k with | .bo=>Option.none | .tr=>Option.none | _=>some σ):=by
 cases k <;> first | rfl | (cases e <;> first | rfl | exact absurd rfl (hne _))
theorem sp_hand {x:X} {e:PySem.Expr} {f:D×Kd→Sg→Ev (Fl×Sg)} {Q':Value→Shared→Prop} (hc:chk x K e=true) (F:Fix C K W Φ h₀ E) (I:Inv C K h₀ T₀ m cm T s.heap σ)
  (hP:SPost C K h₀ T₀ ((ev Φ x σ).bind fun r=>(Ev.of (handOn x r.2 σ)).bind fun σ'=>f r σ') s Q E)
  (h:∀ r σ' v h' tk T',Inv C K h₀ T₀ m cm T' h' σ'→Rd T' h' v r.1→SPost C K h₀ T₀ (f r σ') s Q E→Q' v { s with heap:=h',toks:=tk }):wpAny C.M C.A (eval e C.env) Q' E s:=by
 by_cases hv:∃ j,x=.var j
 ·obtain⟨j,rfl⟩:=hv
  refine chk_var (P:=fun e=>wpAny C.M C.A (eval e C.env) Q' E s) hc fun y py h1 h2=>?_
  rw [ev_var] at hP
  cases hs:σ j with
  | none=>rw [hs] at hP;exact hP.elim
  | some c=>
   rw [hs] at hP
   refine name_ld F.sit.env I.rel h1 h2 hs fun v hv hr=>?_
   cases hr with
   | pl r=>exact h (_,.pl) σ v s.heap s.toks T I r hP
   | @own a vs n ds ta hn ho r=>
    obtain⟨T1,u1,I1⟩:=I.freeze1 j
    obtain⟨w,hw,hr1⟩:=I1.rel.var y j ⟨.lst ds,false⟩ h1 (by simp [frz1,hs])
    rw [hv] at hw
    cases hw
    cases hr1 with
    | pl r1=>exact h (.lst ds,.bo) (frz1 σ j) _ s.heap s.toks T1 I1 r1 hP
 ·have hne:∀ j,x≠.var j:=fun j hj=>hv ⟨j,hj⟩
  refine sp_ev hc F I hP fun r v h' tk T' res I' k t hP'=>?_
  rw [hand_other hne] at hP'
  obtain⟨d,kd⟩:=r
  cases kd with
  | pl=>cases res with | pl r=>exact h _ σ v h' tk T' I' r hP'
  | fr=>
   obtain⟨T2,u2,t2,r2⟩:=res.frz t (d:=d) rfl
   exact h _ σ v h' tk T2 (I.step F k t2) r2 hP'
  | bo=>exact hP'.elim
  | tr=>exact hP'.elim
theorem is_forE {t:Nat} {e:X} {body:List St} (ib:IsSs W Φ body):IsS W Φ (.forE t e body):=by
 intro C K st σ m cm T h₀ T₀ s Q E hc F I hP
 refine cForE (P:=fun t=>wpAny C.M C.A (exec t C.env) Q E s) hc fun x q it bd p hx hns h1 h2=>?_
 have hP:SPost C K h₀ T₀ ((ev Φ e σ).bind fun r=>(Ev.of (handOn e r.2 σ)).bind fun σ'=>(Ev.of (items r.1)).bind fun ds=>
   forGo (fun d σ=>exs Φ body (upd σ t ⟨d,false⟩)) ds σ') s Q E:=hP
 refine wpAny_For (sp_hand h1 F I hP fun r σ' v h' tk T' I' rd hP'=>?_) (notSet hns)
 obtain⟨ds,hds,hP'⟩:=sp_of hP'
 refine iter_ok (s:={ s with heap:=h',toks:=tk }) (h₀:=h') (k:=.pl) (.pl rd) rfl hds I'.rel.ok F.sit.hand fun J fp P St h1 wk hfp=>?_
 refine for_core (s:={ s with heap:=h',toks:=tk }) F I' wk (hfp rfl) hP'.at (.inl ⟨_,_,rfl⟩) fun {hb T1 T2 m cm σ s d v Qb} Fb Ib rb hPb=>?_
 exact wpAny_assign_Name (store_pl Fb Ib hx rb fun m' cm' h' tk _ I2=>ib h2 Fb I2 hPb.at)
theorem is_forT {ts:List Nat} {e:X} {body:List St} (ib:IsSs W Φ body):IsS W Φ (.forT ts e body):=by
 intro C K st σ m cm T h₀ T₀ s Q E hc F I hP
 refine cForT (P:=fun t=>wpAny C.M C.A (exec t C.env) Q E s) hc fun es k q it bd p hx hns h1 h2=>?_
 have hP:SPost C K h₀ T₀ ((ev Φ e σ).bind fun r=>(Ev.of (handOn e r.2 σ)).bind fun σ'=>(Ev.of (items r.1)).bind fun ds=>
   forGo (fun d σ=>match d with
    | .tup xs=>(Ev.of (bindAll ts xs σ)).bind fun σ''=>exs Φ body σ''
    | _=>Option.none) ds σ') s Q E:=hP
 refine wpAny_For (sp_hand h1 F I hP fun r σ' v h' tk T' I' rd hP'=>?_) (notSet hns)
 obtain⟨ds,hds,hP'⟩:=sp_of hP'
 refine iter_ok (s:={ s with heap:=h',toks:=tk }) (h₀:=h') (k:=.pl) (.pl rd) rfl hds I'.rel.ok F.sit.hand fun J fp P St h1 wk hfp=>?_
 refine for_core (s:={ s with heap:=h',toks:=tk }) F I' wk (hfp rfl) hP'.at (.inr ⟨_,_,_,rfl⟩) fun {hb T1 T2 m cm σ s d v Qb} Fb Ib rb hPb=>?_
 cases d with
 | tup xs=>
  obtain⟨σ2,hb2,hPb⟩:=sp_of hPb
  exact unpack_ok Fb hx Ib rb hb2 fun m' cm' h' tk I2=>ib h2 Fb I2 hPb.at
 | _=>exact hPb.elim
theorem is_forR {t:Nat} {a b:X} {body:List St} (ib:IsSs W Φ body):IsS W Φ (.forR t a b body):=by
 intro C K st σ m cm T h₀ T₀ s Q E hc F I hP
 refine cForR (P:=fun t=>wpAny C.M C.A (exec t C.env) Q E s) hc fun x q py args p' bd p hx h2 hg hnd ha=>?_
 have hP:SPost C K h₀ T₀ ((if isNon a then Ev.ok (.int 0,.pl) else ev Φ a σ).bind fun x=>(ev Φ b σ).bind fun y=>
   (Ev.of (match x.1,y.1 with
    | .int lo,.int hi=>rangeD lo hi
    | _,_=>Option.none)).bind fun ds=>forGo (fun d σ=>exs Φ body (upd σ t ⟨d,false⟩)) ds σ) s Q E:=hP
 have fin:∀ {r:Addr} {lo hi:Int} {tl th tw:Tok} {ds:List D} {h3:Heap} {tk3:Nat} {T3:Addr→Prop},IsRange h3 r lo hi 1 tl th tw→rangeD lo hi=some ds→Inv C K h₀ T₀ m cm T3 h3 σ→SPost C K h₀ T₀ (forGo (fun d σ=>exs Φ body (upd σ t ⟨d,false⟩)) ds σ) s Q E→
   wpAny C.M C.A (pyIter (.ref r)) (fun it s₂=>codeAny C.M C.A (.forLoop (.Name x q) it bd [] C.env) (fun r s'=>match r with | .ok f=>Q f s' | .error e=>cameBackBy C.M C.A C.env E e s') s₂) E { s with heap:=h3,toks:=tk3 }:=by
  intro r lo hi tl th tw ds h3 tk3 T3 hr hds I3 hP3
  refine range_ok (s:={ s with heap:=h3,toks:=tk3 }) hr hds I3.rel.ok F.sit.hand fun J fp P St h1 wk hfp=>?_
  refine for_core (s:={ s with heap:=h3,toks:=tk3 }) F I3 wk hfp hP3.at (.inl ⟨_,_,rfl⟩) fun {hb T1 T2 m cm σ s d v Qb} Fb Ib rb hPb=>?_
  exact wpAny_assign_Name (store_pl Fb Ib hx rb fun m' cm' h' tk _ I2=>ib h2 Fb I2 hPb.at)
 refine wpAny_For (Call_ (blt_ld (v:=.type "range") F.sit I.rel.ok hg hnd (by decide) ?_))
 rcases ha with ⟨j,rfl,hna,hb⟩ | ⟨j,l,rfl,hna,hja,hlb⟩
 ·rw [hna] at hP
  have es:=star_of (C:=C) hb []
  refine PyProof.Rows.callWith_type1 (args_cons (sp_ev hb F I hP fun r v h' tk T' res I' k tt hP'=>args_nil ?_) es) es
  obtain⟨ds,hds,hP2⟩:=sp_of hP'
  obtain⟨d,kd⟩:=r
  cases d with
  | int n=>
   obtain⟨tn,rfl⟩:=(res.any I'.rel.ok).int_inv
   refine call_range_1 ?_
   have kp:Kx C m h' (h'.push { cls:=.type "range",data:=.fields #[.int 0 tk,.int n tn,.int 1 (tk + 1)] }):=Kx.push I'.rel.ok.ns _
   exact fin (IsRange.new ..) hds (I'.step F kp (I'.rel.ok.keep kp)) hP2
  | _=>cases hds
 ·rw [hna] at hP
  have es:=star_of (C:=C) hja [l]
  have es2:=star_of (C:=C) hlb []
  have pl:(backTo p' (starEach [l] C.env)).any (·.1)=false:=by rw [es2];rfl
  refine PyProof.Rows.callWith_type1 (args_cons (sp_ev hja F I hP fun r v h' tk T' res I' k tt hP'=>args_cons (sp_ev (s:={ s with heap:=h',toks:=tk }) hlb F I' hP'.at fun r2 v2 h2 tk2 T2 res2 I2 k2 t2 hP2=>args_nil ?_) es2) es) es pl
  obtain⟨ds,hds,hP3⟩:=sp_of hP2
  have res3:=res.step I'.rel.ok k2 t2
  obtain⟨d,kd⟩:=r
  obtain⟨d2,kd2⟩:=r2
  cases d2 with
  | int n2=>
   obtain⟨tn2,rfl⟩:=(res2.any I2.rel.ok).int_inv
   cases d with
   | int n=>
    obtain⟨tn,rfl⟩:=(res3.any I2.rel.ok).int_inv
    refine call_range_2 ?_
    have kp:Kx C m h2 (h2.push { cls:=.type "range",data:=.fields #[.int n tn,.int n2 tn2,.int 1 tk2] }):=Kx.push I2.rel.ok.ns _
    exact fin (IsRange.new ..) hds (I2.step F kp (I2.rel.ok.keep kp)) (SPost.at (h':=s.heap) (tk:=s.toks) hP3)
   | _=>cases hds
  | _=>cases d <;> cases hds
theorem is_whil {c:X} {body:List St} (ib:IsSs W Φ body):IsS W Φ (.whil c body):=by
 intro C K st σ m cm T h₀ T₀ s Q E hc F I hP
 refine cWhil (P:=fun t=>wpAny C.M C.A (exec t C.env) Q E s) hc fun v bd p h1 h2=>?_
 have hP:SPost C K h₀ T₀ (whileGo (fun σ=>(ev Φ c σ).bind fun x=>Ev.of (asB x.1)) (fun σ=>exs Φ body σ) 100 σ) s Q E:=hP
 refine wpAny_While (codeAny_whileLoop (fun n s'=>∃ h tk m cm T σ,s'={ s with heap:=h,toks:=tk }∧Inv C K h₀ T₀ m cm T h σ∧SPost C K h₀ T₀ (whileGo (fun σ=>(ev Φ c σ).bind fun x=>Ev.of (asB x.1)) (fun σ=>exs Φ body σ) n σ) s Q E) ?_ 100
  ⟨s.heap,s.toks,m,cm,T,σ,rfl,I,hP⟩)
 rintro n s' ⟨h,tk,m,cm,T,σ,rfl,I,hP⟩
 cases n with
 | zero=>exact hP.elim
 | succ n=>
  have hP:SPost C K h₀ T₀ ((ev Φ c σ).bind fun x=>(Ev.of (asB x.1)).bind fun b=>if b then (exs Φ body σ).bind fun r=>(match r.1 with
   | .ret _ _=>Ev.ok r
   | _=>whileGo (fun σ=>(ev Φ c σ).bind fun x=>Ev.of (asB x.1)) (fun σ=>exs Φ body σ) n r.2) else Ev.ok (Fl.next,σ)) s Q E:=by
   have e:∀ (m:Ev (D×Kd)) (g:D×Kd→Ev Bool) (f:Bool→Ev (Fl×Sg)),(m.bind g).bind f=m.bind fun x=>(g x).bind f:=by
    intro m g f
    rcases m with _ | (_ | _) <;> rfl
   rw [← e];exact hP
  refine wpAny_passesOwn F.own (sp_tst (s:={ s with heap:=h,toks:=tk }) h1 F I hP.at fun b h' tk' T' I' hP'=>?_)
  cases b with
  | false=>
   rw [if_neg (by decide)] at hP' ⊢
   exact wpAny_execs_nil (hP' .next h' tk' T' m cm I' .next)
  | true=>
   rw [if_pos rfl] at hP' ⊢
   refine wpAny_passesOwn F.own (ib h2 F I' (SPost.bindS hP'.at fun fl σ' fw h3 tk3 T3 m3 cm3 hP3 I3 hf=>?_))
   cases hf with
   | next=>exact⟨n,Nat.lt_succ_self n,h3,tk3,m3,cm3,T3,σ',rfl,I3,by exact hP3⟩
   | cont=>exact⟨n,Nat.lt_succ_self n,h3,tk3,m3,cm3,T3,σ',rfl,I3,by exact hP3⟩
   | ret hk r=>exact hP3 _ h3 tk3 T3 m3 cm3 I3 (.ret hk r)
end
end Mine

namespace Mine
open PySem PySem.W PySem.Calls PyProof.Rows PyProof.V PySem.Spec
noncomputable def ckOf (nums:List (Str×Nat)) (scope:Scope):Ck where
 ctx:=nums
 glb:=fun y=>scope.names.lookup y == some .globalImplicit
 cel:=fun y=>scope.names.lookup y == some .cell
 loc:=fun y=>scope.names.lookup y == some .local
noncomputable def chkFun (F:Fun) (nums:List (Str×Nat)) (params:Arguments) (body:List Stmt) (scope:Scope):Bool:=
 scope.kind == .function && !scope.isCoroutine && !scope.isGenerator && params.posonlyargs.isEmpty && params.vararg.isNone && params.kwonlyargs.isEmpty && params.kwarg.isNone
 && params.args.map (·.arg) == (nums.take F.n).map (·.1) && decide (nums.map (·.1)).Nodup && nums.map (·.2) == List.range nums.length && decide (F.n≤nums.length)
 && nums.all (fun p=>scope.names.lookup p.1 == some .local || scope.names.lookup p.1 == some .cell)
 && decide ((cellsFrom 0 scope.names []).map (·.1)).Nodup && chkSs F.body (ckOf nums scope) body
structure FunOk (F:Fun) (nums:List (Str×Nat)) (params:Arguments) (body:List Stmt) (scope:Scope):Prop where
 kind:scope.kind=.function
 co:scope.isCoroutine=false
 gen:scope.isGenerator=false
 p1:params.posonlyargs=[]
 p2:params.vararg=none
 p3:params.kwonlyargs=[]
 p4:params.kwarg=none
 args:params.args.map (·.arg)=(nums.take F.n).map (·.1)
 nd:(nums.map (·.1)).Nodup
 rg:nums.map (·.2)=List.range nums.length
 le:F.n≤nums.length
 ctx:∀ p ∈ nums,scope.names.lookup p.1=some .local∨scope.names.lookup p.1=some .cell
 cnd:((cellsFrom 0 scope.names []).map (·.1)).Nodup
 body:chkSs F.body (ckOf nums scope) body=true
theorem fun_ok {F:Fun} {nums:List (Str×Nat)} {params:Arguments} {body:List Stmt} {scope:Scope} (h:chkFun F nums params body scope=true):FunOk F nums params body scope:=by
 unfold chkFun at h
 simp only [Bool.and_eq_true,Bool.not_eq_true',beq_iff_eq,decide_eq_true_eq,List.all_eq_true,Bool.or_eq_true,List.isEmpty_iff,Option.isNone_iff_eq_none] at h
 obtain⟨⟨⟨⟨⟨⟨⟨⟨⟨⟨⟨⟨⟨h1,h2⟩,h3⟩,h4⟩,h5⟩,h6⟩,h7⟩,h8⟩,h9⟩,h10⟩,h11⟩,h12⟩,h13⟩,h14⟩:=h
 exact⟨by simpa using h1,h2,h3,h4,h5,h6,h7,h8,h9,h10,h11,h12,h13,h14⟩
end Mine

namespace Mine
open PySem PySem.W PySem.Calls PyProof.Rows PyProof.V PySem.Spec
noncomputable def numsOf (l:List (String×Nat)):List (Str×Nat):=l.map fun p=>(Str.ofString p.1,p.2)
structure Gf (base:Heap) (W:Wld):Prop where
 lim:base.NoLimit
 fns:∀ (f:Nat) (x:String) (F:Fun) (l:List (String×Nat)),texts[f]?=some (x,F,l)→∃ o params body scope pm c doc,base.get? (W.fa f)=some o∧o.data=.func (docDef (Str.ofString x) params body scope pm (.ref c) doc)∧
  base.CodeRec (.ref c) (Str.ofString x)∧chkFun F (numsOf l) params body scope=true
structure Stand (C:Cx) (W:Wld) (k:Nat):Prop where
 stack:C.A.frames=some C.outs
 depth:C.A.depth + k≤900
 units:C.A.units + 3 * k + 100 < cLine
 hand:C.A.handled=none
 gl:Gl C.base W
 gf:Gf C.base W
 cls:∃ cb,C.cls=.ref cb∧W.mg "BadMove" = some (.ref cb)∧BadAt C.base cb
 mgx:W.mg "Exception" = none
 mbx:W.mb "Exception" = some (.type "Exception")
noncomputable def AllS:Prop:=∀ {W:Wld} {Φ:Nat→List D→Ev (D×Kd)} (l:List St),IsSs W Φ l
theorem start_none (n:Nat) (ds:List D) (i:Nat) (d:D):start n ds i≠some ⟨d,true⟩:=by
 unfold start
 split
 ·cases ds[i]? <;> simp
 ·simp
theorem kxof {C:Cx} {m:Str→Option Value} {h h':Heap} (hn:h.Ns C.L m) (hk:∀ b o,h.get? b=some o→∃ sl,h'.get? b=some { o with slots:=sl }∧(b ∉ C.FS→sl=o.slots)):Kx C m h h':=by
 refine⟨?_,fun b o _ e=>hk b o e⟩
 obtain⟨o,es,ep,e,r⟩:=hn
 obtain⟨sl,e1,_⟩:=hk _ o e
 exact⟨_,es,ep,e1,r⟩
set_option backward.match.sparseCases true in
theorem frame_ok (all:AllS) {C:Cx} {W:Wld} {k:Nat} {F:Fun} {nums:List (Str×Nat)} {params:Arguments} {body:List Stmt} {scope:Scope} {name:Str} {fa c:Addr} {ds:List D} {vs:List Value} {env:Env} {m:Str→Option Value} {T:Addr→Prop} {s:Shared} {Q:Value→Shared→Prop} {E:Value→Shared→Prop} {h1:Heap} {tk:Nat}
  (O:FunOk F nums params body scope) (S:Stand C W (k + 1)) (ih:∀ {C:Cx},Stand C W k→CallOk C W (callX tab k)) (ok:Ok { C with env:=env } m T s.heap) (r:RdAll T s.heap vs ds) (hn:ds.length=F.n)
  (hz1:((((nums.take F.n).map (·.1)).zip vs).map (·.1))=(nums.take F.n).map (·.1)) (hargs:((nums.take F.n).map (·.1)).Nodup)
  (cellL:∀ {L:Nat} {y:Str},scope.names.lookup y=some .cell→∃ a,(cellsFrom L scope.names []).lookup y=some a)
  (Fr1:Fr s.heap s.heap.objs.size h1 (bindL (envOfC name scope s.heap.objs.size fa (.ref c)).kindOf (((nums.take F.n).map (·.1)).zip vs) fun _=>none))
  (Cl1:Cl s.heap.objs.size (cellsFrom (s.heap.objs.size + 1) scope.names []) h1 (bindC (envOfC name scope s.heap.objs.size fa (.ref c)).kindOf (((nums.take F.n).map (·.1)).zip vs) fun _=>none))
  (hP:Post { C with env:=env } m ((exs (callX tab k) F.body (start F.n ds)).bind fun x=>(match x.1 with
    | .ret d k=>Ev.ok (d,k)
    | .next=>Ev.ok (.none,.pl)
    | .cont=>Option.none)) T s Q E):
  wpAny C.M (C.A.deeper (envOfC name scope s.heap.objs.size fa (.ref c))) (execs body (envOfC name scope s.heap.objs.size fa (.ref c)))
   (fun f s'=>Q (match f with | .ret v=>v | _=>.none) s')
   (fun e s'=>wpAny C.M (C.A.deeper (envOfC name scope s.heap.objs.size fa (.ref c))) (leaving (envOfC name scope s.heap.objs.size fa (.ref c)) e)
     (fun _ s''=>E e s'') (fun e' s''=>E e' s'') s') { s with heap:=h1,toks:=tk }:=by
 have hln:s.heap.get? s.heap.objs.size=none:=none_size _
 have lt:∀ {a:Addr},(∃ o,s.heap.get? a=some o)→a < s.heap.objs.size:=fun ⟨o,e⟩=>Heap.lt_size e
 have hbL:C.base.get? s.heap.objs.size=none:=by
  cases q:C.base.get? s.heap.objs.size with
  | none=>rfl
  | some o=>have:=ok.stay _ _ q;rw [hln] at this;cases this
 have cgt:∀ p ∈ cellsFrom (s.heap.objs.size + 1) scope.names [],s.heap.objs.size < p.2:=fun p hp=>Cl1.above p.1 p.2 hp
 have hS:Stand { C with A:=C.A.deeper (envOfC name scope s.heap.objs.size fa (.ref c)),env:=envOfC name scope s.heap.objs.size fa (.ref c),outs:=envOfC name scope s.heap.objs.size fa (.ref c) :: C.outs } W k:=
  ⟨Around.frames_deeper S.stack,by have:=S.depth;show C.A.depth + 1 + k≤900;exact li1 (.n (C.A.depth) (.n k .o)) (nat_lit 0x1f6501080d19114018d9404203451401923) this,by have:=S.units;show C.A.units + 3 + 3 * k + 100 < cLine;exact li1 (.n (C.A.units) (.n k (.n cLine .o))) (nat_lit 0x1f6a54501064539100d14038da9514041914d14019100e3) this,S.hand,S.gl,S.gf,S.cls,S.mgx,S.mbx⟩
 have hok:Ok { C with A:=C.A.deeper (envOfC name scope s.heap.objs.size fa (.ref c)),env:=envOfC name scope s.heap.objs.size fa (.ref c),outs:=envOfC name scope s.heap.objs.size fa (.ref c) :: C.outs }
   (bindL (envOfC name scope s.heap.objs.size fa (.ref c)).kindOf (((nums.take F.n).map (·.1)).zip vs) fun _=>none) T h1:=by
  refine⟨Fr1.ns,fun a ha=>⟨Nat.ne_of_lt (lt (ok.ex a ha)),fun q=>?_,fun p hp q=>?_⟩,fun a ha=>?_,fun p hp=>?_,fun a ha=>?_,ok.bs,fun a o e=>Fr1.keep a o (ok.stay a o e),?_⟩
  ·rcases List.mem_cons.mp (show a ∈ s.heap.objs.size :: C.FS from q) with q | q
   ·exact Nat.ne_of_lt (lt (ok.ex a ha)) q
   ·exact(ok.sub a ha).2.1 q
  ·exact Nat.lt_asymm (lt (ok.ex a ha)) (q ▸ cgt p hp)
  ·rcases List.mem_cons.mp (show a ∈ s.heap.objs.size :: C.FS from ha) with q | q
   ·rw [q];exact ns_live Fr1.ns
   ·obtain⟨o,ho⟩:=ok.live a q;exact⟨o,Fr1.keep a o ho⟩
  ·obtain⟨o,ho,_⟩:=Cl1.cell p.1 p.2 (lookup_of_mem_nodup (cellsFrom_names scope.names 0 (s.heap.objs.size + 1) [] [] rfl ▸ O.cnd) hp)
   exact⟨o,ho⟩
  ·obtain⟨o,ho⟩:=ok.ex a ha;exact⟨o,Fr1.keep a o ho⟩
  ·exact .cons (by show scope.kind≠.module;rw [O.kind];decide) rfl Fr1.ns hbL (frames_of ok.fr fun b _ o e hd=>⟨o,Fr1.keep b o e,hd⟩)
 have hEnv:EnvOk { C with A:=C.A.deeper (envOfC name scope s.heap.objs.size fa (.ref c)),env:=envOfC name scope s.heap.objs.size fa (.ref c),outs:=envOfC name scope s.heap.objs.size fa (.ref c) :: C.outs } (ckOf nums scope):=by
  refine⟨O.kind,rfl,rfl,fun y i hy=>?_,fun y hy=>?_,fun y hy=>?_,fun y z a hy hz=>?_,fun p hp=>Nat.ne_of_gt (cgt p hp),fun y hy=>?_⟩
  ·rcases O.ctx _ (PySem.mem_of_lookup hy) with h | h
   ·exact .inl h
   ·exact .inr ⟨h,cellL h⟩
  ·have:scope.names.lookup y=some .globalImplicit:=by simpa [ckOf] using hy
   exact this
  ·have:scope.names.lookup y=some .cell:=by simpa [ckOf] using hy
   exact⟨this,cellL this⟩
  ·exact name_of_addr Cl1.apart (PySem.mem_of_lookup hy) (PySem.mem_of_lookup hz)
  ·have:scope.names.lookup y=some .local:=by simpa [ckOf] using hy
   exact this
 have hvar:∀ y i cl,nums.lookup y=some i→start F.n ds i=some cl→∃ v,vof { C with A:=C.A.deeper (envOfC name scope s.heap.objs.size fa (.ref c)),env:=envOfC name scope s.heap.objs.size fa (.ref c),outs:=envOfC name scope s.heap.objs.size fa (.ref c) :: C.outs }
   (bindL (envOfC name scope s.heap.objs.size fa (.ref c)).kindOf (((nums.take F.n).map (·.1)).zip vs) fun _=>none) (bindC (envOfC name scope s.heap.objs.size fa (.ref c)).kindOf (((nums.take F.n).map (·.1)).zip vs) fun _=>none) y=some v∧
   VarOk { C with A:=C.A.deeper (envOfC name scope s.heap.objs.size fa (.ref c)),env:=envOfC name scope s.heap.objs.size fa (.ref c),outs:=envOfC name scope s.heap.objs.size fa (.ref c) :: C.outs } T h1 v cl:=by
  intro y i cl hy hi
  unfold start at hi
  split at hi
  ·rename_i hlt
   obtain⟨d,hd,rfl⟩:=Option.map_eq_some_iff.mp hi
   obtain⟨v,hv,rd⟩:=r.get hd
   have hni:nums[i]?=some (y,i):=by
    obtain⟨j,hj,he⟩:=List.getElem_of_mem (PySem.mem_of_lookup hy)
    have h2:(nums.map (·.2))[j]?=some i:=by rw [List.getElem?_map,List.getElem?_eq_getElem hj,he];rfl
    rw [O.rg] at h2
    have h3:j=i:=by
     rw [List.getElem?_range hj] at h2
     exact Option.some.inj h2
    subst h3
    rw [List.getElem?_eq_getElem hj,he]
   have hnm:((nums.take F.n).map (·.1))[i]?=some y:=by
    rw [List.getElem?_map,List.getElem?_take_of_lt hlt,hni];rfl
   have hzip:(y,v) ∈ ((nums.take F.n).map (·.1)).zip vs:=by
    refine List.mem_of_getElem? (i:=i) ?_
    rw [List.getElem?_zip_eq_some]
    exact⟨hnm,hv⟩
   exact⟨v,bind_get (by rw [hz1];exact hargs) hzip,.pl (rd.mono (fun _ q=>q) fun a o _ e=>Fr1.keep a o e)⟩
  ·cases hi
 refine all F.body (C:={ C with A:=C.A.deeper (envOfC name scope s.heap.objs.size fa (.ref c)),env:=envOfC name scope s.heap.objs.size fa (.ref c),outs:=envOfC name scope s.heap.objs.size fa (.ref c) :: C.outs }) (K:=ckOf nums scope) (T:=T) (h₀:=s.heap) (T₀:=T) (Φ:=callX tab k) (W:=W) (s:={ s with heap:=h1,toks:=tk }) O.body
  ⟨⟨hEnv,S.gl,S.hand,by have:=S.units;show C.A.units + 3 + 100 < cLine;exact li1 (.n (C.A.units) (.n cLine (.n k .o))) (nat_lit 0x7da9114041914038da9114041914d14019500e3) this,ih hS⟩,hln,fun p hp=>Heap.get?_none_of_le (Nat.le_of_lt (cgt p hp)),fun p hp q=>?_,fun x y i hx hy=>?_,PassesOwn.leaving,⟨hS.stack,⟨_,rfl⟩,rfl,by have:=hS.depth;show C.A.depth + 1≤900;have h2:C.A.depth + 1 + k≤900:=this;exact li1 (.n (C.A.depth) (.n k .o)) (nat_lit 0x1f6501080d14018d9404203464450063) h2,S.cls,S.mgx,S.mbx,S.gf.lim⟩⟩
  ⟨⟨hok,Cl1.cell,hvar⟩,⟨fun _ q=>q,fun _ q=>.inl q,hok.ex⟩,fun b o e=>⟨o.slots,Fr1.keep b o e,fun _=>rfl⟩,fun x i d a _ hd=>absurd hd (start_none _ _ _ _),fun x y i j d e a _ _ hd=>absurd hd (start_none _ _ _ _)⟩ ?_
 ·rcases List.mem_cons.mp (show p.2 ∈ s.heap.objs.size :: C.FS from q) with q | q
  ·exact absurd (cgt p hp) (q ▸ Nat.lt_irrefl _)
  ·obtain⟨o,ho⟩:=ok.live _ q
   exact absurd (cgt p hp) (Nat.lt_asymm (Heap.lt_size ho))
 ·have f:∀ {y:Str},nums.lookup y=some i→nums[i]?=some (y,i):=fun {y} hy=>by
   obtain⟨j,hj,he⟩:=List.getElem_of_mem (PySem.mem_of_lookup hy)
   have h2:(nums.map (·.2))[j]?=some i:=by rw [List.getElem?_map,List.getElem?_eq_getElem hj,he];rfl
   rw [O.rg] at h2
   have h3:j=i:=by
    rw [List.getElem?_range hj] at h2
    exact Option.some.inj h2
   subst h3
   rw [List.getElem?_eq_getElem hj,he]
  have h1:=f hx
  rw [f hy] at h1
  cases h1;rfl
 ·-- the end
  have fin:∀ {v:Value} {d:D} {kd:Kd} {h':Heap} {tk':Nat} {T':Addr→Prop} {m' cm':Str→Option Value} {σ':Sg},kd.sto=true→
    Inv { C with A:=C.A.deeper (envOfC name scope s.heap.objs.size fa (.ref c)),env:=envOfC name scope s.heap.objs.size fa (.ref c),outs:=envOfC name scope s.heap.objs.size fa (.ref c) :: C.outs } (ckOf nums scope) s.heap T m' cm' T' h' σ'→
    Res { C with A:=C.A.deeper (envOfC name scope s.heap.objs.size fa (.ref c)),env:=envOfC name scope s.heap.objs.size fa (.ref c),outs:=envOfC name scope s.heap.objs.size fa (.ref c) :: C.outs } T' s.heap h' v (d,kd)→
    Post { C with env:=env } m (Ev.ok (d,kd)) T s Q E→Q v { s with heap:=h',toks:=tk' }:=by
   intro v d kd h' tk' T' m' cm' σ' hk I' res hP
   refine hP v h' tk' T' (kxof ok.ns fun b o e=>?_) I'.ext ?_
   ·obtain⟨sl,e1,p1⟩:=I'.keep b o e
    refine⟨sl,e1,fun hf=>p1 fun q=>?_⟩
    rcases List.mem_cons.mp (show b ∈ s.heap.objs.size :: C.FS from q) with q | q
    ·rw [q,hln] at e;cases e
    ·exact hf q
   ·cases res with
    | pl q=>exact .pl q
    | fr ta hN hf ho q=>exact .fr ta (ok.new hf) hf ho q
    | bo=>cases hk
    | tr=>cases hk
  match hr:exs (callX tab k) F.body (start F.n ds),hP with
  | some (.ok (fl,σ')),hP=>
   intro f h' tk' T' m' cm' I' hf
   cases hf with
   | next=>exact fin (kd:=.pl) rfl I' (.pl .none) hP
   | cont=>exact hP.elim
   | ret hk res=>exact fin hk I' res hP
  | some .bad,hP=>
   rintro e s' ⟨ea,h',tk',B,rfl,rfl,hu,hB,hs⟩
   have out:∀ b,b≠s.heap.objs.size→b ∉ C.FS→b ∉ (envOfC name scope s.heap.objs.size fa (.ref c) :: C.outs).filterMap (·.frame):=fun b h1 h2 q=>by
    rcases List.mem_cons.mp (show b ∈ s.heap.objs.size :: C.FS from q) with q | q
    ·exact h1 q
    ·exact h2 q
   have old:∀ {b o},s.heap.get? b=some o→b≠s.heap.objs.size:=fun {b o} e=>Nat.ne_of_lt (Heap.lt_size e)
   have keepAll:∀ h'',B.StaysIn h''→h'.UpToSlots h''→∀ b o,s.heap.get? b=some o→∃ sl,h''.get? b=some { o with slots:=sl }:=fun h'' hst hup b o e=>by
    by_cases hb:b ∈ C.FS
    ·obtain⟨sl,e1⟩:=hs b o e (List.mem_cons.mpr (.inr hb))
     obtain⟨o',e2,hd⟩:=(ok.fr.mem hb).2
     rw [e] at e2
     cases e2
     obtain⟨sl2,e3⟩:=hup b _ e1 hd
     exact⟨sl2,e3⟩
    ·exact⟨o.slots,hst b o (hB b o (out b (old e) hb) e)⟩
   have fin2:∀ h'' a0,Heap.FlyingW B C.outs ea C.cls a0 h''→h'.UpToSlots h''→E (.ref ea) { s with heap:=h'',toks:=tk' }:=fun h'' a0 hf hup=>
    hP (.ref ea) _ ⟨ea,h'',tk',B,a0,rfl,rfl,fun b o e=>(by
     have tb:=ok.bs b o e
     have e2:=ok.stay b o e
     exact hB b o (out b (old e2) (ok.sub b tb).2.1) e2),hf,fun b o _ hb e=>hB b o (out b (old e) hb) e,fun b o _ e _=>keepAll h'' hf.1 hup b o e,by
      obtain⟨o,es,ep,e,r⟩:=ok.ns
      obtain⟨sl,e1⟩:=keepAll h'' hf.1 hup _ o e
      exact⟨_,es,ep,e1,r⟩⟩
   cases hu with
   | fly x=>exact wpAny_leaves_onW (Around.frames_deeper S.stack) rfl x fun h'' x1 x2=>fin2 h'' _ x1 x2
   | new st nw fr ho hc hd h1 h0=>
    refine wpAny_leaving_firstW (Around.frames_deeper S.stack) fr rfl ho st nw hd h1 h0 fun h'' hl=>?_
    obtain⟨k1,⟨_,_,k2⟩,k3,k4⟩:=hl
    exact fin2 h'' _ ⟨k1,nw,k2,hc ▸ k3⟩ k4
theorem callOk (all:AllS) {W:Wld}:∀ (k:Nat) {C:Cx},Stand C W k→CallOk C W (callX tab k)
 | 0,C,_=>fun env m T s f ds vs Q E _ _ hP=>hP.elim
 | k + 1,C,S=>by
  intro env m T s f ds vs Q E ok r hP
  have hP:Post { C with env:=env } m (match tab f with
   | some F=>runF (callX tab k) F ds
   | Option.none=>Option.none) T s Q E:=hP
  cases hF:tab f with
  | none=>rw [hF] at hP;exact hP.elim
  | some F=>
   rw [hF] at hP
   have hP:Post { C with env:=env } m (if ds.length=F.n then (exs (callX tab k) F.body (start F.n ds)).bind fun x=>(match x.1 with
    | .ret d k=>Ev.ok (d,k)
    | .next=>Ev.ok (.none,.pl)
    | .cont=>Option.none) else Option.none) T s Q E:=hP
   by_cases hn:ds.length=F.n
   ·rw [if_pos hn] at hP
    obtain⟨x,l,ht⟩:∃ x l,texts[f]?=some (x,F,l):=by
     have e:tab f=(texts.map fun p=>p.2.1)[f]?:=rfl
     rw [e,List.getElem?_map] at hF
     obtain⟨⟨x,F',l⟩,h1,h2⟩:=Option.map_eq_some_iff.mp hF
     cases h2
     exact⟨x,l,h1⟩
    obtain⟨o,params,body,scope,pm,c,doc,hfo,hfd,hcd,hck⟩:=S.gf.fns f x F l ht
    have O:=fun_ok hck
    have hlen:=r.length
    have st:=ok.stay
    have hargs:(((numsOf l).take F.n).map (·.1)).Nodup:=by
     rw [List.map_take];exact O.nd.sublist (List.take_sublist ..)
    have hnl:vs.length=(((numsOf l).take F.n).map (·.1)).length:=by
     rw [hlen,hn,List.length_map,List.length_take]
     have:=O.le
     exact li2 (.n (F.n) (.n (min F.n (numsOf l).length) (.n ((numsOf l).length) .o))) (nat_lit 0x1f7db92375c6e591a8e571b8e46658d9963) this (lnn (F.n) ((numsOf l).length))
    have hbind:=bind_plain (fd:=docDef (Str.ofString x) params body scope pm (.ref c) doc) (vs:=vs) O.p1 O.args O.p2 O.p3 O.p4 rfl hargs hnl
    have hz1:((((numsOf l).take F.n).map (·.1)).zip vs).map (·.1)=((numsOf l).take F.n).map (·.1):=List.map_fst_zip (by rw [hnl];exact Nat.le_refl _)
    have cellL:∀ {L:Nat} {y:Str},scope.names.lookup y=some .cell→∃ a,(cellsFrom L scope.names []).lookup y=some a:=fun {L y} hy=>by
     obtain⟨a,ha⟩:=cells_has (L:=L) (acc:=[]) (PySem.mem_of_lookup hy)
     exact lookup_some_of ha
    refine wpAny_call (call_cells (by have:=S.depth;show C.A.depth < 1000;exact li1 (.n (C.A.depth) (.n k .o)) (nat_lit 0x7da4083838d9404203451401923) this) (st _ _ hfo) hfd (S.gf.lim.keeps st) (hcd.keeps st) hbind (fun y hy=>?_) (fun h1 tk Fr1 Cl1=>?_) O.co O.gen O.kind)
    ·have:y.1 ∈ ((numsOf l).take F.n).map (·.1):=hz1 ▸ List.mem_map.mpr ⟨y,hy,rfl⟩
     obtain⟨p,hp,hpe⟩:=List.mem_map.mp this
     rcases O.ctx p (List.mem_of_mem_take hp) with h | h
     ·exact .inl (hpe ▸ h)
     ·refine .inr ⟨hpe ▸ h,?_⟩
      obtain⟨a,ha⟩:=cellL (L:=s.heap.objs.size + 1) (y:=y.1) (hpe ▸ h)
      rw [ha];rfl
    ·have hln:s.heap.get? s.heap.objs.size=none:=none_size _
     have lt:∀ {a:Addr} {o:Obj},s.heap.get? a=some o→a < s.heap.objs.size:=fun e=>Heap.lt_size e
     exact frame_ok all O S (callOk all k) ok r hn hz1 hargs cellL Fr1 Cl1 hP
   ·rw [if_neg hn] at hP;exact hP.elim
end Mine

namespace Mine
open PySem
open Sem (wp)
section
variable {M:Model} {A:Around} {E:Value→Shared→Prop} {env:Env}
variable {nm q:Str} {C N:Addr} {bs bm:List Value} {hdct:Bool} {sn:List Str} {sub:List Value} {ab:Bool} {col:Option Bool} {dd:Option Addr} {k0 k1 k2 k3 k5:Option Value} {newId:String}
theorem raise_made {s:Shared} {x:Sem Value} {Q:Flow→Shared→Prop} (hcB:(Value.ref C :: bm).contains (.type "BaseException")=true) (hh:A.handled=none)
  (h:wpAny M A x (fun v s₁=>∃ e dx t,v=.ref e∧s₁.heap.get? C=some (excClassObj nm q C N bs bm hdct sn sub ab col dd k0 k1 k2 k3 k5 newId)∧
   s₁.heap.get? e=some { cls:=.ref C,dict:=dx,data:=.fields #[.ref t,.none,.none,.none,.bool false,.none] }∧E (.ref e) s₁) E s):
  wpAny M A (raiseStmt env (some x) none) Q E s:=by
 unfold raiseStmt
 refine wpAny_bind (wpAny_mono h (fun v s₁ h₁=>?_) fun _ _ x=>x)
 obtain⟨e,dx,t,rfl,hC,he,hE⟩:=h₁
 obtain⟨hp,g,d,tk,os⟩:=s₁
 repeat (first | with_reducible refine wpAny_loadPart_at he ?_ | with_reducible refine wpAny_loadPart_at hC ?_ | (with_reducible refine wpAny_isSubtype_exc hC ?_;rw [hcB]) | wp_step)
 exact wpAny_raiseNew_none hh hE
theorem callWith_exc {s:Shared} {pos:Pos} {args:List (Bool×Sem Value)} {Q:Value→Shared→Prop} (hplain:args.any (·.1)=false)
  (h:wpAny M A (evalArgs (.ref C) true args []) (fun a s₁=>s₁.heap.get? C=some (excClassObj nm q C N bs bm hdct sn sub ab col dd k0 k1 k2 k3 k5 newId)∧wpAny M A (call (.ref C) a.pos a.kw) Q E s₁) E s):
  wpAny M A (callWith pos (.ref C) [] args []) Q E s:=by
 unfold callWith
 refine wpAny_bind (wpAny_holding (wpAny_mono h (fun a s₂ h₂=>wpAny_bind (wpAny_standAt ?_)) fun _ _ x=>x))
 obtain⟨hC,h₂⟩:=h₂
 obtain⟨hp,g,d,tk,os⟩:=s₂
 simp only [hplain]
 refine wpAny_bind (wpAny_keeperOf_exc hC ?_)
 exact wpAny_bind (wpAny_mono h₂ (fun v s₃ h₃=>wpAny_bind (wpAny_holding (wpAny_point (wpAny_pure h₃)))) fun _ _ x=>x)
theorem exec_raise {s:Shared} {x:PySem.Expr} {pos:Pos} {Q:Flow→Shared→Prop} (hcB:(Value.ref C :: bm).contains (.type "BaseException")=true) (hh:A.handled=none)
  (h:wpAny M A (eval x env) (fun v s₁=>∃ e dx t,v=.ref e∧s₁.heap.get? C=some (excClassObj nm q C N bs bm hdct sn sub ab col dd k0 k1 k2 k3 k5 newId)∧
   s₁.heap.get? e=some { cls:=.ref C,dict:=dx,data:=.fields #[.ref t,.none,.none,.none,.bool false,.none] }∧E (.ref e) s₁) E s):wpAny M A (exec (.Raise (some x) none pos) env) Q E s:=by
 rw [arm_exec_Raise]
 simp only [evalOpt,Option.map]
 exact wpAny_bind (wpAny_standAt (raise_made (C:=C) (nm:=nm) (q:=q) (N:=N) (bs:=bs) (bm:=bm) (hdct:=hdct) (sn:=sn) (sub:=sub) (ab:=ab) (col:=col) (dd:=dd) (k0:=k0) (k1:=k1) (k2:=k2) (k3:=k3) (k5:=k5) (newId:=newId) hcB hh
  (wpAny_bind (wpAny_mono h (fun v s₃ h₃=>wpAny_bind (wpAny_standAt (wpAny_pure h₃))) fun _ _ x=>x))))
end
end Mine

namespace Mine
open PySem PySem.W PySem.Calls PyProof.Rows PyProof.V PySem.Spec
section
variable {C:Cx} {K:Ck} {W:Wld} {Φ:Nat→List D→Ev (D×Kd)} {m m' cm cm':Str→Option Value} {T T' T₀:Addr→Prop} {s:Shared} {σ σ':Sg} {h h' h₀ h2:Heap}
 {Q:Flow→Shared→Prop} {E:Value→Shared→Prop} {e:Stmt}
theorem frames_to {base B:Heap}:∀ {l:List Env},h.FunFrames base l→(∀ b ∈ l.filterMap (·.frame),B.get? b=none)→(∀ b o,h.get? b=some o→h'.get? b=some o)→h'.FunFrames B l
 | [],_,_,_=>trivial
 | env :: r,⟨h1,⟨L,o,h2,h3,h4,h5⟩,h6⟩,hB,hk=>
  ⟨h1,⟨L,o,h2,hB L (List.mem_filterMap.mpr ⟨env,.head _,h2⟩),hk L o h4,h5⟩,frames_to h6 (fun b hb=>hB b (by
   obtain⟨env',he,hf⟩:=List.mem_filterMap.mp hb
   exact List.mem_filterMap.mpr ⟨env',.tail _ he,hf⟩)) hk⟩
theorem type_room {A:Around} (h:A.depth≤900) (c:Addr) (r:List Value):(A.under (.builtin "type.__call__" ⟨.ref c :: r,[]⟩)).depth < recursionLimit:=by
 have hw:Code.weight (.builtin "type.__call__" ⟨.ref c :: r,[]⟩)=1:=by kernel_rfl
 show A.depth + Code.weight (.builtin "type.__call__" ⟨.ref c :: r,[]⟩) < recursionLimit
 rw [hw]
 exact Nat.lt_of_le_of_lt (Nat.add_le_add_right h 1) (by decide)
theorem is_rais {e:X}:IsS W Φ (.rais e):=by
 intro C K st σ m cm T h₀ T₀ s Q E hc F I hP
 refine cRais (P:=fun t=>wpAny C.M C.A (exec t C.env) Q E s) hc fun q1 v r1 p hg hnd h1=>?_
 have hP:SPost C K h₀ T₀ ((ev Φ e σ).bind fun r=>match r.1 with
  | .str _=>Ev.bad
  | _=>Option.none) s Q E:=hP
 obtain⟨cb,hcls,hbm,hbad⟩:=F.exc.cls
 have hbad':=hbad
 obtain⟨nm,q,N,bs,hdct,sn,sub,ab,col,dd,k0,k1,k2,k3,k5,C1,mN,mN1,c0,d1,cd,sl,fI,oI,fd,e0,a1,a2,a3,a4,a5,a6,a7,a8,a9,b1,b2,b3,b4,b5,b6⟩:=hbad
 subst e0
 have hcB:(Value.ref cb :: .ref C1 :: bmX).contains (.type "BaseException")=true:=by
  rw [List.contains_cons,List.contains_cons,PySem.F.excBase_Exception.hasBase];simp
 have es:=star_of (C:=C) h1 []
 refine exec_raise (C:=cb) (nm:=nm) (q:=q) (N:=N) (bs:=bs) (bm:=.ref C1 :: bmX) (hdct:=true) (sn:=sn) (sub:=sub) (ab:=ab) (col:=col) (dd:=dd) (k0:=k0) (k1:=k1) (k2:=k2) (k3:=k3) (k5:=k5) (newId:="Exception.__new__") hcB F.sit.hand ?_
 refine Call_ (glob_ld F.sit I.rel.ok hg hnd hbm ?_)
 refine callWith_exc (C:=cb) (nm:=nm) (q:=q) (N:=N) (bs:=bs) (bm:=.ref C1 :: bmX) (hdct:=true) (sn:=sn) (sub:=sub) (ab:=ab) (col:=col) (dd:=dd) (k0:=k0) (k1:=k1) (k2:=k2) (k3:=k3) (k5:=k5) (newId:="Exception.__new__") (by rw [es];rfl) ?_
 rw [es]
 refine evalArgs_plain (spliced_cons (sp_ev h1 F I hP fun rv vv h' tk T' res I' k t hP'=>spliced_nil ?_))
 obtain⟨d,kd⟩:=rv
 cases d with
 | str ss=>
  obtain⟨y,ty,rfl,ey,ky⟩:=(res.any I'.rel.ok).str_inv
  have st:=I'.rel.ok.stay
  have stK:∀ b o,C.base.get? b=some o→h'.get? b=some o:=st
  refine⟨st _ _ a1,?_⟩
  refine exc_call (rest:=[.str y ty]) (st _ _ a1) (a2.keeps stK) a3 (st _ _ a6) (a7.keeps stK) a8 (st _ _ b2) b3 (fun h2 ee hm=>?_) (by rw [sizeLine_eq];exact(show 1≤16777216 by decide))
  obtain⟨t0,he,_,_⟩:=hm.there
  have st2:∀ b o,C.base.get? b=some o→h2.get? b=some o:=fun b o e=>hm.keeps b o (st b o e)
  have nb:∀ {b:Addr},(∃ o,C.base.get? b=some o)→b≠ee:=fun {b} ⟨o,x⟩ e=>by
   have:=st _ _ x
   rw [e,hm.new] at this;cases this
  have nsx:∀ {b:Addr} {m:Str→Option Value},C.base.Ns b m→∃ o,C.base.get? b=some o:=fun ⟨o,_,_,x,_⟩=>⟨o,x⟩
  refine init_call (s:=⟨h2,s.gens,s.drawn,tk,s.os⟩) (st2 _ _ a1) (a2.keeps st2) a4 a5 (st2 _ _ a6) (a7.keeps st2) a9 b1 (st2 _ _ b2) b4 (b5.keeps st2) b6 (type_room F.exc.dep _ _) (F.exc.lim.keeps st2)
   (F.sit.gl.g.keeps st2) F.exc.mgx (F.sit.gl.b.keeps st2) F.exc.mbx he (nb ⟨_,a1⟩) (nb (nsx a2)) (nb ⟨_,a6⟩) (nb (nsx a7)) fun h3 tk3 dx t1 he3 hk3=>⟨rfl,?_⟩
  have kall:∀ b o,h'.get? b=some o→h3.get? b=some o:=fun b o x=>hk3 b o (by rintro rfl;rw [hm.new] at x;cases x) (hm.keeps b o x)
  refine⟨ee,some dx,t1,rfl,kall _ _ (st _ _ a1),he3,?_⟩
  have hin:∀ b ∈ C.FS,(hideAll h' C.FS).get? b=none:=fun b hb=>hideAll_none _ hb
  refine hP' _ _ ⟨ee,h3,tk3,hideAll h' C.FS,rfl,rfl,.new (fun b o x=>kall b o (of_hideAll _ x)) ?_ (frames_to I'.rel.ok.fr hin kall) he3 (by rw [hcls]) rfl rfl rfl,fun b o hb x=>?_,fun b o x hb=>?_⟩
  ·cases x:(hideAll h' C.FS).get? ee with
   | none=>rfl
   | some o=>have:=of_hideAll _ x;rw [hm.new] at this;cases this
  ·obtain⟨sl,e1,p1⟩:=I'.keep b o x
   rw [p1 hb] at e1
   exact hideAll_get _ e1 hb
  ·obtain⟨sl,e1,_⟩:=I'.keep b o x
   exact⟨sl,kall _ _ e1⟩
 | _=>exact hP'.elim
theorem is_tryr {e:X}:IsS W Φ (.tryr e):=by
 intro C K st σ m cm T h₀ T₀ s Q E hc F I hP
 refine cTryr (P:=fun t=>wpAny C.M C.A (exec t C.env) Q E s) hc fun v p1 p2 c k p3 p4 p5 p6 hg hnd h1 hcn=>?_
 obtain⟨T1,u1,I1⟩:=I.freezeAll
 have hP:SPost C K h₀ T₀ (match ev Φ e (frzAll σ) with
  | Option.none=>Option.none
  | some .bad=>Ev.ok (.ret .none .pl,frzAll σ)
  | some (.ok (d,k))=>if k.sto then Ev.ok (.ret d k,frzAll σ) else Option.none) s Q E:=hP
 refine wpAny_Try_except (wpAny_execs_cons (wpAny_Return_some ((ev_ok e h1 F.sit I1.rel).val _ _ ?_)))
 match hr:ev Φ e (frzAll σ),hP with
 | some (.ok (d,kd)),hP=>
  intro w h' tk T' k t res
  have hP:SPost C K h₀ T₀ (if kd.sto then Ev.ok (.ret d kd,frzAll σ) else Option.none) s Q E:=hP
  by_cases hs:kd.sto=true
  ·rw [if_pos hs] at hP
   exact hP _ h' tk T' m cm (I1.step F k t) (.ret hs (res.older fun a e=>I1.gone e))
  ·rw [if_neg hs] at hP;exact hP.elim
 | some .bad,hP=>
  rintro ev s' ⟨ea,h',tk,B,a0,rfl,rfl,hB,hf,hk,hs,hns⟩
  obtain⟨cb,hcls,hbm,hbad⟩:=F.exc.cls
  obtain⟨nm,q,N,bs,hdct,sn,sub,ab,col,dd,k0,k1,k2,k3,k5,C1,mN,mN1,c0,d1,cd,sl,fI,oI,fd,e0,a1,_⟩:=hbad
  obtain⟨rest,hout⟩:=F.exc.outs
  have hfr:=F.exc.stack
  rw [hout] at hfr hf
  have hbase:(Value.ref C1 :: bmX).contains (.type "BaseException")=true:=by
   rw [List.contains_cons,PySem.F.excBase_Exception.hasBase];simp
  have kx:∀ h'',B.StaysIn h''→h'.UpToSlots h''→Kx C m s.heap h'':=fun h'' hst hup=>by
   refine⟨hup.ns hns,fun b o hb e=>?_⟩
   by_cases hbf:b ∈ C.FS
   ·obtain⟨sl,e1⟩:=hs b o hb e hbf
    obtain⟨o',e2,hd⟩:=(I.rel.ok.fr.mem hbf).2
    rw [e] at e2
    cases e2
    obtain⟨sl2,e3⟩:=hup b _ e1 hd
    exact⟨sl2,e3,fun q=>absurd hbf q⟩
   ·exact⟨o.slots,hst b o (hk b o hb hbf e),fun _=>rfl⟩
  refine wpAny_looks_onW hfr F.exc.fr hf fun h4 hheld4 hsm4=>?_
  refine wpAny_landsW hheld4 fun h5 hheld5 hsm5=>?_
  have kx5:=kx h5 hheld5.1 (hsm4.trans hsm5)
  have I5:=I1.step F kx5 (I1.rel.ok.keep kx5)
  obtain⟨ob,hob,hobc⟩:=hheld5.there
  refine wpAny_handleBy_cons (codeAny_handlers_test (Name_function_global F.sit.env.kind (F.sit.env.glb _ hg) (loadGlobal_global (mg:=W.mg) (by rw [F.sit.env.glo];exact F.sit.gl.g.keeps I5.rel.ok.stay) hbm ?_) (notDebug_eq hnd))) (by intro q;cases q)
  refine wpAny_excMatches_sub_self (I5.rel.ok.stay _ _ a1) hob (by rw [hobc,hcls]) hbase (codeAny_handlers_suite ?_)
  refine lands_againW hheld5 fun h6 hfl6 hsm6=>?_
  have kx6:=kx h6 hfl6.1 ((hsm4.trans hsm5).trans hsm6)
  have I6:=I1.step F kx6 (I1.rel.ok.keep kx6)
  refine wpAny_execs_cons (wpAny_Return_some ?_)
  cases c <;> simp only [constD] at hcn <;> try (cases hcn;done)
  ·exact wpAny_Constant_none (hP _ h6 tk T1 m cm I6 (.ret rfl (.pl .none)))
  ·split at hcn <;> cases hcn
end
end Mine

namespace Mine
open PySem PySem.W PySem.Calls PyProof.Rows PyProof.V PySem.Spec
mutual
theorem ex_ok {W:Wld} {Φ:Nat→List D→Ev (D×Kd)}:∀ st:St,IsS W Φ st
 | .asg _ _=>is_asg
 | .asgT _ _=>is_asgT
 | .setI _ _ _=>is_setI
 | .app _ _=>is_app
 | .ret _=>is_ret
 | .iff _ a b=>is_iff (exs_ok a) (exs_ok b)
 | .forE _ _ b=>is_forE (exs_ok b)
 | .forT _ _ b=>is_forT (exs_ok b)
 | .forR _ _ _ b=>is_forR (exs_ok b)
 | .whil _ b=>is_whil (exs_ok b)
 | .rais _=>is_rais
 | .tryr _=>is_tryr
 | .cont=>is_cont
 | .stk=>is_stk
theorem exs_ok {W:Wld} {Φ:Nat→List D→Ev (D×Kd)}:∀ l:List St,IsSs W Φ l
 | []=>iss_nil
 | st :: l=>iss_cons (ex_ok st) (exs_ok l)
end
theorem calls {W:Wld} {k:Nat} {C:Cx} (S:Stand C W k):CallOk C W (callX tab k):=callOk (fun l=>exs_ok l) k S
end Mine

namespace Mine
open PySem PySem.W PySem.Calls PyProof.Rows PyProof.V PySem.Spec
noncomputable def topCx (prog:Program) (w:World) (base:Heap) (cb:Addr) (env:Env):Cx:=⟨prog,w,callerA.deeper env,env,[env],base,.ref cb⟩
theorem law_run {prog:Program} {w:World} {s:Shared} {cb:Addr} {W:Wld} {k:Nat} {F:Fun} {nums:List (Str×Nat)} {body:List Stmt} {scope:Scope} {name:Str} {fa:Addr} {cd:Value} {d:D} {v:Value} {x:Str} {h1:Heap} {tk:Nat} {m:Str→Option Value}
  {Q:Flow→Shared→Prop} {E:Value→Shared→Prop}
  (Ok1:scope.kind=.function) (Ok2:nums.map (·.2)=List.range nums.length) (Ok3:chkSs F.body (ckOf nums scope) body=true) (hn:F.n=1) (hx:nums[0]?=some (x,0)) (hloc':nums.all (fun p=>scope.names.lookup p.1 == some .local)=true) (hcell':scope.names.all (fun p=>p.2 != .cell)=true)
  (S:Stand (topCx prog w s.heap cb (envOf name scope s.heap.objs.size fa cd)) W k) (Fr1:Fr s.heap s.heap.objs.size h1 m) (hm:m x=some v)
  (hv:Rd (fun a=>∃ o,s.heap.get? a=some o) s.heap v d) (law:runF (callX tab k) F [d]=Ev.ok (.bool true,.pl))
  (hq:∀ h' tk',(∀ b o,s.heap.get? b=some o→h'.get? b=some o)→Q (.ret (.bool true)) { s with heap:=h',toks:=tk' }):
  wpAny (model prog w) (callerA.deeper (envOf name scope s.heap.objs.size fa cd)) (execs body (envOf name scope s.heap.objs.size fa cd)) Q E { s with heap:=h1,toks:=tk }:=by
 have hloc:∀ p ∈ nums,scope.names.lookup p.1=some .local:=fun p hp=>by simpa using List.all_eq_true.mp hloc' p hp
 have hcell:∀ y,scope.names.lookup y≠some .cell:=fun y hy=>by
  have:=List.all_eq_true.mp hcell' _ (PySem.mem_of_lookup hy)
  simp at this
 have hln:s.heap.get? s.heap.objs.size=none:=none_size _
 have lt:∀ {a:Addr},(∃ o,s.heap.get? a=some o)→a < s.heap.objs.size:=fun ⟨o,e⟩=>Heap.lt_size e
 have hFS:(topCx prog w s.heap cb (envOf name scope s.heap.objs.size fa cd)).FS=[s.heap.objs.size]:=rfl
 have hN:∀ a,(∃ o,s.heap.get? a=some o)→(topCx prog w s.heap cb (envOf name scope s.heap.objs.size fa cd)).N a:=fun a ha=>
  ⟨Nat.ne_of_lt (lt ha),by rw [hFS];simpa using Nat.ne_of_lt (lt ha),fun p hp=>by cases hp⟩
 have hok:Ok (topCx prog w s.heap cb (envOf name scope s.heap.objs.size fa cd)) m (fun a=>∃ o,s.heap.get? a=some o) h1:=
  ⟨Fr1.ns,hN,fun a ha=>(by rw [hFS] at ha;rw [List.mem_singleton.mp ha];exact ns_live Fr1.ns),fun p hp=>(by cases hp),fun a ⟨o,ho⟩=>⟨o,Fr1.keep a o ho⟩,fun a o e=>⟨o,e⟩,fun a o e=>Fr1.keep a o e,
   .cons (by show scope.kind≠.module;rw [Ok1];decide) rfl Fr1.ns hln trivial⟩
 have hEnv:EnvOk (topCx prog w s.heap cb (envOf name scope s.heap.objs.size fa cd)) (ckOf nums scope):=by
  refine⟨Ok1,rfl,rfl,fun y i hy=>.inl (hloc _ (PySem.mem_of_lookup hy)),fun y hy=>?_,fun y hy=>?_,(fun y z a hy _=>by cases hy),(fun p hp=>by cases hp),fun y hy=>?_⟩
  ·have:scope.names.lookup y=some .globalImplicit:=by simpa [ckOf] using hy
   exact this
  ·have:scope.names.lookup y=some .cell:=by simpa [ckOf] using hy
   exact absurd this (hcell y)
  ·have:scope.names.lookup y=some .local:=by simpa [ckOf] using hy
   exact this
 have f:∀ {y:Str} {i:Nat},nums.lookup y=some i→nums[i]?=some (y,i):=fun {y i} hy=>by
  obtain⟨j,hj,he⟩:=List.getElem_of_mem (PySem.mem_of_lookup hy)
  have h2:(nums.map (·.2))[j]?=some i:=by rw [List.getElem?_map,List.getElem?_eq_getElem hj,he];rfl
  rw [Ok2] at h2
  have h3:j=i:=by
   rw [List.getElem?_range hj] at h2
   exact Option.some.inj h2
  subst h3
  rw [List.getElem?_eq_getElem hj,he]
 have hvar:∀ y i cl,nums.lookup y=some i→start F.n [d] i=some cl→∃ w',vof (topCx prog w s.heap cb (envOf name scope s.heap.objs.size fa cd)) m (fun _=>none) y=some w'∧VarOk (topCx prog w s.heap cb (envOf name scope s.heap.objs.size fa cd)) (fun a=>∃ o,s.heap.get? a=some o) h1 w' cl:=by
  intro y i cl hy hi
  unfold start at hi
  rw [hn] at hi
  split at hi
  ·rename_i hlt
   have hi0:i=0:=by exact li1 (.n i .o) (nat_lit 8845571639541859) hlt
   subst hi0
   cases hi
   have:=f hy
   rw [hx] at this
   cases this
   refine⟨v,?_,.pl (hv.mono (fun _ q=>q) fun a o _ e=>Fr1.keep a o e)⟩
   exact(if_pos (show(topCx prog w s.heap cb (envOf name scope s.heap.objs.size fa cd)).env.kindOf x=some .local from hloc _ (PySem.mem_of_lookup hy))).trans hm
  ·cases hi
 refine wpAny_noRaise (exs_ok F.body (C:=topCx prog w s.heap cb (envOf name scope s.heap.objs.size fa cd)) (K:=ckOf nums scope) (T:=fun a=>∃ o,s.heap.get? a=some o) (h₀:=s.heap) (T₀:=fun a=>∃ o,s.heap.get? a=some o) (Φ:=callX tab k) (W:=W) (s:={ s with heap:=h1,toks:=tk }) (σ:=start F.n [d]) (m:=m) (cm:=fun _=>none) (E:=fun _ _=>False) Ok3
  ⟨⟨hEnv,S.gl,S.hand,by have:=S.units;exact li1 (.n ((topCx prog w s.heap cb (envOf name scope s.heap.objs.size fa cd)).A.units) (.n cLine (.n k .o))) (nat_lit 0x7da9114041a36a44501064539500e3) this,calls S⟩,hln,(fun p hp=>by cases hp),(fun p hp=>by cases hp),fun y z i hy hz=>?_,PassesOwn.never,⟨S.stack,⟨[],rfl⟩,rfl,by have:=S.depth;exact li1 (.n ((topCx prog w s.heap cb (envOf name scope s.heap.objs.size fa cd)).A.depth) (.n k .o)) (nat_lit 0x1f6501080e36501080d1923) this,S.cls,S.mgx,S.mbx,S.gf.lim⟩⟩
  ⟨⟨hok,fun y c hc=>(by cases hc),hvar⟩,⟨fun _ q=>q,fun _ q=>.inl q,hok.ex⟩,fun b o e=>⟨o.slots,Fr1.keep b o e,fun _=>rfl⟩,fun y i d a _ hd=>absurd hd (start_none _ _ _ _),fun y z i j d e a _ _ hd=>absurd hd (start_none _ _ _ _)⟩ ?_)
 ·have h1:=f hy
  rw [f hz] at h1
  cases h1;rfl
 ·have law':(exs (callX tab k) F.body (start F.n [d])).bind (fun x=>match x.1 with
   | .ret d k=>Ev.ok (d,k)
   | .next=>Ev.ok (.none,.pl)
   | .cont=>Option.none)=Ev.ok (D.bool true,Kd.pl):=by
   unfold runF at law
   rw [if_pos (by rw [hn];rfl)] at law
   exact law
  match hr:exs (callX tab k) F.body (start F.n [d]),law' with
  | some (.ok (fl,σ')),law'=>
   intro fw h' tk' T' m' cm' I' hf
   have keep:∀ b o,s.heap.get? b=some o→h'.get? b=some o:=fun b o e=>by
    obtain⟨sl,e1,p1⟩:=I'.keep b o e
    rw [p1 (by rw [hFS];simpa using Nat.ne_of_lt (lt ⟨o,e⟩))] at e1
    exact e1
   cases hf with
   | next=>cases law'
   | cont=>cases law'
   | ret hk res=>
    cases law'
    cases res with
    | pl q=>
     have:=q.bool_inv
     subst this
     exact hq h' tk' keep
end Mine

namespace Mine
open PySem PySem.W PySem.Calls PyProof.Rows PyProof.V PySem.Spec
noncomputable def isNn:Value→Bool
 | .none=>true
 | _=>false
noncomputable def isBl (b:Bool):Value→Bool
 | .bool a=>a == b
 | _=>false
noncomputable def isIn (b:Int):Value→Bool
 | .int a _=>a == b
 | _=>false
noncomputable def isSt (s:List Nat):Value→Bool
 | .str x _=>x.cps.toList == s && PyData.strOk x
 | _=>false
noncomputable def refV:Value→Option Addr
 | .ref a=>some a
 | _=>none
noncomputable def seqT:Data→Option (Array Value×Nat)
 | .seq vs n=>some (vs,n)
 | _=>none
noncomputable def isO {α:Type}:Option α→Bool
 | none=>true
 | _=>false
theorem any_ok {α:Type} {x:Option α} {p:α→Bool} (h:x.any p=true):∃ a,x=some a∧p a=true:=by
 cases x with
 | none=>cases h
 | some a=>exact⟨a,rfl,h⟩
theorem bnd_ok {α β:Type} {x:Option α} {f:α→Option β} {b:β} (h:x.bind f=some b):∃ a,x=some a∧f a=some b:=by
 cases x with
 | none=>cases h
 | some a=>exact⟨a,rfl,h⟩
theorem and_ok {a b:Bool} (h:(a && b)=true):a=true∧b=true:=by
 cases a with
 | true=>exact⟨rfl,h⟩
 | false=>cases h
theorem refV_ok {v:Value} {a:Addr} (e:refV v=some a):v=.ref a:=by cases v <;> cases e;rfl
theorem seqT_ok {d:Data} {x:Array Value×Nat} (e:seqT d=some x):d=.seq x.1 x.2:=by cases d <;> cases e;rfl
theorem isO_ok {α:Type} {x:Option α} (e:isO x=true):x=none:=by cases x <;> cases e;rfl
theorem isNn_ok {R:Addr→Prop} {h:Heap} {v:Value} (e:isNn v=true):Rd R h v .none:=by cases v <;> cases e;exact .none
theorem isBl_ok {R:Addr→Prop} {h:Heap} {b:Bool} {v:Value} (e:isBl b v=true):Rd R h v (.bool b):=by
 cases v <;> first | (cases e;done) | exact beq_iff_eq.mp e ▸ .bool _
theorem isIn_ok {R:Addr→Prop} {h:Heap} {b:Int} {v:Value} (e:isIn b v=true):Rd R h v (.int b):=by
 cases v <;> first | (cases e;done) | exact beq_iff_eq.mp e ▸ .int _ _
theorem isSt_ok {R:Addr→Prop} {h:Heap} {s:List Nat} {v:Value} (e:isSt s v=true):Rd R h v (.str s):=by
 cases v <;> first | (cases e;done) | exact .str _ _ _ (beq_iff_eq.mp (and_ok e).1) (and_ok e).2
mutual
noncomputable def rdIn (K:Frag):Value→D→Bool
 | v,.none=>isNn v
 | v,.bool b=>isBl b v
 | v,.int b=>isIn b v
 | v,.str s=>isSt s v
 | v,.tup ds=>((refV v).bind fun a=>K.lookup a).any fun o=>(seqT o.data).any fun vs=>o.cls == .type "tuple" && rdsIn K vs.1.toList ds
 | v,.lst ds=>((refV v).bind fun a=>K.lookup a).any fun o=>(seqT o.data).any fun vs=>isO o.dict && (o.cls == .type "list" && rdsIn K vs.1.toList ds)
noncomputable def rdsIn (K:Frag):List Value→List D→Bool
 | vs,[]=>vs.isEmpty
 | vs,d :: ds=>vs.head?.any fun v=>rdIn K v d && rdsIn K vs.tail ds
end
mutual
theorem rdIn_ok {K:Frag} {h:Heap} (X:K.In h):∀ {v:Value} {d:D},rdIn K v d=true→Rd (fun a=>∃ o,h.get? a=some o) h v d
 | _,.none,e=>isNn_ok e
 | _,.bool _,e=>isBl_ok e
 | _,.int _,e=>isIn_ok e
 | _,.str _,e=>isSt_ok e
 | v,.tup ds,e=>by
  obtain⟨o,e1,e⟩:=any_ok e
  obtain⟨a,e0,e1⟩:=bnd_ok e1
  obtain⟨vs,e2,e⟩:=any_ok e
  obtain⟨e3,e⟩:=and_ok e
  have ho:=X _ _ e1
  exact refV_ok e0 ▸ .tup ⟨_,ho⟩ ho (beq_iff_eq.mp e3) (seqT_ok e2) (rdsIn_ok X e)
 | v,.lst ds,e=>by
  obtain⟨o,e1,e⟩:=any_ok e
  obtain⟨a,e0,e1⟩:=bnd_ok e1
  obtain⟨vs,e2,e⟩:=any_ok e
  obtain⟨e4,e⟩:=and_ok e
  obtain⟨e3,e⟩:=and_ok e
  have ho:=X _ _ e1
  exact refV_ok e0 ▸ .lst ⟨_,ho⟩ ho (beq_iff_eq.mp e3) (seqT_ok e2) (isO_ok e4) (rdsIn_ok X e)
theorem rdsIn_ok {K:Frag} {h:Heap} (X:K.In h):∀ {vs:List Value} {ds:List D},rdsIn K vs ds=true→RdAll (fun a=>∃ o,h.get? a=some o) h vs ds
 | vs,[],e=>by cases vs with
  | nil=>exact .nil
  | cons=>cases e
 | vs,d :: ds,e=>by
  cases vs with
  | nil=>cases e
  | cons v vs=>exact .cons (rdIn_ok X (and_ok e).1) (rdsIn_ok X (and_ok e).2)
end
noncomputable def okConsts (K:Frag):Bool:=consts.all fun p=>match nsIn K mainGlobals (Str.ofString p.1) with
 | some (some v)=>rdIn K v p.2
 | _=>false
noncomputable def okRecs (recs:List DefRec):Bool:=texts.all fun t=>recs.any fun d=>d.name == Str.ofString t.1 && chkFun t.2.1 (numsOf t.2.2) d.params d.body d.scope
noncomputable def isSomeNone:Option (Option Value)→Bool
 | some none=>true
 | _=>false
noncomputable def okBlt (K:Frag):Bool:=bltT.all (fun p=>isSomeNone (nsIn K mainGlobals p.1)) && isSomeNone (nsIn K mainGlobals "Exception")
theorem isSomeNone_eq {x:Option (Option Value)} (h:isSomeNone x=true):x=some none:=by
 unfold isSomeNone at h;split at h <;> first | rfl | cases h
noncomputable def wld (mg mb:Str→Option Value):Wld:=⟨mg,mb,fun f=>match (fname f).bind mg with
 | some (.ref a)=>a
 | _=>0⟩
theorem blt_boot:∀ p ∈ bltT,p.1≠"__name__" ∧ bootBuiltins p.1=some p.2:=by
 intro p hp
 simp only [bltT,List.mem_cons,List.not_mem_nil,or_false] at hp
 rcases hp with rfl | rfl | rfl | rfl | rfl | rfl
 ·exact⟨by decide,PyProof.Rows.Boot.«len»⟩
 ·exact⟨by decide,PyProof.Rows.Boot.«sum»⟩
 ·exact⟨by decide,PyProof.Rows.Boot.«min»⟩
 ·exact⟨by decide,PyProof.Rows.Boot.«max»⟩
 ·exact⟨by decide,PyProof.Rows.Boot.«str»⟩
 ·exact⟨by decide,PyProof.Rows.Boot.«range»⟩
set_option tactic.hygienic true in
theorem stand_of {prog p:Program} {w:World} {K:Frag} {h:Heap} {loose:List Str} {mean:ExcName→Option Value} {mg mb:Str→Option Value} {cb:Addr} {env:Env} (X:K.In h) (T:Top p loose mean mg mb h)
  (hr:okRecs (recsOf p)=true) (hc:okConsts K=true) (hb:okBlt K=true) (hbm:nsIn K mainGlobals "BadMove" = some (some (.ref cb))) (bad:BadAt h cb):
  Stand (topCx prog w h cb env) (wld mg mb) 11:=by
 have rcd:∀ (f:Nat) (x:String) (F:Fun) (l:List (String×Nat)),texts[f]?=some (x,F,l)→∃ o params body scope pm c doc,mg (Str.ofString x)=some (.ref ((wld mg mb).fa f))∧h.get? ((wld mg mb).fa f)=some o∧o.data=.func (docDef (Str.ofString x) params body scope pm (.ref c) doc)∧
   h.CodeRec (.ref c) (Str.ofString x)∧chkFun F (numsOf l) params body scope=true:=by
  intro f x F l ht
  have hm:=List.all_eq_true.mp hr _ (List.mem_of_getElem? ht)
  obtain⟨d,hd,hdd⟩:=List.any_eq_true.mp hm
  simp only [Bool.and_eq_true,beq_iff_eq] at hdd
  obtain⟨a,o,pm,code,doc,h1,h2,h3,h4⟩:=T.fn d hd
  obtain⟨c,rfl⟩:∃ c,code=.ref c:=by obtain⟨c,_,_,_,e,_⟩:=h4;exact⟨c,e⟩
  have hfa:(wld mg mb).fa f=a:=by
   show(match (fname f).bind mg with
    | some (.ref a)=>a
    | _=>0)=a
   have:fname f=some (Str.ofString x):=by unfold fname;rw [ht];rfl
   rw [this]
   show(match mg (Str.ofString x) with
    | some (.ref a)=>a
    | _=>0)=a
   rw [← hdd.1,h1]
  rw [hfa]
  rw [hdd.1] at h1 h3 h4
  exact⟨o,d.params,d.body,d.scope,pm,c,doc,h1,h2,h3,h4,hdd.2⟩
 simp only [okBlt,Bool.and_eq_true] at hb
 refine⟨rfl,by show callerA.depth + 1 + 11≤900;decide,by show callerA.units + 3 + 3 * 11 + 100 < cLine;decide,rfl,⟨T.g,T.b,fun x d hx=>?_,fun f x hf=>?_,fun q hq=>?_⟩,⟨T.nolimit,fun f x F l ht=>?_⟩,⟨cb,rfl,mg_of X T.g hbm,bad⟩,mg_none_of X T.g (isSomeNone_eq hb.2),(T.builtins _ (by decide)).trans PyProof.Rows.Boot.«Exception»⟩
 ·have hm:=PySem.mem_of_lookup hx
  obtain⟨q,hq,he⟩:=List.mem_map.mp hm
  cases he
  have hk:=List.all_eq_true.mp hc _ hq
  split at hk
  ·rename_i v hv
   exact⟨v,mg_of X T.g hv,rdIn_ok X hk⟩
  ·cases hk
 ·unfold fname at hf
  obtain⟨⟨x',F,l⟩,ht,rfl⟩:=Option.map_eq_some_iff.mp hf
  obtain⟨o,_,_,_,_,_,_,h1,h2,h3,_⟩:=rcd f x' F l ht
  exact⟨h1,o,_,h2,h3⟩
 ·obtain⟨b1,b2⟩:=blt_boot q hq
  exact⟨mg_none_of X T.g (isSomeNone_eq (List.all_eq_true.mp hb.1 q hq)),(T.builtins _ b1).trans b2⟩
 ·obtain⟨o,pr,bd,sc,pm,c,doc,_,h2,h3,h4,h5⟩:=rcd f x F l ht
  exact⟨o,pr,bd,sc,pm,c,doc,h2,h3,h4,h5⟩
end Mine

namespace Mine
set_option genCtorIdx false
set_option genInjectivity false
inductive Ans where
 | d (d:D) (k:Kd)
 | v (d:D)
 | b (b:Bool)
 | l (l:List D)
 | f (fl:Fl) (σ:Sg)
 | r (i:Nat) (c:Cell)
 | bad
 | sc
noncomputable def Ans.isD:Ans→Option (D×Kd)
 | .d x k=>some (x,k)
 | _=>none
noncomputable def Ans.isV:Ans→Option D
 | .v x=>some x
 | _=>none
noncomputable def Ans.isB:Ans→Option Bool
 | .b x=>some x
 | _=>none
noncomputable def Ans.isL:Ans→Option (List D)
 | .l x=>some x
 | _=>none
noncomputable def Ans.isE:Ans→Option (Out (D×Kd))
 | .d x k=>some (.ok (x,k))
 | .bad=>some .bad
 | _=>none
noncomputable def Ans.isF:Ans→Option (Out (Fl×Sg))
 | .f x σ=>some (.ok (x,σ))
 | .bad=>some .bad
 | _=>none
theorem ai {a b:Prop} (ha:a) (hb:b):a∧b:=⟨ha,hb⟩
theorem rt:some true=some true:=rfl
theorem rf:some false=some false:=rfl
noncomputable abbrev Ko (α:Type):=α→List Ans→Prop
noncomputable def W {α:Type} (m:Ev α) (K:Ko α) (B:Prop):Prop:=match m with
 | Option.none=>False
 | some o=>match o with
  | .ok a=>∃ as,K a as
  | .bad=>B
theorem W.bind {α β:Type} {m:Ev α} {K:Ko α} {B:Prop} {f:α→Ev β} {K':Ko β} (h:W m K B) (hk:∀ a as,K a as→W (f a) K' B):W (m.bind f) K' B:=
 match m,h with
 | some (.ok a),⟨as,h⟩=>hk a as h
 | some .bad,h=>h
theorem W.ok {α:Type} {a:α} {K:Ko α} {B:Prop} {as:List Ans} (h:K a as):W (Ev.ok a) K B:=⟨as,h⟩
noncomputable def ask {α:Type} (e:Option α) (pick:Ans→Option α) (K:Ko α):List Ans→Prop
 | []=>False
 | a :: as=>match pick a with
  | some r=>e=some r∧K r as
  | Option.none=>False
noncomputable def askE {α:Type} (e:Ev α) (pick:Ans→Option (Out α)) (K:Ko α) (B:Prop):List Ans→Prop
 | []=>False
 | a :: as=>match pick a with
  | some o=>(match o with
   | .ok r=>e=Ev.ok r∧K r as
   | .bad=>e=Ev.bad∧B)
  | Option.none=>False
theorem ask_ok {α β:Type} {e:Option α} {pick:Ans→Option α} {K:Ko α} {B:Prop} {f:α→Ev β} {K':Ko β} (hk:∀ a as,K a as→W (f a) K' B):∀ {as:List Ans},ask e pick K as→W ((Ev.of e).bind f) K' B
 | [],h=>h.elim
 | a :: as,h=>by
  dsimp only [ask] at h
  cases p:pick a with
  | none=>rw [p] at h;exact h.elim
  | some r=>rw [p] at h;rw [h.1];exact hk r as h.2
theorem askE_ok {α:Type} {e:Ev α} {pick:Ans→Option (Out α)} {K:Ko α} {B:Prop}:∀ {as:List Ans},askE e pick K B as→W e K B
 | [],h=>h.elim
 | a :: as,h=>by
  dsimp only [askE] at h
  cases p:pick a with
  | none=>rw [p] at h;exact h.elim
  | some o=>
   rw [p] at h
   cases o with
   | ok r=>rw [h.1];exact⟨as,h.2⟩
   | bad=>rw [h.1];exact h.2
noncomputable def now {α:Type} (c:Option α) (K:Ko α) (as:List Ans):Prop:=match c with
 | some c=>K c as
 | Option.none=>False
noncomputable def readO (σ:Sg) (i:Nat) (K:Ko Cell):List Ans→Prop
 | []=>now (σ i) K []
 | a :: as=>match a with
  | .r j c=>(match Nat.beq i j with
   | true=>σ i=some c∧K c as
   | false=>now (σ i) K (.r j c :: as))
  | a=>now (σ i) K (a :: as)
theorem now_ok {α:Type} {c:Option α} {K:Ko α} {as:List Ans} (h:now c K as):∃ x as,c=some x∧K x as:=
 match c,h with
 | some x,h=>⟨x,as,rfl,h⟩
theorem readO_ok {σ:Sg} {i:Nat} {K:Ko Cell}:∀ {as:List Ans},readO σ i K as→∃ c as,σ i=some c∧K c as
 | [],h=>now_ok h
 | a :: as,h=>by
  cases a with
  | r j c=>
   dsimp only [readO] at h
   cases p:Nat.beq i j with
   | true=>rw [p] at h;exact⟨c,as,h⟩
   | false=>rw [p] at h;exact now_ok h
  | _=>exact now_ok h
noncomputable def binN (o:Bop) (x y:D):Option (D×Kd):=match x with
 | .int a=>(match y with
  | .int b=>(match o with
   | .add=>some (.int (a + b),.pl)
   | .sub=>some (.int (a - b),.pl)
   | _=>Option.none)
  | _=>Option.none)
 | _=>Option.none
theorem binN_ok {o:Bop} {x y:D} {r:D×Kd} (h:binN o x y=some r):bop o x y=some r:=by
 cases x with
 | int a=>
  cases y with
  | int b=>
   cases o with
   | add=>exact h
   | sub=>exact h
   | _=>exact nomatch h
  | _=>exact nomatch h
 | _=>exact nomatch h
noncomputable def copN (o:Cop) (x y:D):Option Bool:=match x with
 | .int a=>(match y with
  | .int b=>(match o with
   | .eq=>some (decide (a=b))
   | .ne=>some (!decide (a=b))
   | .lt=>some (decide (a < b))
   | .le=>some (decide (a≤b))
   | .gt=>some (decide (b < a))
   | .ge=>some (decide (b≤a))
   | _=>Option.none)
  | _=>Option.none)
 | _=>Option.none
theorem copN_ok {o:Cop} {x y:D} {r:Bool} (h:copN o x y=some r):cop o x y=some r:=by
 cases x with
 | int a=>
  cases y with
  | int b=>
   cases o with
   | isin=>exact nomatch h
   | isnot=>exact nomatch h
   | _=>exact h
  | _=>exact nomatch h
 | _=>exact nomatch h
noncomputable def orO {α:Type} (n e:Option α) (pick:Ans→Option α) (K:Ko α) (as:List Ans):Prop:=match n with
 | some r=>K r as
 | Option.none=>ask e pick K as
theorem orO_ok {α β:Type} {n e:Option α} {pick:Ans→Option α} {K:Ko α} {B:Prop} {f:α→Ev β} {K':Ko β} {as:List Ans} (hn:∀ r,n=some r→e=some r) (hk:∀ a as,K a as→W (f a) K' B) (h:orO n e pick K as):W ((Ev.of e).bind f) K' B:=by
 cases n with
 | none=>exact ask_ok hk h
 | some r=>rw [hn r rfl];exact hk r as h
theorem bind_id {α:Type} (m:Ev α):m.bind (fun a=>Ev.ok a)=m:=match m with
 | Option.none=>rfl
 | some (.ok _)=>rfl
 | some .bad=>rfl
noncomputable def intO (x:D) (K:Int→Prop):Prop:=match x with
 | .int i=>K i
 | _=>False
noncomputable def boolO (x:D) (K:Bool→Prop):Prop:=match x with
 | .bool i=>K i
 | _=>False
noncomputable def tr0 (b:Bool) (P:Prop):Prop:=match b with
 | true=>False
 | false=>P
noncomputable def iff2 (b:Bool) (P Q:Prop):Prop:=match b with
 | true=>P
 | false=>Q
theorem tr0_ok {α:Type} {b:Bool} {P:Prop} {f:Ev α} {K:Ko α} {B:Prop} (h:tr0 b P) (hp:P→W f K B):W (if b=true then Option.none else f) K B:=by
 cases b with
 | true=>exact h.elim
 | false=>exact hp h
theorem iff2_ok {α:Type} {b:Bool} {P Q:Prop} {f g:Ev α} {K:Ko α} {B:Prop} (h:iff2 b P Q) (hp:P→W f K B) (hq:Q→W g K B):W (if b=true then f else g) K B:=by
 cases b with
 | true=>exact hp h
 | false=>exact hq h
theorem boolO_ok {α:Type} {x:D} {P:Bool→Prop} {f:Bool→Ev α} {K:Ko α} {B:Prop} (h:boolO x P) (hp:∀ b,P b→W (f b) K B):W ((Ev.of (asB x)).bind f) K B:=by
 cases x with
 | bool b=>exact hp b h
 | _=>exact h.elim
noncomputable def scO (d:D) (K:Ko (D×Kd)):List Ans→Prop
 | []=>iff2 (scal d) (K (d,.pl) []) (K (d,.tr) [])
 | a :: as=>match a with
  | .sc=>scal d=true∧K (d,.pl) as
  | a=>iff2 (scal d) (K (d,.pl) (a :: as)) (K (d,.tr) (a :: as))
theorem scO_ok {d:D} {K:Ko (D×Kd)} {B:Prop}:∀ {as:List Ans},scO d K as→W (if scal d=true then Ev.ok (d,.pl) else Ev.ok (d,.tr)) K B
 | [],h=>iff2_ok h W.ok W.ok
 | a :: as,h=>by
  cases a with
  | sc=>rw [if_pos h.1];exact⟨as,h.2⟩
  | _=>exact iff2_ok h W.ok W.ok
section
variable (Φ:Nat→List D→Ev (D×Kd)) (B:Prop)
mutual
noncomputable def evO:X→Sg→Ko (D×Kd)→List Ans→Prop
 | .non,_,K,as=>K (.none,.pl) as
 | .lit d,_,K,as=>K (d,.pl) as
 | .var i,σ,K,as=>readO σ i (fun c as=>iff2 c.own (K (c.d,.bo) as) (K (c.d,.pl) as)) as
 | .bin o a b,σ,K,as=>evO a σ (fun x as=>evO b σ (fun y as=>tr0 (x.2.isTr || y.2.isTr) (orO (binN o x.1 y.1) (bop o x.1 y.1) Ans.isD K as)) as) as
 | .neg a,σ,K,as=>evO a σ (fun x as=>intO x.1 fun i=>K (.int (-i),.pl) as) as
 | .cmp o a b,σ,K,as=>evO a σ (fun x as=>evO b σ (fun y as=>orO (copN o x.1 y.1) (cop o x.1 y.1) Ans.isB (fun r as=>K (.bool r,.pl) as) as) as) as
 | .cmp2 o1 o2 a b c,σ,K,as=>evO a σ (fun x as=>evO b σ (fun y as=>orO (copN o1 x.1 y.1) (cop o1 x.1 y.1) Ans.isB (fun r as=>ask (some r) Ans.isB (fun r as=>iff2 r
   (evO c σ (fun z as=>orO (copN o2 y.1 z.1) (cop o2 y.1 z.1) Ans.isB (fun q as=>K (.bool q,.pl) as) as) as) (K (.bool false,.pl) as)) as) as) as) as
 | .not a,σ,K,as=>evO a σ (fun x as=>boolO x.1 fun b=>K (.bool (!b),.pl) as) as
 | .and a b,σ,K,as=>evO a σ (fun x as=>ask (asB x.1) Ans.isB (fun r as=>iff2 r (evO b σ (fun y as=>boolO y.1 fun q=>K (.bool q,.pl) as) as) (K (.bool false,.pl) as)) as) as
 | .or a b,σ,K,as=>evO a σ (fun x as=>ask (asB x.1) Ans.isB (fun r as=>iff2 r (K (.bool true,.pl) as) (evO b σ (fun y as=>boolO y.1 fun q=>K (.bool q,.pl) as) as)) as) as
 | .ite c a b,σ,K,as=>evO c σ (fun x as=>ask (asB x.1) Ans.isB (fun r as=>iff2 r (evO a σ K as) (evO b σ K as)) as) as
 | .call f l,σ,K,as=>evsO l σ (fun xs as=>askE (Φ f (xs.map (·.1))) Ans.isE (fun r as=>iff2 (xs.all (fun x=>x.2.sto)) (K r as) (scO r.1 K as)) B as) as
 | .fn1 f a,σ,K,as=>evO a σ (fun x as=>ask (fn1 f x.1) Ans.isV (fun r as=>K (r,.pl) as) as) as
 | .fn2 f a b,σ,K,as=>evO a σ (fun x as=>evO b σ (fun y as=>ask (fn2 f x.1 y.1) Ans.isV (fun r as=>K (r,.pl) as) as) as) as
 | .mth m a b,σ,K,as=>evO a σ (fun x as=>iff2 (rcv m x.1) (evO b σ (fun y as=>ask (mth m x.1 y.1) Ans.isD K as) as) False) as
 | .idx a b,σ,K,as=>evO a σ (fun x as=>evO b σ (fun y as=>tr0 x.2.isTr (ask (sub x.1 y.1) Ans.isV (fun r as=>K (r,.pl) as) as)) as) as
 | .slc a lo hi,σ,K,as=>evO a σ (fun x as=>evO lo σ (fun y as=>evO hi σ (fun z as=>tr0 x.2.isTr (ask (slc x.1 y.1 z.1) Ans.isD K as)) as) as) as
 | .tup l,σ,K,as=>evsO l σ (fun xs as=>now (xs.mapM frz) (fun ds as=>K (.tup ds,.pl) as) as) as
 | .lst l,σ,K,as=>evsO l σ (fun xs as=>now (xs.mapM frz) (fun ds as=>K (.lst ds,.fr) as) as) as
 | .comp elt v rng it cond,σ,K,as=>askE (ev Φ (.comp elt v rng it cond) σ) Ans.isE K B as
noncomputable def evsO:List X→Sg→Ko (List (D×Kd))→List Ans→Prop
 | [],_,K,as=>K [] as
 | x :: r,σ,K,as=>evO x σ (fun a as=>evsO r σ (fun l as=>K (a :: l) as) as) as
end
theorem of_bind {α:Type} (o:Option α):(Ev.of o).bind (fun a=>Ev.ok a)=Ev.of o:=bind_id _
theorem W.of {α:Type} {o:Option α} {K:Ko α} {B:Prop} (h:W ((Ev.of o).bind fun a=>Ev.ok a) K B):W (Ev.of o) K B:=of_bind o ▸ h
theorem now_of {α β:Type} {o:Option α} {K:Ko α} {f:α→Ev β} {K':Ko β} {as:List Ans} (hk:∀ a as,K a as→W (f a) K' B) (h:now o K as):W ((Ev.of o).bind f) K' B:=
 match o,h with
 | some _,h=>hk _ as h
mutual
theorem evO_ok:∀ (x:X) {σ:Sg} {K:Ko (D×Kd)} {as:List Ans},evO Φ B x σ K as→W (ev Φ x σ) K B
 | .non,_,_,as,h=>⟨as,h⟩
 | .lit _,_,_,as,h=>⟨as,h⟩
 | .var i,σ,K,as,h=>by
  obtain⟨⟨d,o⟩,as,e,h⟩:=readO_ok h
  show W (match σ i with
   | some ⟨d,false⟩=>Ev.ok (d,.pl)
   | some ⟨d,true⟩=>Ev.ok (d,.bo)
   | Option.none=>Option.none) K B
  rw [e]
  cases o with
  | false=>exact⟨as,h⟩
  | true=>exact⟨as,h⟩
 | .bin o a b,_,_,_,h=>(evO_ok a h).bind fun _ _ h=>(evO_ok b h).bind fun _ _ h=>tr0_ok h fun h=>W.of (orO_ok (fun _=>binN_ok) (fun _ _=>W.ok) h)
 | .neg a,_,_,_,h=>(evO_ok a h).bind fun x as h=>match x,h with
  | (.int _,_),h=>⟨as,h⟩
 | .cmp o a b,_,_,_,h=>(evO_ok a h).bind fun _ _ h=>(evO_ok b h).bind fun _ _ h=>orO_ok (fun _=>copN_ok) (fun _ _=>W.ok) h
 | .cmp2 o1 o2 a b c,_,_,_,h=>(evO_ok a h).bind fun _ _ h=>(evO_ok b h).bind fun _ _ h=>orO_ok (fun _=>copN_ok) (fun r _ h=>
   ask_ok (e:=some r) (f:=fun r=>if r=true then _ else _) (fun _ _ h=>iff2_ok h (fun h=>(evO_ok c h).bind fun _ _ h=>orO_ok (fun _=>copN_ok) (fun _ _=>W.ok) h) W.ok) h) h
 | .not a,_,_,_,h=>(evO_ok a h).bind fun _ _ h=>boolO_ok h fun _=>W.ok
 | .and a b,_,_,_,h=>(evO_ok a h).bind fun _ _ h=>ask_ok (fun _ _ h=>iff2_ok h (fun h=>(evO_ok b h).bind fun _ _ h=>boolO_ok h fun _=>W.ok) W.ok) h
 | .or a b,_,_,_,h=>(evO_ok a h).bind fun _ _ h=>ask_ok (fun _ _ h=>iff2_ok h W.ok fun h=>(evO_ok b h).bind fun _ _ h=>boolO_ok h fun _=>W.ok) h
 | .ite c a b,_,_,_,h=>(evO_ok c h).bind fun _ _ h=>ask_ok (fun _ _ h=>iff2_ok h (fun h=>evO_ok a h) fun h=>evO_ok b h) h
 | .call f l,_,_,_,h=>(evsO_ok l h).bind fun _ _ h=>(askE_ok h).bind fun _ _ h=>iff2_ok h W.ok fun h=>scO_ok h
 | .fn1 f a,_,_,_,h=>(evO_ok a h).bind fun _ _ h=>ask_ok (fun _ _=>W.ok) h
 | .fn2 f a b,_,_,_,h=>(evO_ok a h).bind fun _ _ h=>(evO_ok b h).bind fun _ _ h=>ask_ok (fun _ _=>W.ok) h
 | .mth m a b,_,_,_,h=>(evO_ok a h).bind fun _ _ h=>iff2_ok h (fun h=>(evO_ok b h).bind fun _ _ h=>W.of (ask_ok (fun _ _=>W.ok) h)) fun h=>h.elim
 | .idx a b,_,_,_,h=>(evO_ok a h).bind fun _ _ h=>(evO_ok b h).bind fun _ _ h=>tr0_ok h fun h=>ask_ok (fun _ _=>W.ok) h
 | .slc a lo hi,_,_,_,h=>(evO_ok a h).bind fun _ _ h=>(evO_ok lo h).bind fun _ _ h=>(evO_ok hi h).bind fun _ _ h=>tr0_ok h fun h=>W.of (ask_ok (fun _ _=>W.ok) h)
 | .tup l,_,_,_,h=>(evsO_ok l h).bind fun _ _ h=>now_of B (fun _ _=>W.ok) h
 | .lst l,_,_,_,h=>(evsO_ok l h).bind fun _ _ h=>now_of B (fun _ _=>W.ok) h
 | .comp elt v rng it cond,_,_,_,h=>askE_ok h
theorem evsO_ok:∀ (l:List X) {σ:Sg} {K:Ko (List (D×Kd))} {as:List Ans},evsO Φ B l σ K as→W (evs Φ l σ) K B
 | [],_,_,as,h=>⟨as,h⟩
 | x :: r,_,_,_,h=>(evO_ok x h).bind fun _ _ h=>(evsO_ok r h).bind fun _ _=>W.ok
end
end
end Mine

namespace Mine
noncomputable def asgO (i:Nat) (e:X) (σ:Sg) (r:D×Kd) (K:Ko (Fl×Sg)) (as:List Ans):Prop:=match r.2 with
 | .pl=>K (.next,upd σ i ⟨r.1,false⟩) as
 | .fr=>K (.next,upd σ i ⟨r.1,true⟩) as
 | .bo=>now (handOn e .bo σ) (fun σ' as=>K (.next,upd σ' i ⟨r.1,false⟩) as) as
 | .tr=>False
noncomputable def tupO (r:D×Kd) (K:List D→Prop):Prop:=match r.1 with
 | .tup ds=>(match r.2 with
  | .pl=>K ds
  | _=>False)
 | _=>False
noncomputable def lstO (c:Cell) (K:List D→Prop):Prop:=match c.own with
 | true=>(match c.d with
  | .lst ds=>K ds
  | _=>False)
 | false=>False
noncomputable def varOf:X→Option Nat
 | .var j=>some j
 | _=>Option.none
noncomputable def strO (x:D) (B:Prop):Prop:=match x with
 | .str _=>B
 | _=>False
noncomputable def nextO (x:Fl×Sg) (P:Sg→Prop) (Q:Prop):Prop:=match x.1 with
 | .next=>P x.2
 | _=>Q
noncomputable def forB (Φ:Nat→List D→Ev (D×Kd)) (t:Nat) (body:List St) (d:D) (σ:Sg):Ev (Fl×Sg):=exs Φ body (upd σ t ⟨d,false⟩)
noncomputable def headF:List Ans→Bool
 | []=>false
 | a :: _=>match a with
  | .f _ _=>true
  | _=>false
theorem iff2_el {P Q R:Prop} (b:Bool) (h:iff2 b P Q) (hp:P→R) (hq:Q→R):R:=match b,h with
 | true,h=>hp h
 | false,h=>hq h
noncomputable def forO (f:D→Sg→Ko (Fl×Sg)→List Ans→Prop):List D→Sg→Ko (Fl×Sg)→List Ans→Prop
 | [],σ,K,as=>K (.next,σ) as
 | d :: ds,σ,K,as=>f d σ (fun x as=>match x.1 with
  | .ret _ _=>K x as
  | _=>forO f ds x.2 K as) as
theorem forO_ok {B:Prop} {f:D→Sg→Ko (Fl×Sg)→List Ans→Prop} {g:D→Sg→Ev (Fl×Sg)} (hf:∀ {d σ K as},f d σ K as→W (g d σ) K B):∀ {ds:List D} {σ:Sg} {K:Ko (Fl×Sg)} {as:List Ans},forO f ds σ K as→W (forGo g ds σ) K B
 | [],_,_,as,h=>⟨as,h⟩
 | _ :: _,_,_,_,h=>(hf h).bind fun x as h=>match x,h with
  | (.ret _ _,_),h=>⟨as,h⟩
  | (.next,σ),h=>show W (forGo g _ σ) _ _ from forO_ok (f:=f) (g:=g) hf h
  | (.cont,σ),h=>show W (forGo g _ σ) _ _ from forO_ok (f:=f) (g:=g) hf h
section
variable (Φ:Nat→List D→Ev (D×Kd)) (B:Prop)
mutual
noncomputable def exO:St→Sg→Ko (Fl×Sg)→List Ans→Prop
 | .asg i e,σ,K,as=>evO Φ B e σ (fun r as=>asgO i e σ r K as) as
 | .asgT is e,σ,K,as=>evO Φ B e σ (fun r as=>tupO r fun ds=>now (bindAll is ds σ) (fun σ' as=>K (.next,σ') as) as) as
 | .setI i a e,σ,K,as=>readO σ i (fun c as=>lstO c fun ds=>evO Φ B e σ (fun r as=>evO Φ B a σ (fun k as=>now (frz r) (fun d as=>intO k.1 fun n=>
   (0≤n∧n < ds.length∧ds.length≤big)∧K (.next,upd σ i ⟨.lst (ds.set n.toNat d),true⟩) as) as) as) as) as
 | .app i e,σ,K,as=>readO σ i (fun c as=>lstO c fun ds=>evO Φ B e σ (fun r as=>now (frz r) (fun d as=>ds.length < big∧K (.next,upd σ i ⟨.lst (ds ++ [d]),true⟩) as) as) as) as
 | .ret e,σ,K,as=>(match varOf e with
  | some j=>readO σ j (fun c as=>iff2 c.own (K (.ret c.d .fr,σ) as) (K (.ret c.d .pl,σ) as)) as
  | Option.none=>evO Φ B e (frzAll σ) (fun r as=>iff2 r.2.sto (K (.ret r.1 r.2,frzAll σ) as) False) as)
 | .iff c a b,σ,K,as=>iff2 (headF as) (askE (ex Φ (.iff c a b) σ) Ans.isF K B as)
   (evO Φ B c σ (fun x as=>ask (asB x.1) Ans.isB (fun r as=>iff2 r (exsO a σ K as) (exsO b σ K as)) as) as)
 | .forE t e body,σ,K,as=>evO Φ B e σ (fun r as=>now (handOn e r.2 σ) (fun σ' as=>ask (items r.1) Ans.isL (fun ds as=>iff2 (headF as) (askE (forGo (fun d σ=>exs Φ body (upd σ t ⟨d,false⟩)) ds σ') Ans.isF K B as) (forO (fun d σ K as=>exsO body (upd σ t ⟨d,false⟩) K as) ds σ' K as)) as) as) as
 | .forR t a b body,σ,K,as=>(match isNon a with
  | true=>evO Φ B b σ (fun y as=>intO y.1 fun hi=>ask (rangeD 0 hi) Ans.isL (fun ds as=>askE (forGo (fun d σ=>exs Φ body (upd σ t ⟨d,false⟩)) ds σ) Ans.isF K B as) as) as
  | false=>evO Φ B a σ (fun x as=>evO Φ B b σ (fun y as=>intO x.1 fun lo=>intO y.1 fun hi=>ask (rangeD lo hi) Ans.isL (fun ds as=>askE (forGo (fun d σ=>exs Φ body (upd σ t ⟨d,false⟩)) ds σ) Ans.isF K B as) as) as) as)
 | .rais e,σ,_,as=>evO Φ B e σ (fun r _=>strO r.1 B) as
 | .cont,σ,K,as=>K (.cont,σ) as
 | .whil c body,σ,K,as=>askE (whileGo (fun σ=>(ev Φ c σ).bind fun x=>Ev.of (asB x.1)) (fun σ=>exs Φ body σ) 100 σ) Ans.isF K B as
 | .tryr e,σ,K,as=>evO Φ (K (.ret .none .pl,frzAll σ) []) e (frzAll σ) (fun r as=>iff2 r.2.sto (K (.ret r.1 r.2,frzAll σ) as) False) as
 | s,σ,K,as=>askE (ex Φ s σ) Ans.isF K B as
noncomputable def exsO:List St→Sg→Ko (Fl×Sg)→List Ans→Prop
 | [],σ,K,as=>K (.next,σ) as
 | s :: r,σ,K,as=>exO s σ (fun x as=>nextO x (fun σ=>exsO r σ K as) (K x as)) as
end
theorem asgO_ok {B:Prop} {i:Nat} {e:X} {σ:Sg} {r:D×Kd} {K:Ko (Fl×Sg)} {as:List Ans} (h:asgO i e σ r K as):W (match r.2 with
  | .pl=>Ev.ok (.next,upd σ i ⟨r.1,false⟩)
  | .fr=>Ev.ok (.next,upd σ i ⟨r.1,true⟩)
  | .bo=>(Ev.of (handOn e .bo σ)).bind fun σ'=>Ev.ok (.next,upd σ' i ⟨r.1,false⟩)
  | .tr=>Option.none) K B:=by
 obtain⟨d,k⟩:=r
 cases k with
 | pl=>exact⟨as,h⟩
 | fr=>exact⟨as,h⟩
 | bo=>exact now_of B (as:=as) (fun _ _=>W.ok) h
 | tr=>exact h.elim
theorem tupO_ok {B:Prop} {r:D×Kd} {P:List D→Prop} {f:List D→Ev (Fl×Sg)} {K:Ko (Fl×Sg)} (h:tupO r P) (hp:∀ ds,P ds→W (f ds) K B):W (match r with
  | (.tup ds,.pl)=>f ds
  | _=>Option.none) K B:=by
 obtain⟨d,k⟩:=r
 cases d with
 | tup ds=>
  cases k with
  | pl=>exact hp ds h
  | _=>exact h.elim
 | _=>exact h.elim
theorem lstO_ok {B:Prop} {c:Cell} {P:List D→Prop} {o:Option Cell} {f:List D→Ev (Fl×Sg)} {K:Ko (Fl×Sg)} (ho:o=some c) (h:lstO c P) (hp:∀ ds,P ds→W (f ds) K B):W (match o with
  | some ⟨.lst ds,true⟩=>f ds
  | _=>Option.none) K B:=by
 subst ho
 obtain⟨d,w⟩:=c
 cases w with
 | true=>
  cases d with
  | lst ds=>exact hp ds h
  | _=>exact h.elim
 | false=>exact h.elim
theorem intO_ok {α:Type} {B:Prop} {x:D} {P:Int→Prop} {f:Int→Ev α} {K:Ko α} (h:intO x P) (hp:∀ i,P i→W (f i) K B):W (match x with
  | .int n=>f n
  | _=>Option.none) K B:=by
 cases x with
 | int i=>exact hp i h
 | _=>exact h.elim
theorem int2_ok {α:Type} {B:Prop} {x y:D} {P:Int→Int→Prop} {g:Int→Int→Option (List D)} {f:List D→Ev α} {K:Ko α} (h:intO x fun a=>intO y fun b=>P a b) (hp:∀ a b,P a b→W ((Ev.of (g a b)).bind f) K B):W ((Ev.of (match x,y with
  | .int lo,.int hi=>g lo hi
  | _,_=>Option.none)).bind f) K B:=by
 cases x with
 | int i=>
  cases y with
  | int j=>exact hp i j h
  | _=>exact h.elim
 | _=>exact h.elim
theorem int1_ok {α:Type} {B:Prop} {lo:Int} {y:D} {P:Int→Prop} {g:Int→Int→Option (List D)} {f:List D→Ev α} {K:Ko α} (h:intO y P) (hp:∀ b,P b→W ((Ev.of (g lo b)).bind f) K B):W ((Ev.of (match D.int lo,y with
  | .int lo,.int hi=>g lo hi
  | _,_=>Option.none)).bind f) K B:=by
 cases y with
 | int j=>exact hp j h
 | _=>exact h.elim
theorem ifP_ok {α:Type} {B p:Prop} [Decidable p] {P:Prop} {f:Ev α} {K:Ko α} (h:p∧P) (hp:P→W f K B):W (if p then f else Option.none) K B:=by
 rw [if_pos h.1];exact hp h.2
theorem ex_retV {σ:Sg} {j:Nat} {K:Ko (Fl×Sg)} {as:List Ans} (h:readO σ j (fun c as=>iff2 c.own (K (.ret c.d .fr,σ) as) (K (.ret c.d .pl,σ) as)) as):W (ex Φ (.ret (.var j)) σ) K B:=by
 obtain⟨⟨d,o⟩,as,e,h⟩:=readO_ok h
 show W (match σ j with
   | some ⟨d,true⟩=>Ev.ok (.ret d .fr,σ)
   | some ⟨d,false⟩=>Ev.ok (.ret d .pl,σ)
   | Option.none=>Option.none) K B
 rw [e]
 cases o with
 | false=>exact⟨as,h⟩
 | true=>exact⟨as,h⟩
theorem ex_ret:∀ {e:X} (_:varOf e=Option.none) (σ:Sg),ex Φ (.ret e) σ=(ev Φ e (frzAll σ)).bind fun r=>if r.2.sto then Ev.ok (.ret r.1 r.2,frzAll σ) else Option.none:=by
 intro e h σ
 cases e with
 | var j=>exact nomatch h
 | _=>rfl
theorem strO_ok {α:Type} {x:D} {K:Ko α} (h:strO x B):W (match x with
  | .str _=>Ev.bad
  | _=>Option.none) K B:=by
 cases x with
 | str _=>exact h
 | _=>exact h.elim
mutual
theorem exO_ok:∀ (s:St) {σ:Sg} {K:Ko (Fl×Sg)} {as:List Ans},exO Φ B s σ K as→W (ex Φ s σ) K B
 | .asg i e,_,_,_,h=>(evO_ok Φ B e h).bind fun _ _ h=>asgO_ok h
 | .asgT is e,_,_,_,h=>(evO_ok Φ B e h).bind fun _ _ h=>tupO_ok h fun _ h=>now_of B (fun _ _=>W.ok) h
 | .setI i a e,_,_,_,h=>(readO_ok h).elim fun _ h=>h.elim fun _ h=>lstO_ok h.1 h.2 fun _ h=>(evO_ok Φ B e h).bind fun _ _ h=>(evO_ok Φ B a h).bind fun _ _ h=>now_of B (fun _ _ h=>intO_ok h fun _ h=>ifP_ok h W.ok) h
 | .app i e,_,_,_,h=>(readO_ok h).elim fun _ h=>h.elim fun _ h=>lstO_ok h.1 h.2 fun _ h=>(evO_ok Φ B e h).bind fun _ _ h=>now_of B (fun _ _ h=>ifP_ok h W.ok) h
 | .ret e,σ,K,as,h=>by
  have h:(match varOf e with
   | some j=>readO σ j (fun c as=>iff2 c.own (K (.ret c.d .fr,σ) as) (K (.ret c.d .pl,σ) as)) as
   | Option.none=>evO Φ B e (frzAll σ) (fun r as=>iff2 r.2.sto (K (.ret r.1 r.2,frzAll σ) as) False) as):=h
  cases v:varOf e with
  | none=>rw [v] at h;rw [ex_ret Φ v];exact(evO_ok Φ B e h).bind fun _ _ h=>iff2_ok h W.ok fun h=>h.elim
  | some j=>
   rw [v] at h
   cases e with
   | var i=>cases v;exact ex_retV Φ B h
   | _=>exact nomatch v
 | .iff c a b,_,_,as,h=>iff2_el (headF as) h (fun h=>askE_ok h) fun h=>(evO_ok Φ B c h).bind fun _ _ h=>ask_ok (fun _ _ h=>iff2_ok h (fun h=>exsO_ok a h) fun h=>exsO_ok b h) h
 | .forE t e body,_,_,_,h=>(evO_ok Φ B e h).bind fun _ _ h=>now_of B (fun _ _ h=>ask_ok (fun _ as h=>iff2_el (headF as) h (fun h=>askE_ok h) fun h=>forO_ok (fun h=>exsO_ok body h) h) h) h
 | .forR t a b body,σ,K,as,h=>by
  have h:(match isNon a with
   | true=>evO Φ B b σ (fun y as=>intO y.1 fun hi=>ask (rangeD 0 hi) Ans.isL (fun ds as=>askE (forGo (fun d σ=>exs Φ body (upd σ t ⟨d,false⟩)) ds σ) Ans.isF K B as) as) as
   | false=>evO Φ B a σ (fun x as=>evO Φ B b σ (fun y as=>intO x.1 fun lo=>intO y.1 fun hi=>ask (rangeD lo hi) Ans.isL (fun ds as=>askE (forGo (fun d σ=>exs Φ body (upd σ t ⟨d,false⟩)) ds σ) Ans.isF K B as) as) as) as):=h
  show W ((if isNon a then Ev.ok (.int 0,.pl) else ev Φ a σ).bind _) K B
  cases v:isNon a with
  | true=>
   rw [v] at h
   exact(evO_ok Φ B b h).bind fun y _ h=>int1_ok h fun _ h=>ask_ok (fun _ _ h=>askE_ok h) h
  | false=>rw [v] at h;exact(evO_ok Φ B a h).bind fun _ _ h=>(evO_ok Φ B b h).bind fun _ _ h=>int2_ok h fun _ _ h=>ask_ok (fun _ _ h=>askE_ok h) h
 | .rais e,_,_,_,h=>(evO_ok Φ B e h).bind fun _ _ h=>strO_ok B h
 | .cont,_,_,as,h=>⟨as,h⟩
 | .forT _ _ _,_,_,_,h=>askE_ok h
 | .whil _ _,_,_,_,h=>askE_ok h
 | .tryr e,σ,K,as,h=>by
  have h:W (ev Φ e (frzAll σ)) _ _:=evO_ok Φ (K (.ret .none .pl,frzAll σ) []) e h
  show W (match ev Φ e (frzAll σ) with
   | Option.none=>Option.none
   | some .bad=>Ev.ok (.ret .none .pl,frzAll σ)
   | some (.ok (d,k))=>if k.sto then Ev.ok (.ret d k,frzAll σ) else Option.none) K B
  match ev Φ e (frzAll σ),h with
  | some .bad,h=>exact⟨[],h⟩
  | some (.ok (d,k)),⟨as,h⟩=>exact iff2_ok h W.ok fun h=>h.elim
 | .stk,_,_,_,h=>askE_ok h
theorem exsO_ok:∀ (l:List St) {σ:Sg} {K:Ko (Fl×Sg)} {as:List Ans},exsO Φ B l σ K as→W (exs Φ l σ) K B
 | [],_,_,as,h=>⟨as,h⟩
 | s :: r,_,_,_,h=>(exO_ok s h).bind fun x as h=>match x,h with
  | (.next,_),h=>exsO_ok r h
  | (.cont,_),h=>⟨as,h⟩
  | (.ret _ _,_),h=>⟨as,h⟩
end
end
noncomputable def s_at (l:List St) (i:Nat):St:=(l[i]?).getD .stk
section
variable {Φ:Nat→List D→Ev (D×Kd)} {l:List St} {σ:Sg} {F:Fun} {ds:List D} {x:X}
theorem W.eq {α:Type} {m:Ev α} {r:α} (h:W m (fun y _=>y=r) False):m=Ev.ok r:=
 match m,h with
 | some (.ok _),⟨_,h⟩=>h ▸ rfl
theorem W.eqB {α:Type} {m:Ev α} (h:W m (fun _ _=>False) True):m=Ev.bad:=
 match m,h with
 | some .bad,_=>rfl
 | some (.ok _),⟨_,h⟩=>h.elim
theorem run_eq {r:Fl×Sg} (as:List Ans) (h:exsO Φ False l σ (fun y _=>y=r) as):exs Φ l σ=Ev.ok r:=(exsO_ok Φ False l h).eq
theorem one_eq {s:St} {r:Fl×Sg} (as:List Ans) (h:exO Φ False s σ (fun y _=>y=r) as):ex Φ s σ=Ev.ok r:=(exO_ok Φ False s h).eq
theorem exs_cons1 {s:St} {τ:Sg} (h:ex Φ s σ=Ev.ok (.next,τ)):exs Φ (s :: l) σ=exs Φ l τ:=by show(ex Φ s σ).bind _=_;rw [h];rfl
theorem exs_consB {s:St} (h:ex Φ s σ=Ev.bad):exs Φ (s :: l) σ=Ev.bad:=by show(ex Φ s σ).bind _=_;rw [h];rfl
theorem one_bad {s:St} (as:List Ans) (h:exO Φ True s σ (fun _ _=>False) as):ex Φ s σ=Ev.bad:=(exO_ok Φ True s h).eqB
theorem sg_upd {i:Nat} {c:Cell} (h:σ i=some c):σ=upd σ i c:=by
 funext k;unfold upd;split
 ·rename_i e;rw [e,h]
 ·rfl
theorem run_bad (as:List Ans) (h:exsO Φ True l σ (fun _ _=>False) as):exs Φ l σ=Ev.bad:=(exsO_ok Φ True l h).eqB
theorem ev_eq {r:D×Kd} (as:List Ans) (h:evO Φ False x σ (fun y _=>y=r) as):ev Φ x σ=Ev.ok r:=(evO_ok Φ False x h).eq
theorem ev_bad (as:List Ans) (h:evO Φ True x σ (fun _ _=>False) as):ev Φ x σ=Ev.bad:=(evO_ok Φ True x h).eqB
noncomputable def fin (x:Fl×Sg):Ev (D×Kd):=match x.1 with
 | .ret d k=>Ev.ok (d,k)
 | .next=>Ev.ok (.none,.pl)
 | .cont=>Option.none
theorem fin_ret (d:D) (k:Kd) (σ:Sg):fin (.ret d k,σ)=Ev.ok (d,k):=rfl
theorem runF_fin (Φ:Nat→List D→Ev (D×Kd)) (F:Fun) (ds:List D) (h:ds.length=F.n):runF Φ F ds=(exs Φ F.body (start F.n ds)).bind fin:=by
 unfold runF;rw [if_pos h];rfl
theorem fin_eq {r:D×Kd} (as:List Ans) (h:exsO Φ False l σ (fun y _=>fin y=Ev.ok r) as):(exs Φ l σ).bind fin=Ev.ok r:=
 W.eq ((exsO_ok Φ False l h).bind fun y as h=>h ▸ ⟨as,rfl⟩)
theorem fin_bad (as:List Ans) (h:exsO Φ True l σ (fun _ _=>False) as):(exs Φ l σ).bind fin=Ev.bad:=
 W.eqB ((exsO_ok Φ True l h).bind fun _ _ h=>h.elim)
theorem fun_eq {r:D×Kd} (as:List Ans) (hn:(ds.length == F.n)=true) (h:exsO Φ False F.body (start F.n ds) (fun y _=>fin y=Ev.ok r) as):runF Φ F ds=Ev.ok r:=by
 rw [runF_fin Φ F ds (eq_of_beq hn)];exact fin_eq as h
theorem fun_bad (as:List Ans) (hn:(ds.length == F.n)=true) (h:exsO Φ True F.body (start F.n ds) (fun _ _=>False) as):runF Φ F ds=Ev.bad:=by
 rw [runF_fin Φ F ds (eq_of_beq hn)];exact fin_bad as h
end
theorem asb_t {p:Prop} [Decidable p] (h:p):asB (.bool (decide p))=some true:=by rw [decide_eq_true h];rfl
theorem asb_f {p:Prop} [Decidable p] (h:¬ p):asB (.bool (decide p))=some false:=by rw [decide_eq_false h];rfl
theorem asb_nt {p:Prop} [Decidable p] (h:p):asB (.bool (!decide p))=some false:=by rw [decide_eq_true h];rfl
theorem asb_nf {p:Prop} [Decidable p] (h:¬ p):asB (.bool (!decide p))=some true:=by rw [decide_eq_false h];rfl
theorem asb_e {b r:Bool} (h:b=r):asB (.bool b)=some r:=h ▸ rfl
theorem frz_at {σ:Sg} {i:Nat} {d:D} {o:Bool} (h:σ i=some ⟨d,o⟩):frzAll σ i=some ⟨d,false⟩:=by unfold frzAll;rw [h];rfl
end Mine

namespace Mine
theorem b_add (a b:Int):bop .add (.int a) (.int b)=some (.int (a + b),.pl):=rfl
theorem b_adds (a b:List Nat):bop .add (.str a) (.str b)=if a.length + b.length≤big then some (.str (a ++ b),.pl) else Option.none:=rfl
theorem b_addl (a b:List D):bop .add (.lst a) (.lst b)=if a.length + b.length≤big then some (.lst (a ++ b),.fr) else Option.none:=rfl
theorem b_sub (a b:Int):bop .sub (.int a) (.int b)=some (.int (a - b),.pl):=rfl
theorem b_mul (a b:Int):bop .mul (.int a) (.int b)=if a.natAbs < 4294967296∧b.natAbs < 4294967296 then some (.int (a * b),.pl) else Option.none:=rfl
theorem b_mull (a:List D) (b:Int):bop .mul (.lst a) (.int b)=if 0≤b∧a.length=1∧b≤256 then some (.lst (List.replicate b.toNat (a.headD .none)),.fr) else Option.none:=rfl
theorem b_fdiv (a b:Int):bop .fdiv (.int a) (.int b)=if 0 < b∧b.natAbs.log2 < 9000 then some (.int (a / b),.pl) else Option.none:=rfl
theorem b_fmod (a b:Int):bop .fmod (.int a) (.int b)=if 0 < b then some (.int (a % b),.pl) else Option.none:=rfl
theorem b_shr (a b:Int):bop .shr (.int a) (.int b)=if 0≤a∧0≤b∧b≤64 then some (.int (a / 2 ^ b.toNat),.pl) else Option.none:=rfl
theorem b_band (a b:Int):bop .band (.int a) (.int b)=if 0≤a∧0≤b then some (.int ((a.toNat &&& b.toNat:Nat):Int),.pl) else Option.none:=rfl
theorem b_pow (a b:Int):bop .pow (.int a) (.int b)=if a=2∧0≤b∧b≤4096 then some (.int (2 ^ b.toNat),.pl) else Option.none:=rfl
theorem c_eqi (a b:Int):cop .eq (.int a) (.int b)=some (decide (a=b)):=rfl
theorem c_nei (a b:Int):cop .ne (.int a) (.int b)=some (!decide (a=b)):=rfl
theorem c_eqs (a b:List Nat):cop .eq (.str a) (.str b)=some (decide (a=b)):=congrArg some (Bool.beq_eq_decide_eq a b)
theorem c_nes (a b:List Nat):cop .ne (.str a) (.str b)=some (!decide (a=b)):=congrArg (fun x=>some (!x)) (Bool.beq_eq_decide_eq a b)
theorem c_lt (a b:Int):cop .lt (.int a) (.int b)=some (decide (a < b)):=rfl
theorem c_le (a b:Int):cop .le (.int a) (.int b)=some (decide (a≤b)):=rfl
theorem c_gt (a b:Int):cop .gt (.int a) (.int b)=some (decide (b < a)):=rfl
theorem c_ge (a b:Int):cop .ge (.int a) (.int b)=some (decide (b≤a)):=rfl
theorem asB_b (b:Bool):asB (.bool b)=some b:=rfl
theorem frz_pl (d:D):frz (d,.pl)=some d:=rfl
theorem frz_fr (d:D):frz (d,.fr)=some d:=rfl
theorem tr_pl:Kd.isTr .pl=false:=rfl
theorem tr_fr:Kd.isTr .fr=false:=rfl
theorem tr_bo:Kd.isTr .bo=false:=rfl
theorem sto_pl:Kd.sto .pl=true:=rfl
theorem sto_fr:Kd.sto .fr=true:=rfl
theorem sto_bo:Kd.sto .bo=false:=rfl
theorem clip_n (n d:Nat):clip n .none d=some d:=rfl
theorem clip_i (n:Nat) (i:Int) (d:Nat):clip n (.int i) d=if -1000000000 < i∧i < 1000000000 then some (if i < 0 then (i + n).toNat else min i.toNat n) else Option.none:=rfl
theorem slc_s (s:List Nat) (a b:D):slc (.str s) a b=(clip s.length a 0).bind fun lo=>(clip s.length b s.length).bind fun hi=>if s.length≤big then some (.str (cut s lo hi),.pl) else Option.none:=by rfl
theorem slc_l (s:List D) (a b:D):slc (.lst s) a b=(clip s.length a 0).bind fun lo=>(clip s.length b s.length).bind fun hi=>if s.length≤big then some (.lst (cut s lo hi),.fr) else Option.none:=by rfl
theorem f_lens (s:List Nat):fn1 .len (.str s)=if s.length≤big then some (.int s.length) else Option.none:=rfl
theorem f_lenl (s:List D):fn1 .len (.lst s)=if s.length≤big then some (.int s.length) else Option.none:=rfl
theorem f_str (i:Int):fn1 .str (.int i)=if 0≤i∧i < 10000000000 then some (.str (dec i.toNat)) else Option.none:=rfl
theorem f_sum (l:List D):fn1 .sum (.lst l)=(dInts l).map fun xs=>.int xs.sum:=rfl
theorem f_min (a b:Int):fn2 .min (.int a) (.int b)=some (.int (if b < a then b else a)):=rfl
theorem f_max (a b:Int):fn2 .max (.int a) (.int b)=some (.int (if a < b then b else a)):=rfl
theorem scal_n:scal .none=true:=rfl
theorem scal_b (b:Bool):scal (.bool b)=true:=rfl
theorem scal_i (i:Int):scal (.int i)=true:=rfl
theorem scal_s (s:List Nat):scal (.str s)=true:=rfl
theorem scal_t (l:List D):scal (.tup l)=false:=rfl
theorem scal_l (l:List D):scal (.lst l)=false:=rfl
theorem h_pl (e:X) (σ:Sg):handOn e .pl σ=some σ:=rfl
theorem h_fr (e:X) (σ:Sg):handOn e .fr σ=some σ:=rfl
theorem h_bo (j:Nat) (σ:Sg):handOn (.var j) .bo σ=some (frz1 σ j):=rfl
theorem ba_nil (σ:Sg):bindAll [] [] σ=some σ:=rfl
theorem ba_cons (i:Nat) (is:List Nat) (d:D) (ds:List D) (σ:Sg):bindAll (i :: is) (d :: ds) σ=bindAll is ds (upd σ i ⟨d,false⟩):=rfl
theorem rcv_f (s:List Nat):rcv .find (.str s)=true:=rfl
theorem rcv_s (s:List Nat):rcv .split (.str s)=true:=rfl
theorem rcv_j (s:List Nat):rcv .join (.str s)=true:=rfl
theorem rcv_i (l:List D):rcv .index (.lst l)=true:=rfl
theorem v_mul {a b:Int} (h:a.natAbs < 4294967296) (h':b.natAbs < 4294967296):bop .mul (.int a) (.int b)=some (.int (a * b),.pl):=by rw [b_mul,if_pos ⟨h,h'⟩]
theorem v_fdiv {a b:Int} (h:0 < b) (h':b.natAbs.log2 < 9000):bop .fdiv (.int a) (.int b)=some (.int (a / b),.pl):=by rw [b_fdiv,if_pos ⟨h,h'⟩]
theorem v_fmod {a b:Int} (h:0 < b):bop .fmod (.int a) (.int b)=some (.int (a % b),.pl):=by rw [b_fmod,if_pos h]
theorem v_adds {a b:List Nat} (h:a.length + b.length≤big):bop .add (.str a) (.str b)=some (.str (a ++ b),.pl):=by rw [b_adds,if_pos h]
theorem v_lens {s:List Nat} (h:s.length≤big):fn1 .len (.str s)=some (.int s.length):=by rw [f_lens,if_pos h]
theorem v_lenl {l:List D} (h:l.length≤big):fn1 .len (.lst l)=some (.int l.length):=by rw [f_lenl,if_pos h]
theorem v_str {i:Int} (h:0≤i) (h':i < 10000000000):fn1 .str (.int i)=some (.str (dec i.toNat)):=by rw [f_str,if_pos ⟨h,h'⟩]
section
variable (Φ:Nat→List D→Ev (D×Kd)) (σ:Sg) (a b c:X)
theorem e_non:ev Φ .non σ=Ev.ok (.none,.pl):=rfl
theorem e_lit (d:D):ev Φ (.lit d) σ=Ev.ok (d,.pl):=rfl
theorem e_var (i:Nat):ev Φ (.var i) σ=match σ i with
 | some ⟨d,false⟩=>Ev.ok (d,.pl)
 | some ⟨d,true⟩=>Ev.ok (d,.bo)
 | Option.none=>Option.none:=rfl
theorem e_bin (o:Bop):ev Φ (.bin o a b) σ=(ev Φ a σ).bind fun x=>(ev Φ b σ).bind fun y=>if x.2.isTr || y.2.isTr then Option.none else Ev.of (bop o x.1 y.1):=rfl
theorem e_neg:ev Φ (.neg a) σ=(ev Φ a σ).bind fun x=>match x.1 with
 | .int i=>Ev.ok (.int (-i),.pl)
 | _=>Option.none:=rfl
theorem e_cmp (o:Cop):ev Φ (.cmp o a b) σ=(ev Φ a σ).bind fun x=>(ev Φ b σ).bind fun y=>(Ev.of (cop o x.1 y.1)).bind fun r=>Ev.ok (.bool r,.pl):=rfl
theorem e_cmp2 (o u:Cop):ev Φ (.cmp2 o u a b c) σ=(ev Φ a σ).bind fun x=>(ev Φ b σ).bind fun y=>(Ev.of (cop o x.1 y.1)).bind fun r=>
   if r then (ev Φ c σ).bind fun z=>(Ev.of (cop u y.1 z.1)).bind fun q=>Ev.ok (.bool q,.pl) else Ev.ok (.bool false,.pl):=rfl
theorem e_not:ev Φ (.not a) σ=(ev Φ a σ).bind fun x=>(Ev.of (asB x.1)).bind fun r=>Ev.ok (.bool (!r),.pl):=rfl
theorem e_and:ev Φ (.and a b) σ=(ev Φ a σ).bind fun x=>(Ev.of (asB x.1)).bind fun r=>if r then (ev Φ b σ).bind fun y=>(Ev.of (asB y.1)).bind fun q=>Ev.ok (.bool q,.pl) else Ev.ok (.bool false,.pl):=rfl
theorem e_or:ev Φ (.or a b) σ=(ev Φ a σ).bind fun x=>(Ev.of (asB x.1)).bind fun r=>if r then Ev.ok (.bool true,.pl) else (ev Φ b σ).bind fun y=>(Ev.of (asB y.1)).bind fun q=>Ev.ok (.bool q,.pl):=rfl
theorem e_ite:ev Φ (.ite c a b) σ=(ev Φ c σ).bind fun x=>(Ev.of (asB x.1)).bind fun r=>if r then ev Φ a σ else ev Φ b σ:=rfl
theorem e_call (f:Nat) (l:List X):ev Φ (.call f l) σ=(evs Φ l σ).bind fun xs=>(Φ f (xs.map (·.1))).bind fun r=>if xs.all (fun x=>x.2.sto) then Ev.ok r else if scal r.1 then Ev.ok (r.1,.pl) else Ev.ok (r.1,.tr):=rfl
theorem e_fn1 (f:Fn):ev Φ (.fn1 f a) σ=(ev Φ a σ).bind fun x=>(Ev.of (fn1 f x.1)).bind fun r=>Ev.ok (r,.pl):=rfl
theorem e_fn2 (f:Fn):ev Φ (.fn2 f a b) σ=(ev Φ a σ).bind fun x=>(ev Φ b σ).bind fun y=>(Ev.of (fn2 f x.1 y.1)).bind fun r=>Ev.ok (r,.pl):=rfl
theorem e_mth (m:Mt):ev Φ (.mth m a b) σ=(ev Φ a σ).bind fun x=>if rcv m x.1 then (ev Φ b σ).bind fun y=>Ev.of (mth m x.1 y.1) else Option.none:=rfl
theorem e_idx:ev Φ (.idx a b) σ=(ev Φ a σ).bind fun x=>(ev Φ b σ).bind fun y=>if x.2.isTr then Option.none else (Ev.of (sub x.1 y.1)).bind fun r=>Ev.ok (r,.pl):=rfl
theorem e_slc:ev Φ (.slc a b c) σ=(ev Φ a σ).bind fun x=>(ev Φ b σ).bind fun y=>(ev Φ c σ).bind fun z=>if x.2.isTr then Option.none else Ev.of (slc x.1 y.1 z.1):=rfl
theorem e_tup (l:List X):ev Φ (.tup l) σ=(evs Φ l σ).bind fun xs=>(Ev.of (xs.mapM frz)).bind fun ds=>Ev.ok (.tup ds,.pl):=rfl
theorem e_lst (l:List X):ev Φ (.lst l) σ=(evs Φ l σ).bind fun xs=>(Ev.of (xs.mapM frz)).bind fun ds=>Ev.ok (.lst ds,.fr):=rfl
theorem e_comp (v:Nat) (r:Bool):ev Φ (.comp a v r b c) σ=(ev Φ b σ).bind fun x=>if x.2.isTr then Option.none else
   (Ev.of (if r then (match x.1 with | .int n=>rangeD 0 n | _=>Option.none) else items x.1)).bind fun ds=>
   (compGo (fun d=>(if isNon c then Ev.ok true else (ev Φ c (upd σ v ⟨d,false⟩)).bind fun c=>Ev.of (asB c.1)).bind fun ok=>
    if ok then (ev Φ a (upd σ v ⟨d,false⟩)).bind fun r=>(Ev.of (frz r)).bind fun y=>Ev.ok (some y) else Ev.ok Option.none) ds).calm.bind fun ys=>
   Ev.ok (.lst ys,.fr):=rfl
theorem cg_nil (f:D→Ev (Option D)):compGo f []=Ev.ok []:=rfl
theorem cg_cons (f:D→Ev (Option D)) (d:D) (l:List D):compGo f (d :: l)=(f d).bind fun o=>(compGo f l).bind fun r=>Ev.ok (match o with | some x=>x :: r | Option.none=>r):=rfl
theorem e_nil:evs Φ [] σ=Ev.ok []:=rfl
theorem e_cons (l:List X):evs Φ (a :: l) σ=(ev Φ a σ).bind fun a=>(evs Φ l σ).bind fun l=>Ev.ok (a :: l):=rfl
theorem x_asg (i:Nat):ex Φ (.asg i a) σ=(ev Φ a σ).bind fun r=>match r.2 with
  | .pl=>Ev.ok (.next,upd σ i ⟨r.1,false⟩)
  | .fr=>Ev.ok (.next,upd σ i ⟨r.1,true⟩)
  | .bo=>(Ev.of (handOn a .bo σ)).bind fun σ'=>Ev.ok (.next,upd σ' i ⟨r.1,false⟩)
  | .tr=>Option.none:=rfl
theorem x_asgT (i:List Nat):ex Φ (.asgT i a) σ=(ev Φ a σ).bind fun r=>match r with
  | (.tup ds,.pl)=>(Ev.of (bindAll i ds σ)).bind fun σ'=>Ev.ok (.next,σ')
  | _=>Option.none:=rfl
theorem x_setI (i:Nat):ex Φ (.setI i a b) σ=match σ i with
  | some ⟨.lst ds,true⟩=>(ev Φ b σ).bind fun r=>(ev Φ a σ).bind fun k=>(Ev.of (frz r)).bind fun d=>match k.1 with
   | .int n=>if 0≤n∧n < ds.length∧ds.length≤big then Ev.ok (.next,upd σ i ⟨.lst (ds.set n.toNat d),true⟩) else Option.none
   | _=>Option.none
  | _=>Option.none:=rfl
theorem x_app (i:Nat):ex Φ (.app i a) σ=match σ i with
  | some ⟨.lst ds,true⟩=>(ev Φ a σ).bind fun r=>(Ev.of (frz r)).bind fun d=>if ds.length < big then Ev.ok (.next,upd σ i ⟨.lst (ds ++ [d]),true⟩) else Option.none
  | _=>Option.none:=rfl
theorem x_ret:ex Φ (.ret a) σ=match a with
  | .var j=>(match σ j with
   | some ⟨d,true⟩=>Ev.ok (.ret d .fr,σ)
   | some ⟨d,false⟩=>Ev.ok (.ret d .pl,σ)
   | Option.none=>Option.none)
  | a=>(ev Φ a (frzAll σ)).bind fun r=>if r.2.sto then Ev.ok (.ret r.1 r.2,frzAll σ) else Option.none:=by cases a <;> rfl
theorem x_iff (l m:List St):ex Φ (.iff c l m) σ=(ev Φ c σ).bind fun x=>(Ev.of (asB x.1)).bind fun r=>if r then exs Φ l σ else exs Φ m σ:=rfl
theorem x_forE (i:Nat) (l:List St):ex Φ (.forE i a l) σ=(ev Φ a σ).bind fun r=>(Ev.of (handOn a r.2 σ)).bind fun σ'=>(Ev.of (items r.1)).bind fun ds=>
   forGo (fun d σ=>exs Φ l (upd σ i ⟨d,false⟩)) ds σ':=rfl
theorem x_forT (i:List Nat) (l:List St):ex Φ (.forT i a l) σ=(ev Φ a σ).bind fun r=>(Ev.of (handOn a r.2 σ)).bind fun σ'=>(Ev.of (items r.1)).bind fun ds=>
   forGo (fun d σ=>match d with
    | .tup xs=>(Ev.of (bindAll i xs σ)).bind fun σ''=>exs Φ l σ''
    | _=>Option.none) ds σ':=rfl
theorem n_non:isNon .non=true:=rfl
theorem n_cmp (o:Cop):isNon (.cmp o a b)=false:=rfl
theorem n_var (i:Nat):isNon (.var i)=false:=rfl
theorem x_forR (i:Nat) (l:List St):ex Φ (.forR i a b l) σ=(if isNon a then Ev.ok (.int 0,.pl) else ev Φ a σ).bind fun x=>(ev Φ b σ).bind fun y=>
   (Ev.of (match x.1,y.1 with
    | .int m,.int n=>rangeD m n
    | _,_=>Option.none)).bind fun ds=>forGo (fun d σ=>exs Φ l (upd σ i ⟨d,false⟩)) ds σ:=rfl
theorem x_whil (l:List St):ex Φ (.whil c l) σ=whileGo (fun σ=>(ev Φ c σ).bind fun x=>Ev.of (asB x.1)) (fun σ=>exs Φ l σ) 100 σ:=rfl
theorem x_cont:ex Φ .cont σ=Ev.ok (.cont,σ):=rfl
theorem s_nil:exs Φ [] σ=Ev.ok (.next,σ):=rfl
theorem s_cons (s:St) (l:List St):exs Φ (s :: l) σ=(ex Φ s σ).bind fun x=>match x.1 with
  | .next=>exs Φ l x.2
  | _=>Ev.ok x:=rfl
end
theorem land7 (n:Nat):n &&& 7=n % 8:=Nat.and_two_pow_sub_one_eq_mod n 3
theorem land63 (n:Nat):n &&& 63=n % 64:=Nat.and_two_pow_sub_one_eq_mod n 6
theorem land3 (n:Nat):n &&& 3=n % 4:=Nat.and_two_pow_sub_one_eq_mod n 2
theorem il63 (a:Int) (h:0≤a):((a.toNat % 64:Nat):Int)=a % 64:=by exact li7 (.n (a.toNat % 64) (.z (a % 64) (.z a (.n (a.toNat / 64) (.n (a.toNat) (.z (a / 64) .o)))))) (nat_lit 0x1f7df7df7df6245635d1400113a10004956953a1000475c6d00275d00257189559d695001a4500044e64001276124e840012591b9d18d39900045a5400) h (lmo (a.toNat) (64)).2 (lmi (a) (64)).2.2 (ldn (a.toNat) (64)).2 (ltn (a)) (ldi (a) (64)).1 (ldi (a) (64)).2
theorem il7 (a:Int) (h:0≤a):((a.toNat % 8:Nat):Int)=a % 8:=by exact li7 (.n (a.toNat % 8) (.z (a % 8) (.z a (.n (a.toNat / 8) (.n (a.toNat) (.z (a / 8) .o)))))) (nat_lit 0x7df7df7df7d89158d7450213a102255a54e840875c6d00275d00257189559d695001a4502139902276124e84089646e74634e64085a5400) h (lmo (a.toNat) (8)).2 (lmi (a) (8)).2.2 (ldn (a.toNat) (8)).2 (ltn (a)) (ldi (a) (8)).1 (ldi (a) (8)).2
theorem il3 (a:Int) (h:0≤a):((a.toNat % 4:Nat):Int)=a % 4:=by exact li7 (.n (a.toNat % 4) (.z (a % 4) (.z a (.n (a.toNat / 4) (.n (a.toNat) (.z (a / 4) .o)))))) (nat_lit 0x7df7df7df7d89158d7450113a101255a54e840475c6d00275d00257189559d695001a4501139901276124e84049646e74634e64045a5400) h (lmo (a.toNat) (4)).2 (lmi (a) (4)).2.2 (ldn (a.toNat) (4)).2 (ltn (a)) (ldi (a) (4)).1 (ldi (a) (4)).2
theorem s_kind_of (k:Nat) (a:Int) (h:0≤a):callX tab (k+1) f_kind_of [.int a]=Ev.ok (.int (a % 8),.pl):=by
 show runF (callX tab k) p_kind_of [.int a]=_
 simp [b_band,tr_pl,sto_pl,e_lit,e_var,e_bin,x_ret,s_nil,s_cons,runF,start,frzAll,Ev.bind_ok,Ev.of_some,p_kind_of,h,land7,Int.max_eq_left h]
theorem s_is_piece (k:Nat) (a:Int) (h:1≤a) (h':a≤6):callX tab (k+1) f_is_piece [.int a]=Ev.ok (.bool true,.pl):=by
 show runF (callX tab k) p_is_piece [.int a]=_
 have:0 < a∧a < 15∧a≠7∧a≠8:=by exact li2 (.z a .o) (nat_lit 0x1f7dc71c7984088de6101e35d03e35e34005901a35a3401) h h'
 have hh:=fun r:Ev (D×Kd)=>ai (asb_t this.1) (ai (asb_t this.2.1) (ai (asb_nf this.2.2.1) (Eq.refl r)))
 exact Eq.trans (fun_eq (r:=(D.bool !decide (a=8),Kd.pl)) [.b true,.b true,.b true] rfl (hh _)) (by simp [this])
theorem s_move_from (k:Nat) (a:Int) (h:0≤a):callX tab (k+1) f_move_from [.int a]=Ev.ok (.int (a / 64 % 64),.pl):=by
 show runF (callX tab k) p_move_from [.int a]=_
 have:0≤a / 64:=by exact li2 (.z (a / 64) (.z a .o)) (nat_lit 0x1f7d68d00174500044e34001245a4400) h (ldi (a) (64)).2
 simp [b_shr,b_band,tr_pl,sto_pl,e_lit,e_var,e_bin,x_ret,s_nil,s_cons,runF,start,frzAll,Ev.bind_ok,Ev.of_some,p_move_from,h,this,land63,Int.max_eq_left this]
theorem s_move_to (k:Nat) (a:Int) (h:0≤a):callX tab (k+1) f_move_to [.int a]=Ev.ok (.int (a % 64),.pl):=by
 show runF (callX tab k) p_move_to [.int a]=_
 have hh:=fun r:Ev (D×Kd)=>ai (show bop Bop.band (D.int a) (D.int 63)=some (D.int (a % 64),Kd.pl) by simp [b_band,h,land63,Int.max_eq_left h]) (Eq.refl r)
 exact fun_eq [.d _ _] rfl (hh _)
theorem s_move_special (k:Nat) (a:Int) (h:0≤a):callX tab (k+1) f_move_special [.int a]=Ev.ok (.int (a / 16384 % 4),.pl):=by
 show runF (callX tab k) p_move_special [.int a]=_
 have:0≤a / 16384:=by exact li2 (.z (a / 16384) (.z a .o)) (nat_lit 0x1f7d68d00174500000044e34000001245a4400) h (ldi (a) (16384)).2
 simp [b_shr,b_band,tr_pl,sto_pl,e_lit,e_var,e_bin,x_ret,s_nil,s_cons,runF,start,frzAll,Ev.bind_ok,Ev.of_some,p_move_special,h,this,land3,Int.max_eq_left this]
theorem s_move_promo (k:Nat) (a:Int) (h:0≤a):callX tab (k+1) f_move_promo [.int a]=Ev.ok (.int (if a / 16384 % 4=1 then a / 4096 % 4 + 2 else 0),.pl):=by
 show runF (callX tab k) p_move_promo [.int a]=_
 have h1:0≤a / 16384:=by exact li2 (.z (a / 16384) (.z a .o)) (nat_lit 0x1f7d68d00174500000044e34000001245a4400) h (ldi (a) (16384)).2
 have h2:0≤a / 4096:=by exact li2 (.z (a / 4096) (.z a .o)) (nat_lit 0x1f7d68d00174500000014e34000000645a4400) h (ldi (a) (4096)).2
 have h3:max (a / 16384) 0=a / 16384:=by exact li2 (.z (max (a / 16384) 0) (.z (a / 16384) .o)) (nat_lit 0x1f7d892375c6248d791001c6100235900245a4400) h1 (lmx (a / 16384) (0))
 have h4:max (a / 4096) 0=a / 4096:=by exact li2 (.z (max (a / 4096) 0) (.z (a / 4096) .o)) (nat_lit 0x1f7d892375c6248d791001c6100235900245a4400) h2 (lmx (a / 4096) (0))
 by_cases hc:a / 16384 % 4=1
 ·have hh:=fun r:Ev (D×Kd)=>ai (show bop Bop.shr (D.int a) (D.int 14)=some (D.int (a / 16384),Kd.pl) by simp [b_shr,h]) (ai (show bop Bop.band (D.int (a / 16384)) (D.int 3)=some (D.int 1,Kd.pl) by simp [b_band,h1,h3,land3,hc]) (ai rf (ai (show bop Bop.shr (D.int a) (D.int 12)=some (D.int (a / 4096),Kd.pl) by simp [b_shr,h]) (ai (show bop Bop.band (D.int (a / 4096)) (D.int 3)=some (D.int (a / 4096 % 4),Kd.pl) by simp [b_band,h2,h4,land3]) (Eq.refl r)))))
  exact Eq.trans (fun_eq (r:=(D.int (a / 4096 % 4 + 2),Kd.pl)) [.d _ _,.d _ _,.b false,.d _ _,.d _ _] rfl (hh _)) (by simp [hc])
 ·have hh:=fun r:Ev (D×Kd)=>ai (show bop Bop.shr (D.int a) (D.int 14)=some (D.int (a / 16384),Kd.pl) by simp [b_shr,h]) (ai (show bop Bop.band (D.int (a / 16384)) (D.int 3)=some (D.int (a / 16384 % 4),Kd.pl) by simp [b_band,h1,h3,land3]) (ai (asb_nf hc) (Eq.refl r)))
  exact Eq.trans (fun_eq (r:=(D.int 0,Kd.pl)) [.d _ _,.d _ _,.b true] rfl (hh _)) (by simp [hc])
structure Mv where
 o:Int
 t:Int
 s:Int
 p:Int
noncomputable def Mv.d (m:Mv):D:=.tup [.int m.o,.int m.t,.int m.s,.int m.p]
noncomputable def Mv.num (m:Mv):Int:=m.t + 64 * m.o + 16384 * m.s + (if m.s=1 then 4096 * (m.p - 2) else 0)
noncomputable def Shp (w h:Int):Prop:=(w=4∧h=4)∨(w=5∧h=5)∨(w=7∧h=3)∨(w=6∧h=4)
noncomputable def cv (cs:List Int) (i:Int):Int:=cs.getD i.toNat 0
noncomputable def Code (c:Int):Prop:=(1≤c∧c≤6)∨(9≤c∧c≤14)
structure MvOk (n:Int) (cs:List Int) (m:Mv):Prop where
 o0:0≤m.o
 o1:m.o < n
 t0:0≤m.t
 t1:m.t < n
 n1:n≤25
 len:(cs.length:Int)=n
 sp:(m.s=0∧m.p=0)∨(m.s=1∧2≤m.p∧m.p≤5)∨(m.s=2∧m.p=0)∨(m.s=3∧m.p=0)
 code:Code (cv cs m.o)
theorem sub_ints {cs:List Int} {i:Int} (h0:0≤i) (h1:i < cs.length) (h2:cs.length≤100):sub (.lst (cs.map .int)) (.int i)=some (.int (cv cs i)):=by
 have:i.toNat < cs.length:=by exact li3 (.n (i.toNat) (.n (cs.length) (.z i .o))) (nat_lit 0x1f7df6a48dd71b4008d740095c6255635a54005d59255a5400) h0 h1 (ltn (i))
 have h3:i < 1000000000:=by exact li2 (.z i (.n (cs.length) .o)) (nat_lit 0x7df5d000028c2892c38d94041a45d5923) h1 h2
 simp [sub,idxD,h0,h3,cv,List.getD,this]
theorem num_nn {n cs m} (h:MvOk n cs m):0≤m.num:=by
 have:=h.o0;have:=h.t0
 rcases h.sp with ⟨a,b⟩ | ⟨a,b,c⟩ | ⟨a,b⟩ | ⟨a,b⟩ <;> simp [Mv.num,a];exact li2 (.z (m.t) (.z (m.o) .o)) (nat_lit 0x7df5914e44001234005a34005a4400) (show 0≤m.o by assumption) this;exact li3 (.z (m.t) (.z (m.o) (.z (m.p) .o))) (nat_lit 0x7df7d64534900a54000000514000001114e44001234005a54025a34005a4400) (show 0≤m.o by assumption) this b;exact li2 (.z (m.t) (.z (m.o) .o)) (nat_lit 0x7df5914000002114e44001234005a34005a4400) (show 0≤m.o by assumption) this;exact li2 (.z (m.t) (.z (m.o) .o)) (nat_lit 0x7df5914000003114e44001234005a34005a4400) (show 0≤m.o by assumption) this
theorem num_o {n cs m} (h:MvOk n cs m):m.num / 64 % 64=m.o:=by
 have:=h.o0;have:=h.t0;have:=h.o1;have:=h.t1;have:=h.n1
 rcases h.sp with ⟨a,b⟩ | ⟨a,b,c⟩ | ⟨a,b⟩ | ⟨a,b⟩ <;> simp [Mv.num,a];exact li10 (.z ((m.t + 64 * m.o) / 64 % 64) (.z (m.o) (.z (m.t) (.z n (.z ((m.t + 64 * m.o) / 64) (.z ((m.t + 64 * m.o) / 64 / 64) .o)))))) (nat_lit 0x1f7df7df7df7df7d89235d1400113a100049d69d3a100045d14001139d00044539100049564539100049539d00046124e84001278d64090665e69579a45a54005a4400) (show 0≤m.o by assumption) (show 0≤m.t by assumption) (show m.o < n by assumption) (show m.t < n by assumption) this (lmi ((m.t + 64 * m.o) / 64) (64)).2.2 (ldi (m.t + 64 * m.o) (64)).1 (ldi (m.t + 64 * m.o) (64)).2 (ldi ((m.t + 64 * m.o) / 64) (64)).1 (ldi ((m.t + 64 * m.o) / 64) (64)).2;exact li10 (.z ((m.t + 64 * m.o + 16384 + 4096 * (m.p - 2)) / 64 % 64) (.z (m.o) (.z (m.t) (.z n (.z ((m.t + 64 * m.o + 16384 + 4096 * (m.p - 2)) / 64) (.z ((m.t + 64 * m.o + 16384 + 4096 * (m.p - 2)) / 64 / 64) (.z (m.p) .o))))))) (nat_lit 0x1f7df7df7df7df7d89235d1400113a100049d69d3a100045d14001139d00044534900a94000000514000001114e44001255914d2402a500000014500000044539100049539d00046124e84001278d64090665e69579a45a54005a4400) (show 0≤m.o by assumption) (show 0≤m.t by assumption) (show m.o < n by assumption) (show m.t < n by assumption) this (lmi ((m.t + 64 * m.o + 16384 + 4096 * (m.p - 2)) / 64) (64)).2.2 (ldi (m.t + 64 * m.o + 16384 + 4096 * (m.p - 2)) (64)).1 (ldi (m.t + 64 * m.o + 16384 + 4096 * (m.p - 2)) (64)).2 (ldi ((m.t + 64 * m.o + 16384 + 4096 * (m.p - 2)) / 64) (64)).1 (ldi ((m.t + 64 * m.o + 16384 + 4096 * (m.p - 2)) / 64) (64)).2;exact li10 (.z ((m.t + 64 * m.o + 32768) / 64 % 64) (.z (m.o) (.z (m.t) (.z n (.z ((m.t + 64 * m.o + 32768) / 64) (.z ((m.t + 64 * m.o + 32768) / 64 / 64) .o)))))) (nat_lit 0x1f7df7df7df7df7d89235d1400113a100049d69d3a100045d14001139d00044500000084539100049564500000084539100049539d00046124e84001278d64090665e69579a45a54005a4400) (show 0≤m.o by assumption) (show 0≤m.t by assumption) (show m.o < n by assumption) (show m.t < n by assumption) this (lmi ((m.t + 64 * m.o + 32768) / 64) (64)).2.2 (ldi (m.t + 64 * m.o + 32768) (64)).1 (ldi (m.t + 64 * m.o + 32768) (64)).2 (ldi ((m.t + 64 * m.o + 32768) / 64) (64)).1 (ldi ((m.t + 64 * m.o + 32768) / 64) (64)).2;exact li10 (.z ((m.t + 64 * m.o + 49152) / 64 % 64) (.z (m.o) (.z (m.t) (.z n (.z ((m.t + 64 * m.o + 49152) / 64) (.z ((m.t + 64 * m.o + 49152) / 64 / 64) .o)))))) (nat_lit 0x1f7df7df7df7df7d89235d1400113a100049d69d3a100045d14001139d000445000000c45391000495645000000c4539100049539d00046124e84001278d64090665e69579a45a54005a4400) (show 0≤m.o by assumption) (show 0≤m.t by assumption) (show m.o < n by assumption) (show m.t < n by assumption) this (lmi ((m.t + 64 * m.o + 49152) / 64) (64)).2.2 (ldi (m.t + 64 * m.o + 49152) (64)).1 (ldi (m.t + 64 * m.o + 49152) (64)).2 (ldi ((m.t + 64 * m.o + 49152) / 64) (64)).1 (ldi ((m.t + 64 * m.o + 49152) / 64) (64)).2
theorem num_t {n cs m} (h:MvOk n cs m):m.num % 64=m.t:=by
 have:=h.o0;have:=h.t0;have:=h.o1;have:=h.t1;have:=h.n1
 rcases h.sp with ⟨a,b⟩ | ⟨a,b,c⟩ | ⟨a,b⟩ | ⟨a,b⟩ <;> simp [Mv.num,a];exact li6 (.z (m.t % 64) (.z (m.t) (.z n (.z (m.t / 64) .o)))) (nat_lit 0x7df7df7df6248d74500044e64001245a44e64001184939900049235902419579645a4400) (show 0≤m.t by assumption) (show m.t < n by assumption) this (lmi (m.t) (64)).2.2 (ldi (m.t) (64)).1 (ldi (m.t) (64)).2;exact li6 (.z ((m.t + 64 * m.o + 16384 + 4096 * (m.p - 2)) % 64) (.z (m.t) (.z n (.z (m.o) (.z (m.p) (.z ((m.t + 64 * m.o + 16384 + 4096 * (m.p - 2)) / 64) .o)))))) (nat_lit 0x1f7df7df7d89235d1400113a100044534900a74000000514000001114e64001245914d24029d0000001450000004453990004913a100046124e84001114d24029d00000014500000044539900049235902419579645a4400) (show 0≤m.t by assumption) (show m.t < n by assumption) this (lmi (m.t + 64 * m.o + 16384 + 4096 * (m.p - 2)) (64)).2.2 (ldi (m.t + 64 * m.o + 16384 + 4096 * (m.p - 2)) (64)).1 (ldi (m.t + 64 * m.o + 16384 + 4096 * (m.p - 2)) (64)).2;exact li6 (.z ((m.t + 64 * m.o + 32768) % 64) (.z (m.t) (.z n (.z (m.o) (.z ((m.t + 64 * m.o + 32768) / 64) .o))))) (nat_lit 0x7df7df7df6248d74500044e74001114000002114e64001245914000002114e64001244e74001184939d00044500000084539900049235902419579645a4400) (show 0≤m.t by assumption) (show m.t < n by assumption) this (lmi (m.t + 64 * m.o + 32768) (64)).2.2 (ldi (m.t + 64 * m.o + 32768) (64)).1 (ldi (m.t + 64 * m.o + 32768) (64)).2;exact li6 (.z ((m.t + 64 * m.o + 49152) % 64) (.z (m.t) (.z n (.z (m.o) (.z ((m.t + 64 * m.o + 49152) / 64) .o))))) (nat_lit 0x7df7df7df6248d74500044e74001114000003114e64001245914000003114e64001244e74001184939d000445000000c4539900049235902419579645a4400) (show 0≤m.t by assumption) (show m.t < n by assumption) this (lmi (m.t + 64 * m.o + 49152) (64)).2.2 (ldi (m.t + 64 * m.o + 49152) (64)).1 (ldi (m.t + 64 * m.o + 49152) (64)).2
theorem num_s {n cs m} (h:MvOk n cs m):m.num / 16384 % 4=m.s:=by
 have:=h.o0;have:=h.t0;have:=h.o1;have:=h.t1;have:=h.n1
 rcases h.sp with ⟨a,b⟩ | ⟨a,b,c⟩ | ⟨a,b⟩ | ⟨a,b⟩ <;> simp [Mv.num,a];exact li10 (.z ((m.t + 64 * m.o) / 16384 % 4) (.z (m.o) (.z (m.t) (.z n (.z ((m.t + 64 * m.o) / 16384) (.z ((m.t + 64 * m.o) / 16384 / 4) .o)))))) (nat_lit 0x7df7df7df7df7df6100235d14044e84049d69d3a101174500000044e74000001114e44001255914e44001254e7400000118493a101278d64090665e69579a45a54005a4400) (show 0≤m.o by assumption) (show 0≤m.t by assumption) (show m.o < n by assumption) (show m.t < n by assumption) this (lmi ((m.t + 64 * m.o) / 16384) (4)).2.2 (ldi (m.t + 64 * m.o) (16384)).1 (ldi (m.t + 64 * m.o) (16384)).2 (ldi ((m.t + 64 * m.o) / 16384) (4)).1 (ldi ((m.t + 64 * m.o) / 16384) (4)).2;omega;exact li10 (.z ((m.t + 64 * m.o + 32768) / 16384 % 4) (.z (m.o) (.z (m.t) (.z n (.z ((m.t + 64 * m.o + 32768) / 16384) (.z ((m.t + 64 * m.o + 32768) / 16384 / 4) .o)))))) (nat_lit 0x7df7df7df7df7df6100a35d14044e84049d69d3a101174500000044e74000001114000002114e44001255914000002114e44001254e7400000118493a101278d64090665e69579a45a54005a4400) (show 0≤m.o by assumption) (show 0≤m.t by assumption) (show m.o < n by assumption) (show m.t < n by assumption) this (lmi ((m.t + 64 * m.o + 32768) / 16384) (4)).2.2 (ldi (m.t + 64 * m.o + 32768) (16384)).1 (ldi (m.t + 64 * m.o + 32768) (16384)).2 (ldi ((m.t + 64 * m.o + 32768) / 16384) (4)).1 (ldi ((m.t + 64 * m.o + 32768) / 16384) (4)).2;exact li10 (.z ((m.t + 64 * m.o + 49152) / 16384 % 4) (.z (m.o) (.z (m.t) (.z n (.z ((m.t + 64 * m.o + 49152) / 16384) (.z ((m.t + 64 * m.o + 49152) / 16384 / 4) .o)))))) (nat_lit 0x7df7df7df7df7df6100e35d14044e84049d69d3a101174500000044e74000001114000003114e44001255914000003114e44001254e7400000118493a101278d64090665e69579a45a54005a4400) (show 0≤m.o by assumption) (show 0≤m.t by assumption) (show m.o < n by assumption) (show m.t < n by assumption) this (lmi ((m.t + 64 * m.o + 49152) / 16384) (4)).2.2 (ldi (m.t + 64 * m.o + 49152) (16384)).1 (ldi (m.t + 64 * m.o + 49152) (16384)).2 (ldi ((m.t + 64 * m.o + 49152) / 16384) (4)).1 (ldi ((m.t + 64 * m.o + 49152) / 16384) (4)).2
theorem num_p {n cs m} (h:MvOk n cs m):(if m.s=1 then m.num / 4096 % 4 + 2 else 0)=m.p:=by
 have:=h.o0;have:=h.t0;have:=h.o1;have:=h.t1;have:=h.n1
 rcases h.sp with ⟨a,b⟩ | ⟨a,b,c⟩ | ⟨a,b⟩ | ⟨a,b⟩ <;> simp [Mv.num,a];exact li1 (.z (m.p) .o) (nat_lit 8833699762208803) b;omega;exact li1 (.z (m.p) .o) (nat_lit 8833699762208803) b;exact li1 (.z (m.p) .o) (nat_lit 8833699762208803) b
theorem m_from (k:Nat) {n cs m} (h:MvOk n cs m):callX tab (k+1) f_move_from [.int m.num]=Ev.ok (.int m.o,.pl):=by
 rw [s_move_from _ _ (num_nn h),num_o h]
theorem m_to (k:Nat) {n cs m} (h:MvOk n cs m):callX tab (k+1) f_move_to [.int m.num]=Ev.ok (.int m.t,.pl):=by
 rw [s_move_to _ _ (num_nn h),num_t h]
theorem m_special (k:Nat) {n cs m} (h:MvOk n cs m):callX tab (k+1) f_move_special [.int m.num]=Ev.ok (.int m.s,.pl):=by
 rw [s_move_special _ _ (num_nn h),num_s h]
theorem m_promo (k:Nat) {n cs m} (h:MvOk n cs m):callX tab (k+1) f_move_promo [.int m.num]=Ev.ok (.int m.p,.pl):=by
 rw [s_move_promo _ _ (num_nn h),num_s h,num_p h]
theorem s_law_number (k:Nat) {n cs m} (h:MvOk n cs m):callX tab (k+1) f_law_number [m.d]=Ev.ok (.int m.num,.pl):=by
 have:=h.o0;have:=h.t0;have:=h.o1;have:=h.t1;have:=h.n1
 have h1:m.o.natAbs < 4294967296:=by exact li4 (.n (m.o.natAbs) (.z (m.o) (.z n .o))) (nat_lit 0x7df7df69000000000000006375c6149158d740091c6245635a44005902419579645a4400) (show 0≤m.o by assumption) (show m.o < n by assumption) this (lab (m.o))
 have h2:(m.p - 2).natAbs < 4294967296:=by have:=h.sp;exact li2 (.n ((m.p - 2).natAbs) (.z (m.s) (.z (m.p) .o))) (nat_lit 0x7df69000000000000006375c6144900a55635d001240295c6124029558d64900a540075d75c6100256100e471840095840291c71640595695009840191c610025610024) this (lab (m.p - 2))
 show runF (callX tab k) p_law_number [m.d]=_
 rcases h.sp with ⟨a,b⟩ | ⟨a,b,c⟩ | ⟨a,b⟩ | ⟨a,b⟩ <;> (first | (have hh:=fun r:Ev (D×Kd)=>ai (Eq.refl (some (D.int m.t:D))) (ai (Eq.refl (some (D.int m.o:D))) (ai (@v_mul (64) (m.o) (by decide) h1) (ai (Eq.refl (some (D.int m.s:D))) (ai (show bop Bop.mul (D.int 16384) (D.int m.s)=some (D.int (16384 * 0),Kd.pl) from by rw [← a];exact(@v_mul (16384) (m.s) (by decide) (li2 (.n (m.s.natAbs) (.z (m.s) .o)) (nat_lit 0x7df69000000000000006375c6149158d740091c6245635a4400610024) a (lab (m.s))))) (ai (Eq.refl (some (D.int m.s:D))) (ai (asb_f (show ¬ (m.s=1) from(li1 (.z (m.s) .o) (nat_lit 0x7de610063610023) a))) (Eq.refl r)))))));exact Eq.trans (fun_eq (r:=(D.int (m.t + 64 * m.o + 16384 * 0),Kd.pl)) [.v _,.v _,.d _ _,.v _,.d _ _,.v _,.b false] rfl (hh _)) (by simp [Mv.num,a])) | (have hh:=fun r:Ev (D×Kd)=>ai (Eq.refl (some (D.int m.t:D))) (ai (Eq.refl (some (D.int m.o:D))) (ai (@v_mul (64) (m.o) (by decide) h1) (ai (Eq.refl (some (D.int m.s:D))) (ai (show bop Bop.mul (D.int 16384) (D.int m.s)=some (D.int (16384 * 1),Kd.pl) from by rw [← a];exact(@v_mul (16384) (m.s) (by decide) (li2 (.n (m.s.natAbs) (.z (m.s) .o)) (nat_lit 0x7df69000000000000006375c6149158d740091c6245635a4400610064) a (lab (m.s))))) (ai (Eq.refl (some (D.int m.s:D))) (ai (asb_t a) (ai (Eq.refl (some (D.int m.p:D))) (ai (@v_mul (4096) (m.p - 2) (by decide) h2) (Eq.refl r)))))))));exact Eq.trans (fun_eq (r:=(D.int (m.t + 64 * m.o + 16384 * 1 + 4096 * (m.p - 2)),Kd.pl)) [.v _,.v _,.d _ _,.v _,.d _ _,.v _,.b true,.v _,.d _ _] rfl (hh _)) (by simp [Mv.num,a])) | (have hh:=fun r:Ev (D×Kd)=>ai (Eq.refl (some (D.int m.t:D))) (ai (Eq.refl (some (D.int m.o:D))) (ai (@v_mul (64) (m.o) (by decide) h1) (ai (Eq.refl (some (D.int m.s:D))) (ai (show bop Bop.mul (D.int 16384) (D.int m.s)=some (D.int (16384 * 2),Kd.pl) from by rw [← a];exact(@v_mul (16384) (m.s) (by decide) (li2 (.n (m.s.natAbs) (.z (m.s) .o)) (nat_lit 0x7df69000000000000006375c6149158d740091c6245635a44006100a4) a (lab (m.s))))) (ai (Eq.refl (some (D.int m.s:D))) (ai (asb_f (show ¬ (m.s=1) from(li1 (.z (m.s) .o) (nat_lit 0x7de6100636100a3) a))) (Eq.refl r)))))));exact Eq.trans (fun_eq (r:=(D.int (m.t + 64 * m.o + 16384 * 2),Kd.pl)) [.v _,.v _,.d _ _,.v _,.d _ _,.v _,.b false] rfl (hh _)) (by simp [Mv.num,a])) | (have hh:=fun r:Ev (D×Kd)=>ai (Eq.refl (some (D.int m.t:D))) (ai (Eq.refl (some (D.int m.o:D))) (ai (@v_mul (64) (m.o) (by decide) h1) (ai (Eq.refl (some (D.int m.s:D))) (ai (show bop Bop.mul (D.int 16384) (D.int m.s)=some (D.int (16384 * 3),Kd.pl) from by rw [← a];exact(@v_mul (16384) (m.s) (by decide) (li2 (.n (m.s.natAbs) (.z (m.s) .o)) (nat_lit 0x7df69000000000000006375c6149158d740091c6245635a44006100e4) a (lab (m.s))))) (ai (Eq.refl (some (D.int m.s:D))) (ai (asb_f (show ¬ (m.s=1) from(li1 (.z (m.s) .o) (nat_lit 0x7de6100636100e3) a))) (Eq.refl r)))))));exact Eq.trans (fun_eq (r:=(D.int (m.t + 64 * m.o + 16384 * 3),Kd.pl)) [.v _,.v _,.d _ _,.v _,.d _ _,.v _,.b false] rfl (hh _)) (by simp [Mv.num,a])))
noncomputable def nm (w q:Int):List Nat:=[97 + (q % w).toNat,49 + (q / w).toNat]
theorem flet {i:Int} (h0:0≤i) (h1:i < 8):sub (.str [97,98,99,100,101,102,103,104]) (.int i)=some (.str [97 + i.toNat]):=by
 have:i=0∨i=1∨i=2∨i=3∨i=4∨i=5∨i=6∨i=7:=by exact li2 (.z i .o) (nat_lit 0x1f7dd75d75d75d6101e36101a36101636101236100e36100a36100636100235d02235a3400) h0 h1
 rcases this with e | e | e | e | e | e | e | e <;> subst e <;> rfl
theorem rdig {i:Int} (h0:0≤i) (h1:i < 8):sub (.str [49,50,51,52,53,54,55,56]) (.int i)=some (.str [49 + i.toNat]):=by
 have:i=0∨i=1∨i=2∨i=3∨i=4∨i=5∨i=6∨i=7:=by exact li2 (.z i .o) (nat_lit 0x1f7dd75d75d75d6101e36101a36101636101236100e36100a36100636100235d02235a3400) h0 h1
 rcases this with e | e | e | e | e | e | e | e <;> subst e <;> rfl
theorem on_board {w h q:Int} (s:Shp w h) (q0:0≤q) (q1:q < w * h):0≤q % w∧q % w < w∧0≤q / w∧q / w < h∧0 < w∧w≤7∧h≤5∧0 < h∧w * h≤25:=by
 rcases s with ⟨a,b⟩ | ⟨a,b⟩ | ⟨a,b⟩ | ⟨a,b⟩ <;> subst a <;> subst b;exact li5 (.z (q % 4) (.z (q / 4) (.z q .o))) (nat_lit 0x7df7df7dc71c71c71c7164090534044045d01100164054045901d01174044005d01245a44005d01235a34005d14044e44049569539101184939101258d74d01101255a5400) q0 q1 (lmi (q) (4)).2.2 (ldi (q) (4)).1 (ldi (q) (4)).2;exact li5 (.z (q % 5) (.z (q / 5) (.z q .o))) (nat_lit 0x7df7df7dc71c71c71c7164090534054055d01500164054055901d01574054005d01645a44005d01635a34005d14054e44059569539101584939101658d74d01501655a5400) q0 q1 (lmi (q) (5)).2.2 (ldi (q) (5)).1 (ldi (q) (5)).2;exact li5 (.z (q % 7) (.z (q / 7) (.z q .o))) (nat_lit 0x7df7df7dc71c71c71c7164090534034075d00d00164054035901d01d74074005d00e45a44005d01e35a34005d14074e44079569539101d84939101e58d74d00d01e55a5400) q0 q1 (lmi (q) (7)).2.2 (ldi (q) (7)).1 (ldi (q) (7)).2;exact li5 (.z (q % 6) (.z (q / 6) (.z q .o))) (nat_lit 0x7df7df7dc71c71c71c7164090534044065d01100164054045901d01974064005d01245a44005d01a35a34005d14064e44069569539101984939101a58d74d01101a55a5400) q0 q1 (lmi (q) (6)).2.2 (ldi (q) (6)).1 (ldi (q) (6)).2
theorem s_law_name (k:Nat) {w h q:Int} (s:Shp w h) (q0:0≤q) (q1:q < w * h):callX tab (k+1) f_law_name [.tup [.int w,.int h],.int q]=Ev.ok (.str (nm w q),.pl):=by
 obtain⟨a0,a1,b0,b1,w0,w1,h1,hp,hs⟩:=on_board s q0 q1
 have e1:=flet a0 (by exact li2 (.z (q % w) (.z w .o)) (nat_lit 0x1f7d74088d6407917923) a1 w1)
 have e2:=rdig b0 (by exact li2 (.z (q / w) (.z h .o)) (nat_lit 0x1f7d74088d6405917923) b1 h1)
 have hl:w.natAbs.log2 < 9000:=by rcases s with ⟨a,b⟩ | ⟨a,b⟩ | ⟨a,b⟩ | ⟨a,b⟩ <;> subst a <;> decide
 have hw:sub (.tup [.int w,.int h]) (.int 0)=some (.int w):=rfl
 show runF (callX tab k) p_law_name [_,_]=_
 have hh:=fun r:Ev (D×Kd)=>ai hw (ai (@v_fmod (q) (w) w0) (ai e1 (ai hw (ai (@v_fdiv (q) (w) w0 hl) (ai e2 (ai (@v_adds ([97 + (q % w).toNat]) ([49 + (q / w).toNat]) (by simp [big])) (Eq.refl r)))))))
 exact fun_eq [.v _,.d _ _,.v _,.v _,.d _ _,.v _,.d _ _] rfl (hh _)
theorem s_square_name (k:Nat) {w h q:Int} (s:Shp w h) (q0:0≤q) (q1:q < w * h):callX tab (k+1) f_square_name [.int w,.int q]=Ev.ok (.str (nm w q),.pl):=by
 obtain⟨a0,a1,b0,b1,w0,w1,h1,hp,hs⟩:=on_board s q0 q1
 have e1:=flet a0 (by exact li2 (.z (q % w) (.z w .o)) (nat_lit 0x1f7d74088d6407917923) a1 w1)
 have e2:=rdig b0 (by exact li2 (.z (q / w) (.z h .o)) (nat_lit 0x1f7d74088d6405917923) b1 h1)
 have hl:w.natAbs.log2 < 9000:=by rcases s with ⟨a,b⟩ | ⟨a,b⟩ | ⟨a,b⟩ | ⟨a,b⟩ <;> subst a <;> decide
 have hb:¬ (q < 0):=by exact li1 (.z q .o) (nat_lit 0x7de5d00235a3400) q0
 have hw2:w.natAbs < 4294967296:=by exact li3 (.n (w.natAbs) (.z w .o)) (nat_lit 0x1f7df69000000000000006375c6149158d740091c6245635a44005901e45e4400) w0 w1 (lab (w))
 have hc:¬ (w * 8≤q):=by rcases s with ⟨a,b⟩ | ⟨a,b⟩ | ⟨a,b⟩ | ⟨a,b⟩ <;> subst a <;> subst b;exact li1 (.z q .o) (nat_lit 0x7de5a34d02101174d0110123) q1;exact li1 (.z q .o) (nat_lit 0x7de5a34d02101574d0150163) q1;exact li1 (.z q .o) (nat_lit 0x7de5a34d02101d74d00d01e3) q1;exact li1 (.z q .o) (nat_lit 0x7de5a34d02101974d01101a3) q1
 show runF (callX tab k) p_square_name [_,_]=_
 have hh:=fun r:Ev (D×Kd)=>ai (asb_f hb) (ai (@v_mul (w) (8) hw2 (by decide)) (ai (asb_f hc) (ai (@v_fmod (q) (w) w0) (ai e1 (ai (@v_fdiv (q) (w) w0 hl) (ai e2 (ai (@v_adds ([97 + (q % w).toNat]) ([49 + (q / w).toNat]) (by simp [big])) (Eq.refl r))))))))
 exact fun_eq [.b false,.d _ _,.b false,.d _ _,.v _,.d _ _,.v _,.d _ _] rfl (hh _)
end Mine

namespace Mine
noncomputable def lt (k:Int):List Nat:=if k=2 then [78] else if k=3 then [66] else if k=4 then [82] else if k=5 then [81] else [75]
theorem s_letter_of (k:Nat) {a:Int} (h0:2≤a) (h1:a≤6):callX tab (k+2) f_letter_of [.int a]=Ev.ok (.str (lt a),.pl):=by
 have e:=s_is_piece k a (by exact li1 (.z a .o) (nat_lit 8824903685518338) h0) h1
 have hn:¬ a=0:=by exact li1 (.z a .o) (nat_lit 0x7de6100235a3402) h0
 have es:sub g_LETTERS (.int a)=some (.str (lt a)):=by
  have:a=2∨a=3∨a=4∨a=5∨a=6:=by exact li2 (.z a .o) (nat_lit 0x7df75d75d6101a36101636101236100e36100a35901a35a3402) h0 h1
  rcases this with e | e | e | e | e <;> subst e <;> rfl
 show runF (callX tab (k+1)) p_letter_of [_]=_
 have hh:=fun r:Ev (D×Kd)=>ai (asb_nf hn) (ai e (ai rf (ai es (Eq.refl r))))
 exact fun_eq [.b true,.d _ _,.b false,.v _] rfl (hh _)
theorem s_law_letters (k:Nat):callX tab (k+1) f_law_letters []=Ev.ok (.lst [.str [],.str [],.str [78],.str [66],.str [82],.str [81],.str [75]],.fr):=by
 show runF (callX tab k) p_law_letters []=_
 have hh:=fun r:Ev (D×Kd)=>Eq.refl r
 exact fun_eq [] rfl (hh _)
theorem s_castle_text (k:Nat) {n cs m} (h:MvOk n cs m):callX tab (k+2) f_castle_text [.int m.num]=Ev.ok (.str (if m.o < m.t then [79,45,79] else [79,45,79,45,79]),.pl):=by
 show runF (callX tab (k+1)) p_castle_text [_]=_
 by_cases hc:m.o < m.t <;> (first | (have hh:=fun r:Ev (D×Kd)=>ai (m_to k h) (ai (m_from k h) (ai (asb_t hc) (Eq.refl r)));exact Eq.trans (fun_eq (r:=(D.str [79,45,79],Kd.pl)) [.d _ _,.d _ _,.b true] rfl (hh _)) (by simp [hc])) | (have hh:=fun r:Ev (D×Kd)=>ai (m_to k h) (ai (m_from k h) (ai (asb_f hc) (Eq.refl r)));exact Eq.trans (fun_eq (r:=(D.str [79,45,79,45,79],Kd.pl)) [.d _ _,.d _ _,.b false] rfl (hh _)) (by simp [hc])))
theorem s_takes (k:Nat) {n cs m} (h:MvOk n cs m):callX tab (k+2) f_takes [.lst (cs.map .int),.int m.num]=Ev.ok (.bool (decide (cv cs m.t≠0∨m.s=2)),.pl):=by
 have e:=sub_ints h.t0 (by rw [h.len];exact h.t1) (by have:=h.n1;have:=h.len;exact li2 (.n (cs.length) (.z n .o)) (nat_lit 0x7df6501068d89158d6409064) (show n≤25 by assumption) this)
 show runF (callX tab (k+1)) p_takes [_,_]=_
 by_cases hc:cv cs m.t=0 <;> (first | (have hh:=fun r:Ev (D×Kd)=>ai (m_to k h) (ai e (ai (asb_nt hc) (ai (m_special k h) (Eq.refl r))));exact Eq.trans (fun_eq (r:=(D.bool (decide (m.s=2)),Kd.pl)) [.d _ _,.v _,.b false,.d _ _] rfl (hh _)) (by simp [hc])) | (have hh:=fun r:Ev (D×Kd)=>ai (m_to k h) (ai e (ai (asb_nf hc) (Eq.refl r)));exact Eq.trans (fun_eq (r:=(D.bool true,Kd.pl)) [.d _ _,.v _,.b true] rfl (hh _)) (by simp [hc])))
noncomputable def lng (w:Int) (cs:List Int) (m:Mv):List Nat:=
 if m.s=3 then (if m.o < m.t then [79,45,79] else [79,45,79,45,79]) else
 (if cv cs m.o % 8=1 then [] else lt (cv cs m.o % 8)) ++ nm w m.o ++ (if cv cs m.t≠0∨m.s=2 then [120] else [45]) ++ nm w m.t ++ (if 0 < m.p then 61 :: lt m.p else [])
theorem nm_len (w q:Int):(nm w q).length=2:=rfl
theorem lt_len (k:Int):(lt k).length=1:=by unfold lt;split;rfl;split;rfl;split;rfl;split <;> rfl
theorem sp_p {n cs m} (h:MvOk n cs m):0≤m.p∧m.p≤5∧m.p≠1:=by have:=h.sp;exact li1 (.z (m.p) (.z (m.s) .o)) (nat_lit 0x7dc71e6100635901635a340075d75c6100236100e47184008d840291c7164058d68d009840191c610023610024) this
theorem kd {c:Int} (h:Code c):1≤c % 8∧c % 8≤6:=by unfold Code at h;exact li4 (.z (c % 8) (.z c (.z (c / 8) .o))) (nat_lit 0x1f7df7dc5901a35a34015d14084e54089169139502184939502248dd71640e91691025c5901a45a4401) h (lmi (c) (8)).2.2 (ldi (c) (8)).1 (ldi (c) (8)).2
theorem letters_at {p:Int} (h0:0≤p) (h1:p≤6):sub (.lst [.str [],.str [],.str [78],.str [66],.str [82],.str [81],.str [75]]) (.int p)=some (.str (if p≤1 then [] else lt p)):=by
 have:p=0∨p=1∨p=2∨p=3∨p=4∨p=5∨p=6:=by exact li2 (.z p .o) (nat_lit 0x7df75d75d75d6101a36101636101236100e36100a36100636100235901a35a3400) h0 h1
 rcases this with e | e | e | e | e | e | e <;> subst e <;> rfl
theorem lng_eq {w:Int} {cs:List Int} {m:Mv} (hc:¬ m.s=3):lng w cs m=(if cv cs m.o % 8=1 then [] else lt (cv cs m.o % 8)) ++ nm w m.o ++ (if cv cs m.t≠0∨m.s=2 then [120] else [45]) ++ nm w m.t ++ (if 0 < m.p then 61 :: lt m.p else []):=by
 unfold lng;rw [if_neg hc]
structure LP (A B L S P:List Nat):Prop where
 a:A.length=2
 b:B.length=2
 l:L.length≤1
 s:S.length=1
 p:P.length≤2
theorem lng_lens (w:Int) (cs:List Int) (m:Mv):LP (nm w m.o) (nm w m.t) (if cv cs m.o % 8=1 then [] else lt (cv cs m.o % 8)) (if cv cs m.t≠0∨m.s=2 then [120] else [45]) (if 0 < m.p then 61 :: lt m.p else []):=by
 refine⟨rfl,rfl,?_,?_,?_⟩
 ·split
  ·exact Nat.zero_le 1
  ·rw [lt_len];exact Nat.le_refl 1
 ·split <;> rfl
 ·split
  ·rw [List.length_cons,lt_len];exact Nat.le_refl 2
  ·exact Nat.zero_le 2
theorem LP.add {A B L S P:List Nat} (h:LP A B L S P):bop .add (.str L) (.str A)=some (.str (L ++ A),.pl)∧bop .add (.str (L ++ A)) (.str S)=some (.str (L ++ A ++ S),.pl)∧bop .add (.str (L ++ A ++ S)) (.str B)=some (.str (L ++ A ++ S ++ B),.pl)∧
  bop .add (.str (L ++ A ++ S ++ B)) (.str P)=some (.str (L ++ A ++ S ++ B ++ P),.pl)∧bop .add (.str (L ++ A ++ S ++ B)) (.str [61])=some (.str (L ++ A ++ S ++ B ++ [61]),.pl):=by
 obtain⟨a,b,l,c,p⟩:=h
 refine⟨v_adds ?_,v_adds ?_,v_adds ?_,v_adds ?_,v_adds ?_⟩ <;> simp only [List.length_append,List.length_cons,List.length_nil,big];exact li2 (.n (L.length) (.n (A.length) .o)) (nat_lit 0x1f7d94000000000519236500636d00a4) a l;exact li3 (.n (L.length) (.n (A.length) (.n (S.length) .o))) (nat_lit 0x7df7d94000000000519519236d00656500636d00a4) a l c;exact li4 (.n (L.length) (.n (A.length) (.n (S.length) (.n (B.length) .o)))) (nat_lit 0x1f7df7d94000000000519919519236d00656500636d00a66d00a4) a b l c;exact li5 (.n (L.length) (.n (A.length) (.n (S.length) (.n (B.length) (.n (P.length) .o))))) (nat_lit 0x7df7df7d94000000000519d19919519236500a76d00656500636d00a66d00a4) a b l c p;exact li4 (.n (L.length) (.n (A.length) (.n (S.length) (.n (B.length) .o)))) (nat_lit 0x1f7df7d94000000000514500500119919519236d00656500636d00a66d00a4) a b l c
theorem s_law_long (k:Nat) {w h:Int} {cs m} (s:Shp w h) (ok:MvOk (w * h) cs m):callX tab (k+2) f_law_long [.tup [.int w,.int h],.lst (cs.map .int),m.d]=Ev.ok (.str (lng w cs m),.pl):=by
 have hl:cs.length≤100:=by have:=ok.n1;have:=ok.len;exact li2 (.n (cs.length) (.z (w * h) .o)) (nat_lit 0x7df6501068d89158d6409064) (show w * h≤25 by assumption) this
 have e:=sub_ints ok.t0 (by rw [ok.len];exact ok.t1) hl
 have e':=sub_ints ok.o0 (by rw [ok.len];exact ok.o1) hl
 have no:=s_law_name k s ok.o0 ok.o1
 have nt:=s_law_name k s ok.t0 ok.t1
 have hp:=sp_p ok
 have hk:=kd ok.code
 have lk:=letters_at (p:=cv cs m.o % 8) (by exact li2 (.z (cv cs m.o % 8) (.z (cv cs m.o) (.z (cv cs m.o / 8) .o))) (nat_lit 0x7df5a34005a44e54086124e5408923) (lmi (cv cs m.o) (8)).2.2 (ldi (cv cs m.o) (8)).1) hk.2
 have lp:=letters_at (p:=m.p) hp.1 (by exact li1 (.z (m.p) .o) (nat_lit 8823587848388963) hp.2.1)
 rw [show(if cv cs m.o % 8≤1 then [] else lt (cv cs m.o % 8))=if cv cs m.o % 8=1 then [] else lt (cv cs m.o % 8) from by
  by_cases q:cv cs m.o % 8=1
  ·rw [if_pos q,if_pos (by exact li1 (.z (cv cs m.o % 8) .o) (nat_lit 8823582480203875) q)]
  ·rw [if_neg q,if_neg (by exact li2 (.z (cv cs m.o % 8) .o) (nat_lit 0x7df7964018de6100635a3401) hk.1 q)]] at lk
 obtain⟨b1,b2,b3,b4,_⟩:=(lng_lens w cs m).add
 have ll:=s_law_letters k
 show runF (callX tab (k+1)) p_law_long [_,_,_]=_
 by_cases hc:m.s=3
 ·unfold lng Mv.d
  rw [if_pos hc]
  by_cases ht:m.o < m.t
  ·rw [if_pos ht]
   have hh:=fun r:Ev (D×Kd)=>ai (asb_t hc) (ai (asb_t ht) (Eq.refl r))
   exact fun_eq [.b true,.b true] rfl (hh _)
  ·rw [if_neg ht]
   have hh:=fun r:Ev (D×Kd)=>ai (asb_t hc) (ai (asb_f ht) (Eq.refl r))
   exact fun_eq [.b true,.b false] rfl (hh _)
 ·rw [lng_eq hc,runF_fin _ _ _ rfl]
  unfold Mv.d
  generalize cs.map D.int=M at *
  have y2:∀ τ:Sg,τ 1=some ⟨.lst M,false⟩→τ 4=some ⟨.int m.t,false⟩→τ 5=some ⟨.int m.s,false⟩→ex (callX tab (k+1)) (s_at p_law_long.body 2) τ=Ev.ok (.next,upd τ 7 ⟨.str (if cv cs m.t≠0∨m.s=2 then [120] else [45]),false⟩):=fun τ t1 t4 t5=>by
   by_cases q:cv cs m.t=0
   ·by_cases q2:m.s=2
    ·rw [if_pos (.inr q2)]
     have hh:=fun r:Fl×Sg=>ai t1 (ai t4 (ai e (ai (asb_nt q) (ai t5 (ai (asb_t q2) (Eq.refl r))))))
     exact one_eq [.r 1 _,.r 4 _,.v _,.b false,.r 5 _,.b true] (hh _)
    ·rw [if_neg (fun x=>x.elim (fun x=>x q) q2)]
     have hh:=fun r:Fl×Sg=>ai t1 (ai t4 (ai e (ai (asb_nt q) (ai t5 (ai (asb_f q2) (Eq.refl r))))))
     exact one_eq [.r 1 _,.r 4 _,.v _,.b false,.r 5 _,.b false] (hh _)
   ·rw [if_pos (.inl q)]
    have hh:=fun r:Fl×Sg=>ai t1 (ai t4 (ai e (ai (asb_nf q) (ai rt (Eq.refl r)))))
    exact one_eq [.r 1 _,.r 4 _,.v _,.b true,.b true] (hh _)
  have y3:∀ τ:Sg,τ 6=some ⟨.int m.p,false⟩→ex (callX tab (k+1)) (s_at p_law_long.body 3) τ=Ev.ok (.next,upd τ 8 ⟨.str (if 0 < m.p then 61 :: lt m.p else []),false⟩):=fun τ t6=>by
   by_cases q:0 < m.p
   ·rw [if_neg (by exact li2 (.z (m.p) .o) (nat_lit 0x7df7964018d78d001e610063) hp.2.2 q)] at lp
    have ad:bop .add (.str [61]) (.str (lt m.p))=some (.str (61 :: lt m.p),.pl):=v_adds (by rw [lt_len];decide)
    rw [if_pos q]
    have hh:=fun r:Fl×Sg=>ai t6 (ai (asb_t q) (ai ll (ai t6 (ai lp (ai ad (Eq.refl r))))))
    exact one_eq [.r 6 _,.b true,.d _ _,.r 6 _,.v _,.d _ _] (hh _)
   ·rw [if_neg q]
    have hh:=fun r:Fl×Sg=>ai t6 (ai (asb_f q) (Eq.refl r))
    exact one_eq [.r 6 _,.b false] (hh _)
  have z:∀ τ:Sg,τ 0=some ⟨.tup [.int w,.int h],false⟩→τ 1=some ⟨.lst M,false⟩→τ 3=some ⟨.int m.o,false⟩→τ 4=some ⟨.int m.t,false⟩→τ 7=some ⟨.str (if cv cs m.t≠0∨m.s=2 then [120] else [45]),false⟩→τ 8=some ⟨.str (if 0 < m.p then 61 :: lt m.p else []),false⟩→
    (exs (callX tab (k+1)) (p_law_long.body.drop 4) τ).bind fin=Ev.ok (.str ((if cv cs m.o % 8=1 then [] else lt (cv cs m.o % 8)) ++ nm w m.o ++ (if cv cs m.t≠0∨m.s=2 then [120] else [45]) ++ nm w m.t ++ (if 0 < m.p then 61 :: lt m.p else [])),.pl):=fun τ t0 t1 t3 t4 t7 t8=>by
   have f8:bop .fmod (.int (cv cs m.o)) (.int 8)=some (.int (cv cs m.o % 8),.pl):=v_fmod (by decide)
   clear y2 y3
   generalize (if cv cs m.o % 8=1 then [] else lt (cv cs m.o % 8))=L at *
   generalize (if cv cs m.t≠0∨m.s=2 then [120] else [45])=S at *
   generalize (if 0 < m.p then 61 :: lt m.p else [])=P at *
   generalize nm w m.o=A at *
   generalize nm w m.t=B at *
   have hh:=fun r:Ev (D×Kd)=>ai ll (ai (frz_at t1) (ai (frz_at t3) (ai e' (ai f8 (ai lk (ai (frz_at t0) (ai (frz_at t3) (ai no (ai b1 (ai (frz_at t7) (ai b2 (ai (frz_at t0) (ai (frz_at t4) (ai nt (ai b3 (ai (frz_at t8) (ai b4 (Eq.refl r))))))))))))))))))
   exact fin_eq [.d _ _,.r 1 _,.r 3 _,.v _,.d _ _,.v _,.r 0 _,.r 3 _,.d _ _,.d _ _,.r 7 _,.d _ _,.r 0 _,.r 4 _,.d _ _,.d _ _,.r 8 _,.d _ _] (hh _)
  let τ:Sg:=upd (upd (upd (upd (start 3 [.tup [.int w,.int h],.lst M,.tup [.int m.o,.int m.t,.int m.s,.int m.p]]) 3 ⟨.int m.o,false⟩) 4 ⟨.int m.t,false⟩) 5 ⟨.int m.s,false⟩) 6 ⟨.int m.p,false⟩
  have y1:ex (callX tab (k+1)) (s_at p_law_long.body 1) τ=Ev.ok (.next,τ):=by
   clear y2 y3 z
   have hh:=fun r:Fl×Sg=>ai (asb_f hc) (Eq.refl r)
   exact one_eq [.b false] (hh _)
  refine Eq.trans (congrArg (Ev.bind · fin) ((exs_cons1 (τ:=τ) rfl).trans <| (exs_cons1 y1).trans <| (exs_cons1 (y2 τ rfl rfl rfl)).trans (exs_cons1 (y3 (upd τ 7 _) rfl)))) (z _ rfl rfl rfl rfl rfl rfl)
theorem s_long_of (k:Nat) {w h:Int} {cs m} (s:Shp w h) (ok:MvOk (w * h) cs m):callX tab (k+3) f_long_of [.int w,.lst (cs.map .int),.int m.num]=Ev.ok (.str (lng w cs m),.pl):=by
 have e':=sub_ints ok.o0 (by rw [ok.len];exact ok.o1) (by have:=ok.n1;have:=ok.len;exact li2 (.n (cs.length) (.z (w * h) .o)) (nat_lit 0x7df6501068d89158d6409064) (show w * h≤25 by assumption) this)
 have no:=s_square_name (k+1) s ok.o0 ok.o1
 have nt:=s_square_name (k+1) s ok.t0 ok.t1
 have hp:=sp_p ok
 have hk:=kd ok.code
 have hcc:0≤cv cs m.o:=by have:=ok.code;unfold Code at this;exact li1 (.z (cv cs m.o) .o) (nat_lit 0x7d68d001d71640e8d68d025c5901a35a3401) this
 have l0:=s_kind_of (k+1) (cv cs m.o) hcc
 have ms:=m_special (k+1) ok
 have mf:=m_from (k+1) ok
 have mt:=m_to (k+1) ok
 have mp:=m_promo (k+1) ok
 have st:=s_takes k ok
 obtain⟨b1,b2,b3,b4,b5⟩:=(lng_lens w cs m).add
 show runF (callX tab (k+2)) p_long_of [_,_,_]=_
 by_cases hc:m.s=3
 ·have sc:=s_castle_text k ok
  unfold lng
  rw [if_pos hc]
  have hh:=fun r:Ev (D×Kd)=>ai ms (ai (asb_t hc) (ai sc (Eq.refl r)))
  exact fun_eq [.d _ _,.b true,.d _ _] rfl (hh _)
 ·rw [lng_eq hc,runF_fin _ _ _ rfl]
  generalize cs.map D.int=M at *
  have z3:∀ τ:Sg,τ 3=some ⟨.int (cv cs m.o % 8),false⟩→τ 4=some ⟨.str (nm w m.o),false⟩→ex (callX tab (k+2)) (s_at p_long_of.body 3) τ=Ev.ok (.next,upd τ 4 ⟨.str ((if cv cs m.o % 8=1 then [] else lt (cv cs m.o % 8)) ++ nm w m.o),false⟩):=fun τ t3 t4=>by
   by_cases q:cv cs m.o % 8=1
   ·rw [if_pos q,List.nil_append,← sg_upd t4]
    have hh:=fun r:Fl×Sg=>ai t3 (ai (asb_nt q) (Eq.refl r))
    exact one_eq [.r 3 _,.b false] (hh _)
   ·have lk:=s_letter_of k (a:=cv cs m.o % 8) (by exact li2 (.z (cv cs m.o % 8) .o) (nat_lit 0x1f7d68d009e6100635a3401) hk.1 q) hk.2
    rw [if_neg q] at b1 ⊢
    have hh:=fun r:Fl×Sg=>ai t3 (ai (asb_nf q) (ai t3 (ai lk (ai t4 (ai b1 (Eq.refl r))))))
    exact one_eq [.r 3 _,.b true,.r 3 _,.d _ _,.r 4 _,.d _ _] (hh _)
  have z4:∀ τ:Sg,τ 1=some ⟨.lst M,false⟩→τ 2=some ⟨.int m.num,false⟩→τ 4=some ⟨.str ((if cv cs m.o % 8=1 then [] else lt (cv cs m.o % 8)) ++ nm w m.o),false⟩→ex (callX tab (k+2)) (s_at p_long_of.body 4) τ=Ev.ok (.next,upd τ 4 ⟨.str ((if cv cs m.o % 8=1 then [] else lt (cv cs m.o % 8)) ++ nm w m.o ++ (if cv cs m.t≠0∨m.s=2 then [120] else [45])),false⟩):=fun τ t1 t2 t4=>by
   clear z3
   generalize (if cv cs m.o % 8=1 then [] else lt (cv cs m.o % 8))=L at *
   by_cases q:cv cs m.t≠0∨m.s=2
   ·rw [if_pos q] at b2 ⊢
    have hh:=fun r:Fl×Sg=>ai t1 (ai t2 (ai st (ai (asb_t q) (ai t4 (ai b2 (Eq.refl r))))))
    exact one_eq [.r 1 _,.r 2 _,.d _ _,.b true,.r 4 _,.d _ _] (hh _)
   ·rw [if_neg q] at b2 ⊢
    have hh:=fun r:Fl×Sg=>ai t1 (ai t2 (ai st (ai (asb_f q) (ai t4 (ai b2 (Eq.refl r))))))
    exact one_eq [.r 1 _,.r 2 _,.d _ _,.b false,.r 4 _,.d _ _] (hh _)
  have z6:∀ τ:Sg,τ 2=some ⟨.int m.num,false⟩→τ 4=some ⟨.str ((if cv cs m.o % 8=1 then [] else lt (cv cs m.o % 8)) ++ nm w m.o ++ (if cv cs m.t≠0∨m.s=2 then [120] else [45]) ++ nm w m.t),false⟩→ex (callX tab (k+2)) (s_at p_long_of.body 6) τ=
    Ev.ok (.next,upd τ 4 ⟨.str ((if cv cs m.o % 8=1 then [] else lt (cv cs m.o % 8)) ++ nm w m.o ++ (if cv cs m.t≠0∨m.s=2 then [120] else [45]) ++ nm w m.t ++ (if 0 < m.p then 61 :: lt m.p else [])),false⟩):=fun τ t2 t4=>by
   clear z3 z4
   generalize (if cv cs m.o % 8=1 then [] else lt (cv cs m.o % 8)) ++ nm w m.o ++ (if cv cs m.t≠0∨m.s=2 then [120] else [45]) ++ nm w m.t=T at *
   by_cases q:0 < m.p
   ·have lp:=s_letter_of k (a:=m.p) (by exact li2 (.z (m.p) .o) (nat_lit 0x1f7d68d00978d001e610063) hp.2.2 q) (by exact li1 (.z (m.p) .o) (nat_lit 8823587848388963) hp.2.1)
    have q0:¬ m.p=0:=by exact li1 (.z (m.p) .o) (nat_lit 0x7de6100235e3400) q
    rw [if_pos q] at b4 ⊢
    have b6:bop .add (.str (T ++ [61])) (.str (lt m.p))=some (.str (T ++ (61 :: lt m.p)),.pl):=by
     have hb:(T ++ [61]).length + (lt m.p).length=T.length + (61 :: lt m.p).length:=by simp;exact li0 (.n (T.length) (.n ((lt m.p).length) .o)) (nat_lit 0x1b451401923464450063)
     rw [b_adds] at b4 ⊢
     rw [hb,List.append_assoc]
     exact b4
    have hh:=fun r:Fl×Sg=>ai t2 (ai mp (ai (asb_nf q0) (ai t4 (ai b5 (ai t2 (ai mp (ai lp (ai b6 (Eq.refl r)))))))))
    exact one_eq [.r 2 _,.d _ _,.b true,.r 4 _,.d _ _,.r 2 _,.d _ _,.d _ _,.d _ _] (hh _)
   ·have q0:m.p=0:=by exact li2 (.z (m.p) .o) (nat_lit 0x1f7d84008de5e34005a3400) hp.1 q
    rw [if_neg q,List.append_nil,← sg_upd t4]
    have hh:=fun r:Fl×Sg=>ai t2 (ai mp (ai (asb_nt q0) (Eq.refl r)))
    exact one_eq [.r 2 _,.d _ _,.b false] (hh _)
  clear b4 b5
  let σ:Sg:=start 3 [.int w,.lst M,.int m.num]
  let τ:Sg:=upd (upd σ 3 ⟨.int (cv cs m.o % 8),false⟩) 4 ⟨.str (nm w m.o),false⟩
  have x0:ex (callX tab (k+2)) (s_at p_long_of.body 0) σ=Ev.ok (.next,σ):=by
   clear z3 z4 z6
   have hh:=fun r:Fl×Sg=>ai ms (ai (asb_f hc) (Eq.refl r))
   exact one_eq [.d _ _,.b false] (hh _)
  have x1:ex (callX tab (k+2)) (s_at p_long_of.body 1) σ=Ev.ok (.next,upd σ 3 ⟨.int (cv cs m.o % 8),false⟩):=by
   clear z3 z4 z6
   have hh:=fun r:Fl×Sg=>ai mf (ai e' (ai l0 (Eq.refl r)))
   exact one_eq [.d _ _,.v _,.d _ _] (hh _)
  have x2:ex (callX tab (k+2)) (s_at p_long_of.body 2) (upd σ 3 ⟨.int (cv cs m.o % 8),false⟩)=Ev.ok (.next,τ):=by
   clear z3 z4 z6
   have hh:=fun r:Fl×Sg=>ai mf (ai no (Eq.refl r))
   exact one_eq [.d _ _,.d _ _] (hh _)
  have x5:∀ υ:Sg,υ 0=some ⟨.int w,false⟩→υ 2=some ⟨.int m.num,false⟩→υ 4=some ⟨.str ((if cv cs m.o % 8=1 then [] else lt (cv cs m.o % 8)) ++ nm w m.o ++ (if cv cs m.t≠0∨m.s=2 then [120] else [45])),false⟩→ex (callX tab (k+2)) (s_at p_long_of.body 5) υ=
    Ev.ok (.next,upd υ 4 ⟨.str ((if cv cs m.o % 8=1 then [] else lt (cv cs m.o % 8)) ++ nm w m.o ++ (if cv cs m.t≠0∨m.s=2 then [120] else [45]) ++ nm w m.t),false⟩):=fun υ t0 t2 t4=>by
   clear z3 z4 z6
   have hh:=fun r:Fl×Sg=>ai t4 (ai t0 (ai t2 (ai mt (ai nt (ai b3 (Eq.refl r))))))
   exact one_eq [.r 4 _,.r 0 _,.r 2 _,.d _ _,.d _ _,.d _ _] (hh _)
  refine Eq.trans (congrArg (Ev.bind · fin) ((exs_cons1 x0).trans <| (exs_cons1 x1).trans <| (exs_cons1 x2).trans <| (exs_cons1 (z3 τ rfl rfl)).trans <| (exs_cons1 (z4 (upd τ 4 _) rfl rfl rfl)).trans <| (exs_cons1 (x5 (upd (upd τ 4 _) 4 _) rfl rfl rfl)).trans (exs_cons1 (z6 (upd (upd (upd τ 4 _) 4 _) 4 _) rfl rfl)))) rfl
end Mine

namespace Mine
noncomputable def dsq (w q:Int):List Nat:=[49 + (q % w).toNat,49 + (q / w).toNat]
noncomputable def dgt (w:Int) (m:Mv):List Nat:=dsq w m.o ++ dsq w m.t ++ (if m.p=0 then [] else [54 - m.p.toNat])
theorem dec1 {i:Int} (h0:0≤i) (h1:i < 9):dec (i + 1).toNat=[49 + i.toNat]:=by
 have:i=0∨i=1∨i=2∨i=3∨i=4∨i=5∨i=6∨i=7∨i=8:=by exact li2 (.z i .o) (nat_lit 0x7df75d75d75d75d6102236101e36101a36101636101236100e36100a36100636100235d02635a3400) h0 h1
 rcases this with e | e | e | e | e | e | e | e | e <;> subst e <;> decide
theorem shp_log {w h:Int} (s:Shp w h):w.natAbs.log2 < 9000:=by
 rcases s with ⟨a,b⟩ | ⟨a,b⟩ | ⟨a,b⟩ | ⟨a,b⟩ <;> subst a <;> decide
theorem s_file_of (k:Nat) {w h q:Int} (s:Shp w h):callX tab (k+1) f_file_of [.int w,.int q]=Ev.ok (.int (q % w),.pl):=by
 have:0 < w:=by unfold Shp at s;exact li1 (.z w (.z h .o)) (nat_lit 0x7d78d001d75d7184049184068dc6100e46101e37184059184058dc610124610123) s
 show runF (callX tab k) p_file_of [_,_]=_
 have hh:=fun r:Ev (D×Kd)=>ai (@v_fmod (q) (w) this) (Eq.refl r)
 exact fun_eq [.d _ _] rfl (hh _)
theorem s_rank_of (k:Nat) {w h q:Int} (s:Shp w h):callX tab (k+1) f_rank_of [.int w,.int q]=Ev.ok (.int (q / w),.pl):=by
 have:0 < w:=by unfold Shp at s;exact li1 (.z w (.z h .o)) (nat_lit 0x7d78d001d75d7184049184068dc6100e46101e37184059184058dc610124610123) s
 show runF (callX tab k) p_rank_of [_,_]=_
 have hh:=fun r:Ev (D×Kd)=>ai (@v_fdiv (q) (w) this (by simp [shp_log s])) (Eq.refl r)
 exact fun_eq [.d _ _] rfl (hh _)
theorem s_iccf_square (k:Nat) {w h q:Int} (s:Shp w h) (q0:0≤q) (q1:q < w * h):callX tab (k+2) f_iccf_square [.int w,.int q]=Ev.ok (.str (dsq w q),.pl):=by
 obtain⟨a0,a1,b0,b1,w0,w1,h1,hp,hs⟩:=on_board s q0 q1
 have e1:=dec1 a0 (by exact li2 (.z (q % w) (.z w .o)) (nat_lit 0x1f7d74098d6407917923) a1 w1)
 have e2:=dec1 b0 (by exact li2 (.z (q / w) (.z h .o)) (nat_lit 0x1f7d74098d6405917923) b1 h1)
 have g1:0≤q % w + 1∧q % w + 1 < 10000000000:=by exact li3 (.z (q % w) (.z w .o)) (nat_lit 0x1f7df71740000438b0041424500635914018d00164079179235a3400) a0 a1 w1
 have g2:0≤q / w + 1∧q / w + 1 < 10000000000:=by exact li3 (.z (q / w) (.z h .o)) (nat_lit 0x1f7df71740000438b0041424500635914018d00164059179235a3400) b0 b1 h1
 show runF (callX tab (k+1)) p_iccf_square [_,_]=_
 simp [b_add,b_adds,tr_pl,sto_pl,f_str,e_lit,e_var,e_bin,e_call,e_fn1,e_nil,e_cons,x_ret,s_nil,s_cons,runF,start,frzAll,Ev.bind_ok,Ev.of_some,p_iccf_square,s_file_of k s,s_rank_of k s,e1,e2,g1,g2,dsq,big]
theorem s_iccf_promo (k:Nat) {p:Int} (h:p=0∨(2≤p∧p≤5)):callX tab (k+1) f_iccf_promo [.int p]=Ev.ok (.str (if p=0 then [] else [54 - p.toNat]),.pl):=by
 have:p=0∨p=2∨p=3∨p=4∨p=5:=by exact li1 (.z p .o) (nat_lit 0x1f75d75d6101636101236100e36100a361002375c5901635a3402610023) h
 show runF (callX tab k) p_iccf_promo [_]=_
 rcases this with e | e | e | e | e <;> subst e <;> (first | (have hh:=fun r:Ev (D×Kd)=>ai rf (ai rf (ai rf (ai rf (Eq.refl r))));exact fun_eq [.b false,.b false,.b false,.b false] rfl (hh _)) | (have hh:=fun r:Ev (D×Kd)=>ai rf (ai rf (ai rf (ai rt (Eq.refl r))));exact fun_eq [.b false,.b false,.b false,.b true] rfl (hh _)) | (have hh:=fun r:Ev (D×Kd)=>ai rf (ai rf (ai rt (Eq.refl r)));exact fun_eq [.b false,.b false,.b true] rfl (hh _)) | (have hh:=fun r:Ev (D×Kd)=>ai rf (ai rt (Eq.refl r));exact fun_eq [.b false,.b true] rfl (hh _)) | (have hh:=fun r:Ev (D×Kd)=>ai rt (Eq.refl r);exact fun_eq [.b true] rfl (hh _)))
theorem sp_q {n cs m} (h:MvOk n cs m):m.p=0∨(2≤m.p∧m.p≤5):=by have:=h.sp;exact li1 (.z (m.p) (.z (m.s) .o)) (nat_lit 0x1f75c5901635a340261002375d75c6100236100e47184008d840291c7164058d68d009840191c610023610024) this
theorem s_iccf_of (k:Nat) {w h:Int} {cs m} (s:Shp w h) (ok:MvOk (w * h) cs m):callX tab (k+3) f_iccf_of [.int w,.int m.num]=Ev.ok (.str (dgt w m),.pl):=by
 have e1:=s_iccf_square k s ok.o0 ok.o1
 have e2:=s_iccf_square k s ok.t0 ok.t1
 have e3:=s_iccf_promo (k+1) (sp_q ok)
 have e0:=s_iccf_promo (k+1) (p:=0) (Or.inl rfl)
 show runF (callX tab (k+2)) p_iccf_of [_,_]=_
 by_cases hp:m.p=0 <;> (first | (have hh:=fun r:Ev (D×Kd)=>ai (m_from (k+1) ok) (ai e1 (ai (m_to (k+1) ok) (ai e2 (ai (@v_adds (dsq w m.o) (dsq w m.t) (by simp [m_from (k+1) ok,m_to (k+1) ok,m_promo (k+1) ok,dsq,big])) (ai (show callX tab (k + 2) f_move_promo [D.int m.num]=Ev.ok (D.int 0,Kd.pl) from by rw [← hp];exact(m_promo (k+1) ok)) (ai e0 (ai (@v_adds ([49 + (m.o % w).toNat,49 + (m.o / w).toNat,49 + (m.t % w).toNat,49 + (m.t / w).toNat]) (if 0=0 then [] else [54 - Int.toNat 0]) (by simp [m_from (k+1) ok,m_to (k+1) ok,m_promo (k+1) ok,big])) (Eq.refl r))))))));exact Eq.trans (fun_eq (r:=(D.str [49 + (m.o % w).toNat,49 + (m.o / w).toNat,49 + (m.t % w).toNat,49 + (m.t / w).toNat],Kd.pl)) [.d _ _,.d _ _,.d _ _,.d _ _,.d _ _,.d _ _,.d _ _,.d _ _] rfl (hh _)) (by simp [m_from (k+1) ok,m_to (k+1) ok,m_promo (k+1) ok,dgt,dsq,hp])) | (have hh:=fun r:Ev (D×Kd)=>ai (m_from (k+1) ok) (ai e1 (ai (m_to (k+1) ok) (ai e2 (ai (@v_adds (dsq w m.o) (dsq w m.t) (by simp [m_from (k+1) ok,m_to (k+1) ok,m_promo (k+1) ok,dsq,big])) (ai (m_promo (k+1) ok) (ai e3 (ai (@v_adds ([49 + (m.o % w).toNat,49 + (m.o / w).toNat,49 + (m.t % w).toNat,49 + (m.t / w).toNat]) (if m.p=0 then [] else [54 - m.p.toNat]) (by simp [m_from (k+1) ok,m_to (k+1) ok,m_promo (k+1) ok,big,hp])) (Eq.refl r))))))));exact fun_eq [.d _ _,.d _ _,.d _ _,.d _ _,.d _ _,.d _ _,.d _ _,.d _ _] rfl (hh _)))
theorem prm_at {p:Int} (h:p=0∨(2≤p∧p≤5)):sub (.lst [.str [],.str [],.str [52],.str [51],.str [50],.str [49]]) (.int p)=some (.str (if p=0 then [] else [54 - p.toNat])):=by
 have:p=0∨p=2∨p=3∨p=4∨p=5:=by exact li1 (.z p .o) (nat_lit 0x1f75d75d6101636101236100e36100a361002375c5901635a3402610023) h
 rcases this with e | e | e | e | e <;> subst e <;> rfl
theorem forGo_nil (f:D→Sg→Ev (Fl×Sg)) (σ:Sg):forGo f [] σ=Ev.ok (.next,σ):=rfl
theorem forGo_cons (f:D→Sg→Ev (Fl×Sg)) (d:D) (ds:List D) (σ:Sg):forGo f (d :: ds) σ=(f d σ).bind fun r=>match r.1 with
  | .ret _ _=>Ev.ok r
  | _=>forGo f ds r.2:=rfl
theorem s_law_digits (k:Nat) {w h:Int} {cs m} (s:Shp w h) (ok:MvOk (w * h) cs m):callX tab (k+1) f_law_digits [.tup [.int w,.int h],m.d]=Ev.ok (.str (dgt w m),.pl):=by
 obtain⟨a0,a1,b0,b1,w0,w1,h1,hp,hs⟩:=on_board s ok.o0 ok.o1
 obtain⟨c0,c1,d0,d1,-,-,-,-,-⟩:=on_board s ok.t0 ok.t1
 have e1:=dec1 a0 (by exact li2 (.z (m.o % w) (.z w .o)) (nat_lit 0x1f7d74098d6407917923) a1 w1)
 have e2:=dec1 b0 (by exact li2 (.z (m.o / w) (.z h .o)) (nat_lit 0x1f7d74098d6405917923) b1 h1)
 have e3:=dec1 c0 (by exact li2 (.z (m.t % w) (.z w .o)) (nat_lit 0x1f7d74098d79235901e4) w1 c1)
 have e4:=dec1 d0 (by exact li2 (.z (m.t / w) (.z h .o)) (nat_lit 0x1f7d74098d7923590164) h1 d1)
 have g1:0≤m.o % w + 1∧m.o % w + 1 < 10000000000:=by exact li3 (.z (m.o % w) (.z w .o)) (nat_lit 0x1f7df71740000438b0041424500635914018d00164079179235a3400) a0 a1 w1
 have g2:0≤m.o / w + 1∧m.o / w + 1 < 10000000000:=by exact li3 (.z (m.o / w) (.z h .o)) (nat_lit 0x1f7df71740000438b0041424500635914018d00164059179235a3400) b0 b1 h1
 have g3:0≤m.t % w + 1∧m.t % w + 1 < 10000000000:=by exact li3 (.z (m.t % w) (.z w .o)) (nat_lit 0x1f7df71740000438b0041424500635914018d00179235a34005901e4) w1 c0 c1
 have g4:0≤m.t / w + 1∧m.t / w + 1 < 10000000000:=by exact li3 (.z (m.t / w) (.z h .o)) (nat_lit 0x1f7df71740000438b0041424500635914018d00179235a3400590164) h1 d0 d1
 have hw:sub (.tup [.int w,.int h]) (.int 0)=some (.int w):=rfl
 have h3:sub m.d (.int 3)=some (.int m.p):=rfl
 have h2:slc m.d .none (.int 2)=some (.tup [.int m.o,.int m.t],.pl):=rfl
 have hi:items (.tup [.int m.o,.int m.t])=some [.int m.o,.int m.t]:=rfl
 have pa:=prm_at (sp_q ok)
 have pa0:=prm_at (p:=0) (Or.inl rfl)
 show runF (callX tab k) p_law_digits [_,_]=_
 by_cases hp:m.p=0 <;> (first | (have hh:=fun r:Ev (D×Kd)=>ai h2 (ai hi (ai hw (ai (@v_fmod (m.o) (w) w0) (ai (show fn1 Fn.str (D.int (m.o % w + 1))=some (D.str [49 + (m.o % w).toNat]) from by rw [← e1];exact(@v_str (m.o % w + 1) g1.1 g1.2)) (ai (@v_adds ([]) ([49 + (m.o % w).toNat]) (by simp [big])) (ai hw (ai (@v_fdiv (m.o) (w) w0 (by simp [shp_log s])) (ai (show fn1 Fn.str (D.int (m.o / w + 1))=some (D.str [49 + (m.o / w).toNat]) from by rw [← e2];exact(@v_str (m.o / w + 1) g2.1 g2.2)) (ai (@v_adds ([49 + (m.o % w).toNat]) ([49 + (m.o / w).toNat]) (by simp [big])) (ai hw (ai (@v_fmod (m.t) (w) w0) (ai (show fn1 Fn.str (D.int (m.t % w + 1))=some (D.str [49 + (m.t % w).toNat]) from by rw [← e3];exact(@v_str (m.t % w + 1) g3.1 g3.2)) (ai (@v_adds ([49 + (m.o % w).toNat,49 + (m.o / w).toNat]) ([49 + (m.t % w).toNat]) (by simp [big])) (ai hw (ai (@v_fdiv (m.t) (w) w0 (by simp [shp_log s])) (ai (show fn1 Fn.str (D.int (m.t / w + 1))=some (D.str [49 + (m.t / w).toNat]) from by rw [← e4];exact(@v_str (m.t / w + 1) g4.1 g4.2)) (ai (@v_adds ([49 + (m.o % w).toNat,49 + (m.o / w).toNat,49 + (m.t % w).toNat]) ([49 + (m.t / w).toNat]) (by simp [big])) (ai h3 (ai pa (ai (@v_adds ([49 + (m.o % w).toNat,49 + (m.o / w).toNat,49 + (m.t % w).toNat,49 + (m.t / w).toNat]) (if m.p=0 then [] else [54 - m.p.toNat]) (by simp [big,hp])) (Eq.refl r)))))))))))))))))))));exact fun_eq [.d _ _,.l _,.v _,.d _ _,.v _,.d _ _,.v _,.d _ _,.v _,.d _ _,.v _,.d _ _,.v _,.d _ _,.v _,.d _ _,.v _,.d _ _,.v _,.v _,.d _ _] rfl (hh _)) | simp [b_add,b_adds,b_addl,b_sub,b_mul,b_mull,b_fdiv,b_fmod,b_shr,b_band,b_pow,c_eqi,c_nei,c_eqs,c_nes,c_lt,c_le,c_gt,c_ge,asB_b,frz_pl,frz_fr,tr_pl,tr_fr,tr_bo,sto_pl,sto_fr,sto_bo,clip_n,clip_i,slc_s,slc_l,f_lens,f_lenl,f_str,f_sum,f_min,f_max,scal_n,scal_b,scal_i,scal_s,scal_t,scal_l,h_pl,h_fr,h_bo,ba_nil,ba_cons,rcv_f,rcv_s,rcv_j,rcv_i,e_non,e_lit,e_var,e_bin,e_neg,e_cmp,e_cmp2,e_not,e_and,e_or,e_ite,e_call,e_fn1,e_fn2,e_mth,e_idx,e_slc,e_tup,e_lst,e_nil,e_cons,x_asg,x_asgT,x_setI,x_app,x_ret,x_iff,x_forE,x_forT,n_non,n_cmp,n_var,x_forR,x_whil,x_cont,s_nil,s_cons,runF,start,frzAll,frz1,Ev.bind_ok,Ev.bind_bad,Ev.of_some,upd,cut,List.mapM_cons,p_law_digits,hw,h3,h2,hi,forGo_nil,forGo_cons,shp_log s,w0,e1,e2,e3,e4,g1,g2,g3,g4,dgt,dsq,big,pa,pa0,hp])
noncomputable def wpl (p:Int):List Nat:=if p=0 then [] else if p=2 then [110] else if p=3 then [98] else if p=4 then [114] else [113]
noncomputable def wir (w:Int) (m:Mv):List Nat:=nm w m.o ++ nm w m.t ++ wpl m.p
theorem wpl_at {p:Int} (h:p=0∨(2≤p∧p≤5)):sub (.lst [.str [],.str [],.str [110],.str [98],.str [114],.str [113]]) (.int p)=some (.str (wpl p)):=by
 have:p=0∨p=2∨p=3∨p=4∨p=5:=by exact li1 (.z p .o) (nat_lit 0x1f75d75d6101636101236100e36100a361002375c5901635a3402610023) h
 rcases this with e | e | e | e | e <;> subst e <;> rfl
theorem s_promo_letter (k:Nat) {p:Int} (h:p=0∨(2≤p∧p≤5)):callX tab (k+1) f_promo_letter [.int p]=Ev.ok (.str (wpl p),.pl):=by
 have:p=0∨p=2∨p=3∨p=4∨p=5:=by exact li1 (.z p .o) (nat_lit 0x1f75d75d6101636101236100e36100a361002375c5901635a3402610023) h
 show runF (callX tab k) p_promo_letter [_]=_
 rcases this with e | e | e | e | e <;> subst e <;> (first | (have hh:=fun r:Ev (D×Kd)=>ai rf (ai rf (ai rf (ai rf (Eq.refl r))));exact fun_eq [.b false,.b false,.b false,.b false] rfl (hh _)) | (have hh:=fun r:Ev (D×Kd)=>ai rt (Eq.refl r);exact fun_eq [.b true] rfl (hh _)) | (have hh:=fun r:Ev (D×Kd)=>ai rf (ai rt (Eq.refl r));exact fun_eq [.b false,.b true] rfl (hh _)) | (have hh:=fun r:Ev (D×Kd)=>ai rf (ai rf (ai rt (Eq.refl r)));exact fun_eq [.b false,.b false,.b true] rfl (hh _)) | (have hh:=fun r:Ev (D×Kd)=>ai rf (ai rf (ai rf (ai rt (Eq.refl r))));exact fun_eq [.b false,.b false,.b false,.b true] rfl (hh _)))
noncomputable def sgn (s:List Nat):List Nat:=if s.drop (s.length - 1)=[43]∨s.drop (s.length - 1)=[35] then s.drop (s.length - 1) else []
noncomputable def bdy (s:List Nat):List Nat:=s.take (s.length - (sgn s).length)
theorem last_toNat (s:List Nat):((-1:Int) + (s.length:Int)).toNat=s.length - 1:=by omega
theorem s_cut_sign (k:Nat) (s:List Nat) (h:s.length≤100):callX tab (k+1) f_cut_sign [.str s]=Ev.ok (.tup [.str (bdy s),.str (sgn s)],.pl):=by
 have hb:s.length≤big:=by unfold big;exact li1 (.n (s.length) .o) (nat_lit 0x1f6500000000018d94041a3) h
 show runF (callX tab k) p_cut_sign [_]=_
 by_cases h1:s.drop (s.length - 1)=[43]
 ·have hs:sgn s=[43]:=by simp [sgn,h1]
  have hh:=fun r:Ev (D×Kd)=>ai (show slc (D.str s) (D.int (-1)) D.none=some (D.str [43],Kd.pl) by simp [clip_n,clip_i,slc_s,cut,last_toNat,hb,h1]) (ai (@c_eqs ([43]) ([43])) (ai rt (ai rt (ai (show slc (D.str s) D.none (D.int (-1))=some (D.str (List.take (s.length - 1) s),Kd.pl) by simp [clip_n,clip_i,slc_s,cut,last_toNat,hb]) (ai (show slc (D.str s) (D.int (-1)) D.none=some (D.str [43],Kd.pl) by simp [clip_n,clip_i,slc_s,cut,last_toNat,hb,h1]) (Eq.refl r))))))
  exact Eq.trans (fun_eq (r:=(D.tup [D.str (List.take (s.length - 1) s),D.str [43]],Kd.pl)) [.d _ _,.b true,.b true,.b true,.d _ _,.d _ _] rfl (hh _)) (by simp [hs,bdy])
 ·by_cases h2:s.drop (s.length - 1)=[35]
  ·have hs:sgn s=[35]:=by simp [sgn,h2]
   have hh:=fun r:Ev (D×Kd)=>ai (show slc (D.str s) (D.int (-1)) D.none=some (D.str [35],Kd.pl) by simp [clip_n,clip_i,slc_s,cut,last_toNat,hb,h2]) (ai (@c_eqs ([35]) ([43])) (ai rf (ai (show slc (D.str s) (D.int (-1)) D.none=some (D.str [35],Kd.pl) by simp [clip_n,clip_i,slc_s,cut,last_toNat,hb,h2]) (ai (@c_eqs ([35]) ([35])) (ai rt (ai (show slc (D.str s) D.none (D.int (-1))=some (D.str (List.take (s.length - 1) s),Kd.pl) by simp [clip_n,clip_i,slc_s,cut,last_toNat,hb]) (ai (show slc (D.str s) (D.int (-1)) D.none=some (D.str [35],Kd.pl) by simp [clip_n,clip_i,slc_s,cut,last_toNat,hb,h2]) (Eq.refl r))))))))
   exact Eq.trans (fun_eq (r:=(D.tup [D.str (List.take (s.length - 1) s),D.str [35]],Kd.pl)) [.d _ _,.b false,.b false,.d _ _,.b true,.b true,.d _ _,.d _ _] rfl (hh _)) (by simp [hs,bdy])
  ·have hs:sgn s=[]:=by simp [sgn,h1,h2]
   have hh:=fun r:Ev (D×Kd)=>ai (show slc (D.str s) (D.int (-1)) D.none=some (D.str (List.drop (s.length - 1) s),Kd.pl) by simp [clip_n,clip_i,slc_s,cut,last_toNat,hb]) (ai (@c_eqs (List.drop (s.length - 1) s) ([43])) (ai (asb_f h1) (ai (show slc (D.str s) (D.int (-1)) D.none=some (D.str (List.drop (s.length - 1) s),Kd.pl) by simp [clip_n,clip_i,slc_s,cut,last_toNat,hb]) (ai (@c_eqs (List.drop (s.length - 1) s) ([35])) (ai (asb_f h2) (Eq.refl r))))))
   exact Eq.trans (fun_eq (r:=(D.tup [D.str s,D.str []],Kd.pl)) [.d _ _,.b _,.b false,.d _ _,.b _,.b false] rfl (hh _)) (by simp [hs,bdy])
noncomputable def fnd:List (List Nat)→List Int→List Nat→Option Int
 | l :: ls,n :: ns,t=>if l=t then some n else fnd ls ns t
 | _,_,_=>Option.none
noncomputable def oI:Option Int→D
 | some i=>.int i
 | Option.none=>.none
theorem dStrs_map (ls:List (List Nat)):dStrs (ls.map .str)=some ls:=by
 induction ls with
 | nil=>rfl
 | cons a r ih=>simp [dStrs,ih]
theorem dInts_map (ls:List Int):dInts (ls.map .int)=some ls:=by
 induction ls with
 | nil=>rfl
 | cons a r ih=>simp [dInts,ih]
theorem fnd_spec (t:List Nat):∀ (ls:List (List Nat)) (ns:List Int),ls.length=ns.length→
  (fnd ls ns t=Option.none∧ls.idxOf? t=Option.none∧t ∉ ls)∨(∃ i n,ls.idxOf? t=some i∧ns[i]?=some n∧fnd ls ns t=some n∧t ∈ ls∧i < ls.length):=by
 intro ls
 induction ls with
 | nil=>intro ns h;left;simp [fnd]
 | cons l r ih=>
  intro ns h
  cases ns with
  | nil=>simp at h
  | cons n ns=>
   by_cases hl:l=t
   ·right;exact⟨0,n,by simp [List.idxOf?_cons,hl],rfl,by simp [fnd,hl],by simp [hl],by simp⟩
   ·rcases ih ns (by simpa using h) with ⟨a,b,c⟩ | ⟨i,m,a,b,c,d,e⟩
    ·left;exact⟨by simp [fnd,hl,a],by simp [List.idxOf?_cons,hl,b],by simp [c,Ne.symm hl]⟩
    ·right;exact⟨i + 1,m,by simp [List.idxOf?_cons,hl,a],by simpa using b,by simp [fnd,hl,c],by simp [d],by simpa using e⟩
theorem isin_strs (ls:List (List Nat)) (t:List Nat):cop .isin (.str t) (.lst (ls.map .str))=some (decide (t ∈ ls)):=by
 have h1:((ls.map D.str).all (eqOk 8))=true:=by simp [eqOk]
 have h2:((ls.map D.str).any fun x=>deq x (.str t))=decide (t ∈ ls):=by
  rw [Bool.eq_iff_iff]
  simp [deq]
 have h3:cop .isin (.str t) (.lst (ls.map .str))=if eqOk 8 (.str t) && (ls.map D.str).all (eqOk 8) then some ((ls.map D.str).any fun x=>deq x (.str t)) else Option.none:=by
  cases t with
  | nil=>rfl
  | cons a r=>cases r <;> rfl
 rw [h3,h1,h2];simp [eqOk]
end Mine

namespace Mine
theorem le_big {n:Nat} (h:n≤100000):n≤big:=by have e:big=1048576:=rfl;exact li2 (.n n (.n big .o)) (nat_lit 0x7df6648db40000000006465000a188063) h e
theorem m_index {ls:List (List Nat)} {t:List Nat} {i:Nat} (hx:ls.length≤big) (a:ls.idxOf? t=some i):mth .index (.lst (ls.map .str)) (.str t)=some (.int i,.pl):=by
 show((dStrs (ls.map .str)).bind fun ws=>if ws.length≤big then (ws.idxOf? t).map fun k=>(D.int (k:Nat),Kd.pl) else Option.none)=_
 rw [dStrs_map]
 show(if ls.length≤big then (ls.idxOf? t).map fun k=>(D.int (k:Nat),Kd.pl) else Option.none)=_
 rw [if_pos hx,a];rfl
theorem sub_nat (l:List D) {i:Nat} (h:i < 100001):sub (.lst l) (.int (i:Int))=l[i]?:=by
 show(if 0≤(i:Int)∧(i:Int) < 1000000000 then l[(i:Int).toNat]? else Option.none)=_
 have h1:0≤(i:Int)∧(i:Int) < 1000000000:=by exact li1 (.n i .o) (nat_lit 0x1f71740000a30a24b0d58d656340069004a188063) h
 rw [if_pos h1];rfl
theorem s_law_find (k:Nat) (ls:List (List Nat)) (ns:List Int) (t:List Nat) (h:ls.length=ns.length) (hb:ls.length≤100000):callX tab (k+1) f_law_find [.lst (ls.map .str),.lst (ns.map .int),.str t]=Ev.ok (oI (fnd ls ns t),.pl):=by
 show runF (callX tab k) p_law_find [_,_,_]=_
 rcases fnd_spec t ls ns h with ⟨a,b,c⟩ | ⟨i,n,a,b,c,d,e⟩
 ·have hh:=fun r:Ev (D×Kd)=>ai (@isin_strs (ls) (t)) (ai (asb_f c) (Eq.refl r))
  exact Eq.trans (fun_eq (r:=(D.none,Kd.pl)) [.b _,.b false] rfl (hh _)) (by simp [a,oI])
 ·have hm:=m_index (le_big hb) a
  have hs:sub (.lst (ns.map .int)) (.int i)=some (.int n):=by
   rw [sub_nat _ (by exact li2 (.n i (.n (ls.length) .o)) (nat_lit 0x1f7da4012862018da92365000a188064) hb e)]
   simp [b]
  obtain⟨j,hj⟩:∃ j:Int,j=i:=⟨_,rfl⟩
  rw [← hj] at hm hs
  have hh:=fun r:Ev (D×Kd)=>ai (@isin_strs (ls) (t)) (ai (asb_t d) (ai hm (ai hs (Eq.refl r))))
  exact Eq.trans (fun_eq (r:=(D.int n,Kd.pl)) [.b _,.b true,.d _ _,.v _] rfl (hh _)) (by simp [c,oI])
end Mine

namespace Mine
noncomputable def fd (c:Nat):Int:=if 49≤c∧c≤56 then (c:Int) - 49 else -1
noncomputable def fl (c:Nat):Int:=if 97≤c∧c≤104 then (c:Int) - 97 else -1
theorem fd_ok {c:Nat} (h:0≤fd c):fd c=c - 49∧49≤c∧c≤56:=by
 unfold fd at *;split at h <;> rename_i hc
 ·simp [hc]
 ·exact li1 (.z (if 49≤c∧c≤56 then ↑c - 49 else -1) (.n c .o)) (nat_lit 0x1f71c6502039199100436124010d5923594401400) h
theorem fl_ok {c:Nat} (h:0≤fl c):fl c=c - 97∧97≤c∧c≤104:=by
 unfold fl at *;split at h <;> rename_i hc
 ·simp [hc]
 ·exact li1 (.z (if 97≤c∧c≤104 then ↑c - 97 else -1) (.n c .o)) (nat_lit 0x1f71c650206919910046612401195923594401400) h
theorem fd_no {c:Nat} (h:¬ 0≤fd c):c < 49∨56 < c:=by
 unfold fd at *;split at h;exact li1 (.n c .o) (nat_lit 0x7dd6a34080da4010e3796490043563400) h;exact li1 (.n c .o) (nat_lit 0x7dd6a34080da4010e379c6502038d98d0043) (show ¬(49≤c∧c≤56) by assumption)
theorem fl_no {c:Nat} (h:¬ 0≤fl c):c < 97∨104 < c:=by
 unfold fl at *;split at h;exact li1 (.n c .o) (nat_lit 0x7dd6a340819a4011a3796490046563400) h;exact li1 (.n c .o) (nat_lit 0x7dd6a340819a4011a379c6502068d98d0046) (show ¬(97≤c∧c≤104) by assumption)
theorem m_fd (c:Nat):mth .find (.str [49,50,51,52,53,54,55,56]) (.str [c])=some (.int (fd c),.pl):=by
 by_cases h:49≤c∧c≤56
 ·have:c=49∨c=50∨c=51∨c=52∨c=53∨c=54∨c=55∨c=56:=by exact li2 (.n c .o) (nat_lit 0x1f7dd75d75d75d6d02038db4070e36d01838db4050e36d01038db4030e36d00838db4010e36502038d98d0043) h.1 h.2
  rcases this with e | e | e | e | e | e | e | e <;> subst e <;> rfl
 ·have e:([49,50,51,52,53,54,55,56]:List Nat).idxOf? c=Option.none:=by
   have:=(List.idxOf?_eq_none_iff (l:=([49,50,51,52,53,54,55,56]:List Nat)) (a:=c)).2 (by simp;exact li1 (.n c .o) (nat_lit 0x7dc71c71c71c79b4080e379b4070e379b4060e379b4050e379b4040e379b4030e379b4020e379b4010e379c6502038d98d0043) h)
   exact this
  have f:fd c=-1:=if_neg h
  rw [f]
  show some (D.int (match ([49,50,51,52,53,54,55,56]:List Nat).idxOf? c with | some k=>((k:Nat):Int) | Option.none=>-1),Kd.pl)=_
  rw [e]
theorem m_fl (c:Nat):mth .find (.str [97,98,99,100,101,102,103,104]) (.str [c])=some (.int (fl c),.pl):=by
 by_cases h:97≤c∧c≤104
 ·have:c=97∨c=98∨c=99∨c=100∨c=101∨c=102∨c=103∨c=104:=by exact li2 (.n c .o) (nat_lit 0x1f7dd75d75d75d6d02068db4071a36d01868db4051a36d01068db4031a36d00868db4011a36502068d98d0046) h.1 h.2
  rcases this with e | e | e | e | e | e | e | e <;> subst e <;> rfl
 ·have e:([97,98,99,100,101,102,103,104]:List Nat).idxOf? c=Option.none:=by
   have:=(List.idxOf?_eq_none_iff (l:=([97,98,99,100,101,102,103,104]:List Nat)) (a:=c)).2 (by simp;exact li1 (.n c .o) (nat_lit 0x7dc71c71c71c79b4081a379b4071a379b4061a379b4051a379b4041a379b4031a379b4021a379b4011a379c6502068d98d0046) h)
   exact this
  have f:fl c=-1:=if_neg h
  rw [f]
  show some (D.int (match ([97,98,99,100,101,102,103,104]:List Nat).idxOf? c with | some k=>((k:Nat):Int) | Option.none=>-1),Kd.pl)=_
  rw [e]
theorem items_str {t:List Nat} (h:∀ c ∈ t,c < 128) (hl:t.length≤100):items (.str t)=some (t.map fun c=>.str [c]):=by
 have h1:t.length≤big:=by unfold big;exact li1 (.n (t.length) .o) (nat_lit 0x1f6500000000018d94041a3) hl
 simp [items,h1];exact h
theorem items_lst {l:List D} (hl:l.length≤100000):items (.lst l)=some l:=by
 have h1:l.length≤big:=by unfold big;exact li1 (.n (l.length) .o) (nat_lit 0x7d940000000006365000a188063) hl
 simp [items,h1]
theorem big_n {n:Nat} (h:n≤100000):(n≤big)=True:=by simp;unfold big;exact li1 (.n n .o) (nat_lit 0x7d940000000006365000a188063) h
theorem dgt_len (w:Int) (m:Mv):(dgt w m).length=if m.p=0 then 4 else 5:=by
 unfold dgt dsq;split <;> rfl
theorem sq_iff {w q x y:Int} (x0:0≤x) (x1:x < w):(q % w=x∧q / w=y) ↔ q=y * w + x:=by
 constructor
 ·rintro⟨rfl,rfl⟩
  rw [Int.mul_comm,Int.mul_ediv_add_emod]
 ·rintro rfl
  have hw:w≠0:=by exact li2 (.z w (.z x .o)) (nat_lit 0x7df7984008d78e45a4400) x0 x1
  exact⟨by rw [Int.add_comm,Int.add_mul_emod_self_right,Int.emod_eq_of_lt x0 x1],by rw [Int.add_comm,Int.add_mul_ediv_right _ _ hw,Int.ediv_eq_zero_of_lt x0 x1,Int.zero_add]⟩
theorem dq {X:Int} {a:Nat} (h0:0≤X) (ha:0≤fd a):49 + X.toNat=a ↔ X=fd a:=by
 have:=fd_ok ha
 exact li3 (.n (X.toNat) (.n a (.z X (.z (fd a) .o)))) (nat_lit 0x1f7df8189a56e44634010dd71b4008d740095c6255635a54006124010d59265a5400) h0 this.1 (ltn (X))
theorem dsq_iff {w h q:Int} (s:Shp w h) (q0:0≤q) (q1:q < w * h) {a b:Nat} (ha:0≤fd a) (hb:0≤fd b) (ha':fd a < w) {P Q:Prop} (hp:P ↔ Q):(49 + (q % w).toNat=a∧49 + (q / w).toNat=b∧P) ↔ (q=fd b * w + fd a∧Q):=by
 obtain⟨a0,_,b0,_⟩:=on_board s q0 q1
 rw [dq a0 ha,dq b0 hb,← and_assoc,sq_iff ha ha',hp]
theorem iccf4 {w h:Int} (s:Shp w h) {a b c d:Nat} (ha:0≤fd a) (hb:0≤fd b) (hc:0≤fd c) (hd:0≤fd d) (ha':fd a < w) (hb':fd b < h) (hc':fd c < w) (hd':fd d < h)
  {cs m} (ok:MvOk (w * h) cs m):dgt w m=[a,b,c,d] ↔ (m.o=fd b * w + fd a∧m.t=fd d * w + fd c∧m.p=0):=by
 by_cases h0:m.p=0
 ·simp only [dgt,dsq,h0,if_true,List.append_nil,List.cons_append,List.nil_append,List.cons.injEq,and_true]
  refine(dsq_iff s ok.o0 ok.o1 ha hb ha' ?_)
  have:=dsq_iff s ok.t0 ok.t1 hc hd hc' (Iff.refl True)
  simpa only [and_true] using this
 ·simp [dgt,dsq,h0]
theorem iccf5 {w h:Int} (s:Shp w h) {a b c d e:Nat} (ha:0≤fd a) (hb:0≤fd b) (hc:0≤fd c) (hd:0≤fd d) (ha':fd a < w) (hb':fd b < h) (hc':fd c < w) (hd':fd d < h) (he:0≤fd e) (he':fd e < 4)
  {cs m} (ok:MvOk (w * h) cs m):dgt w m=[a,b,c,d,e] ↔ (m.o=fd b * w + fd a∧m.t=fd d * w + fd c∧m.p=5 - fd e):=by
 have h5:=fd_ok he
 have hp:=sp_q ok
 by_cases h0:m.p=0
 ·have:¬ (m.p=5 - fd e):=by exact li2 (.z (m.p) (.z (fd e) .o)) (nat_lit 0x1f7de6129101636100235d0124) he' h0
  constructor
  ·intro q
   have:=congrArg List.length q
   rw [dgt_len,if_pos h0] at this
   cases this
  ·rintro⟨_,_,q⟩;exact absurd q this
 ·simp only [dgt,dsq,h0,if_false,List.cons_append,List.nil_append,List.cons.injEq,and_true]
  exact dsq_iff s ok.o0 ok.o1 ha hb ha' (dsq_iff s ok.t0 ok.t1 hc hd hc' (by exact li5 (.n (54 - m.p.toNat) (.n e (.z (m.p) (.z (fd e) (.n (m.p.toNat) .o))))) (nat_lit 0x1f7df7df8184a640595b92375c6d00275d00257189559d695001d71b4008da9d018371b4060d19e36501839d99100436124010d59265d0126) he' h5.1 h5.2.1 (lsn (54) (m.p.toNat)) (ltn (m.p))))
theorem dgt_in {w h:Int} (s:Shp w h) {cs m} (ok:MvOk (w * h) cs m) {a b c d:Nat} {r:List Nat} (e:dgt w m=a :: b :: c :: d :: r):
  0≤fd a∧fd a < w∧0≤fd b∧fd b < h∧0≤fd c∧fd c < w∧0≤fd d∧fd d < h∧(r=[]∨∃ x,r=[x]∧0≤fd x∧fd x < 4):=by
 obtain⟨a0,a1,b0,b1,w0,w1,h1,hp,hs⟩:=on_board s ok.o0 ok.o1
 obtain⟨c0,c1,d0,d1,-,-,-,-,-⟩:=on_board s ok.t0 ok.t1
 have hq:=sp_q ok
 simp only [dgt,dsq,List.cons_append,List.nil_append,List.cons.injEq] at e
 obtain⟨e1,e2,e3,e4,e5⟩:=e
 have f:∀ {x:Int} {n:Nat},49 + x.toNat=n→0≤x→x < 8→fd n=x:=by
  intro x n h1 h2 h3
  have:49≤n∧n≤56:=by exact li3 (.n n (.n (x.toNat) (.z x .o))) (nat_lit 0x7df7dc6502038d98d004375c6d00245d002571895591695001740895b8d1910043) h1 h3 (ltn (x))
  simp only [fd,this,and_self,if_true];exact li3 (.n n (.z x (.n (x.toNat) .o))) (nat_lit 0x1f7df62449004356375c6d00255d002471891595691001691001b8d1950043) h1 h2 (ltn (x))
 rw [f e1 a0 (by exact li2 (.z (m.o % w) (.z w .o)) (nat_lit 0x1f7d74088d6407917923) a1 w1),f e2 b0 (by exact li2 (.z (m.o / w) (.z h .o)) (nat_lit 0x1f7d74088d6405917923) b1 h1),f e3 c0 (by exact li2 (.z (m.t % w) (.z w .o)) (nat_lit 0x1f7d74088d79235901e4) w1 c1),f e4 d0 (by exact li2 (.z (m.t / w) (.z h .o)) (nat_lit 0x1f7d74088d7923590164) h1 d1)]
 refine⟨a0,a1,b0,b1,c0,c1,d0,d1,?_⟩
 by_cases h0:m.p=0
 ·left;simpa [h0] using e5.symm
 ·right
  simp only [h0,if_false] at e5
  refine⟨_,e5.symm,?_⟩
  have h2:fd (54 - m.p.toNat)=5 - m.p:=by
   have:49≤54 - m.p.toNat∧54 - m.p.toNat≤56:=by exact li3 (.n (54 - m.p.toNat) (.z (m.p) (.n (m.p.toNat) .o))) (nat_lit 0x1f7df7194080e36634010dd71b40095740091c6245655a440075c6d00236a54060dc6d01834658d94060e575c5901645a4402610024) hq (lsn (54) (m.p.toNat)) (ltn (m.p))
   simp only [fd,this,and_self,if_true];exact li3 (.n (54 - m.p.toNat) (.z (m.p) (.n (m.p.toNat) .o))) (nat_lit 0x1f7df6129101524010d58dd71b40095740091c6245655a440075c6d00236a54060dc6d01834658d94060e575c5901645a4402610024) hq (lsn (54) (m.p.toNat)) (ltn (m.p))
  exact li3 (.z (fd (54 - m.p.toNat)) (.z (m.p) .o)) (nat_lit 0x1f7df7174048d68d00184a44058de61002475c5901645a4402610024) hq h0 h2
end Mine

namespace Mine
noncomputable def Tells (w h:Int) (tx:Mv→List Nat) (t:List Nat) (r:Ev (D×Kd)):Prop:=
 (r=Ev.bad∧∀ cs m,MvOk (w * h) cs m→tx m≠t)∨
 (∃ o g p:Int,r=Ev.ok (.tup [.int o,.int g,.int p],.pl)∧∀ cs m,MvOk (w * h) cs m→(tx m=t ↔ (m.o=o∧m.t=g∧m.p=p)))
theorem sub_0 (a:D) (l:List D):sub (.lst (a :: l)) (.int 0)=some a:=rfl
theorem sub_1 (a b:D) (l:List D):sub (.lst (a :: b :: l)) (.int 1)=some b:=rfl
theorem sub_2 (a b c:D) (l:List D):sub (.lst (a :: b :: c :: l)) (.int 2)=some c:=rfl
theorem sub_3 (a b c d:D) (l:List D):sub (.lst (a :: b :: c :: d :: l)) (.int 3)=some d:=rfl
theorem sub_4 (a b c d e:D) (l:List D):sub (.lst (a :: b :: c :: d :: e :: l)) (.int 4)=some e:=rfl
theorem shp_abs {w h:Int} (s:Shp w h):w.natAbs < 4294967296:=by unfold Shp at s;exact li2 (.n (w.natAbs) (.z w (.z h .o))) (nat_lit 0x1f7da4000000000000018dd7185245635d00247189158d691001d75d71840495840691c6100e56101e471840595840591c610125610124) s (lab (w))
theorem fd_abs (c:Nat):(fd c).natAbs < 4294967296:=by unfold fd;split;omega;exact li1 (.n ((-1).natAbs) .o) (nat_lit 0x1f69000000000000006375c6145100558d740051005c614401563594401400) (lab (-1))
theorem fl_abs (c:Nat):(fl c).natAbs < 4294967296:=by unfold fl;split;omega;exact li1 (.n ((-1).natAbs) .o) (nat_lit 0x1f69000000000000006375c6145100558d740051005c614401563594401400) (lab (-1))
theorem s_read_iccf (k:Nat) {w h:Int} (s:Shp w h) (t:List Nat) (asc:∀ c ∈ t,c < 128) (hl:t.length≤90):
  Tells w h (dgt w) t (callX tab (k+1) f_read_iccf [.int w,.int h,.str t]):=by
 have hL:=big_n (n:=t.length) (by exact li1 (.n (t.length) .o) (nat_lit 0x7d94002862018d940a163) hl)
 by_cases h45:t.length=4∨t.length=5
 ·have hit:=items_str asc (by exact li1 (.n (t.length) .o) (nat_lit 0x1f6501068d940a163) hl)
  have mulw:=fun q=>@v_mul (fd q) w (fd_abs q) (shp_abs s)
  have hi2:items (.lst [.int 0,.int 2])=some [.int 0,.int 2]:=rfl
  rcases h45 with h4 | h5
  ·match t,h4 with
   | [a,b,c,d],_=>
    by_cases ha:0≤fd a∧fd a < w
    ·by_cases hb:0≤fd b∧fd b < h
     ·by_cases hc:0≤fd c∧fd c < w
      ·by_cases hd:0≤fd d∧fd d < h
       ·right
        refine⟨fd b * w + fd a,fd d * w + fd c,0,?_,fun cs m ok=>iccf4 s ha.1 hb.1 hc.1 hd.1 ha.2 hb.2 hc.2 hd.2 ok⟩
        show runF (callX tab k) p_read_iccf [_,_,_]=_
        have hh:=fun r:Ev (D×Kd)=>ai (Eq.refl (some (D.int 4:D))) (ai rf (ai rf (ai hit (ai (@m_fd (a)) (ai (show 0 < big from(by decide)) (ai (@m_fd (b)) (ai (show 1 < big from(by decide)) (ai (@m_fd (c)) (ai (show 2 < big from(by decide)) (ai (@m_fd (d)) (ai (show 3 < big from(by decide)) (ai hi2 (ai (@sub_0 (D.int (fd a)) ([D.int (fd b),D.int (fd c),D.int (fd d)])) (ai (asb_t ha.1) (ai (asb_nt ha.2) (ai (Eq.refl (some (D.int (fd b):D))) (ai (asb_t hb.1) (ai (asb_nt hb.2) (ai (@sub_2 (D.int (fd a)) (D.int (fd b)) (D.int (fd c)) ([D.int (fd d)])) (ai (asb_t hc.1) (ai (asb_nt hc.2) (ai (Eq.refl (some (D.int (fd d):D))) (ai (asb_t hd.1) (ai (asb_nt hd.2) (ai (Eq.refl (some (D.int 4:D))) (ai rf (ai (@sub_1 (D.int (fd a)) (D.int (fd b)) ([D.int (fd c),D.int (fd d)])) (ai (mulw b) (ai (@sub_0 (D.int (fd a)) ([D.int (fd b),D.int (fd c),D.int (fd d)])) (ai (@sub_3 (D.int (fd a)) (D.int (fd b)) (D.int (fd c)) (D.int (fd d)) ([])) (ai (mulw d) (ai (@sub_2 (D.int (fd a)) (D.int (fd b)) (D.int (fd c)) ([D.int (fd d)])) (Eq.refl r)))))))))))))))))))))))))))))))))
        exact fun_eq [.v _,.b false,.b false,.l _,.d _ _,.d _ _,.d _ _,.d _ _,.l _,.v _,.b true,.b false,.v _,.b true,.b false,.v _,.b true,.b false,.v _,.b true,.b false,.v _,.b false,.v _,.d _ _,.v _,.v _,.d _ _,.v _] rfl (hh _)
       ·left
        refine⟨?_,fun cs m ok e=>hd (by have:=dgt_in s ok e;simp only [this,and_self])⟩
        show runF (callX tab k) p_read_iccf [_,_,_]=_
        by_cases hd0:0≤fd d
        ·have hd1:¬ fd d < h:=fun x=>hd ⟨hd0,x⟩
         have hh:=ai (Eq.refl (some (D.int 4:D))) (ai rf (ai rf (ai hit (ai (@m_fd (a)) (ai (show 0 < big from(by decide)) (ai (@m_fd (b)) (ai (show 1 < big from(by decide)) (ai (@m_fd (c)) (ai (show 2 < big from(by decide)) (ai (@m_fd (d)) (ai (show 3 < big from(by decide)) (ai hi2 (ai (@sub_0 (D.int (fd a)) ([D.int (fd b),D.int (fd c),D.int (fd d)])) (ai (asb_t ha.1) (ai (asb_nt ha.2) (ai (Eq.refl (some (D.int (fd b):D))) (ai (asb_t hb.1) (ai (asb_nt hb.2) (ai (@sub_2 (D.int (fd a)) (D.int (fd b)) (D.int (fd c)) ([D.int (fd d)])) (ai (asb_t hc.1) (ai (asb_nt hc.2) (ai (Eq.refl (some (D.int (fd d):D))) (ai (asb_t hd0) (ai (asb_nf hd1) (trivial)))))))))))))))))))))))))
         exact fun_bad [.v _,.b false,.b false,.l _,.d _ _,.d _ _,.d _ _,.d _ _,.l _,.v _,.b true,.b false,.v _,.b true,.b false,.v _,.b true,.b false,.v _,.b true,.b true] rfl hh
        ·have hh:=ai (Eq.refl (some (D.int 4:D))) (ai rf (ai rf (ai hit (ai (@m_fd (a)) (ai (show 0 < big from(by decide)) (ai (@m_fd (b)) (ai (show 1 < big from(by decide)) (ai (@m_fd (c)) (ai (show 2 < big from(by decide)) (ai (@m_fd (d)) (ai (show 3 < big from(by decide)) (ai hi2 (ai (@sub_0 (D.int (fd a)) ([D.int (fd b),D.int (fd c),D.int (fd d)])) (ai (asb_t ha.1) (ai (asb_nt ha.2) (ai (Eq.refl (some (D.int (fd b):D))) (ai (asb_t hb.1) (ai (asb_nt hb.2) (ai (@sub_2 (D.int (fd a)) (D.int (fd b)) (D.int (fd c)) ([D.int (fd d)])) (ai (asb_t hc.1) (ai (asb_nt hc.2) (ai (Eq.refl (some (D.int (fd d):D))) (ai (asb_f hd0) (ai rt (trivial)))))))))))))))))))))))))
         exact fun_bad [.v _,.b false,.b false,.l _,.d _ _,.d _ _,.d _ _,.d _ _,.l _,.v _,.b true,.b false,.v _,.b true,.b false,.v _,.b true,.b false,.v _,.b false,.b true] rfl hh
      ·left
       refine⟨?_,fun cs m ok e=>hc (by have:=dgt_in s ok e;simp only [this,and_self])⟩
       show runF (callX tab k) p_read_iccf [_,_,_]=_
       by_cases hd0:0≤fd c
       ·have hd1:¬ fd c < w:=fun x=>hc ⟨hd0,x⟩
        have hh:=ai (Eq.refl (some (D.int 4:D))) (ai rf (ai rf (ai hit (ai (@m_fd (a)) (ai (show 0 < big from(by decide)) (ai (@m_fd (b)) (ai (show 1 < big from(by decide)) (ai (@m_fd (c)) (ai (show 2 < big from(by decide)) (ai (@m_fd (d)) (ai (show 3 < big from(by decide)) (ai hi2 (ai (@sub_0 (D.int (fd a)) ([D.int (fd b),D.int (fd c),D.int (fd d)])) (ai (asb_t ha.1) (ai (asb_nt ha.2) (ai (Eq.refl (some (D.int (fd b):D))) (ai (asb_t hb.1) (ai (asb_nt hb.2) (ai (@sub_2 (D.int (fd a)) (D.int (fd b)) (D.int (fd c)) ([D.int (fd d)])) (ai (asb_t hd0) (ai (asb_nf hd1) (ai rt (trivial)))))))))))))))))))))))
        exact fun_bad [.v _,.b false,.b false,.l _,.d _ _,.d _ _,.d _ _,.d _ _,.l _,.v _,.b true,.b false,.v _,.b true,.b false,.v _,.b true,.b true,.b true] rfl hh
       ·have hh:=ai (Eq.refl (some (D.int 4:D))) (ai rf (ai rf (ai hit (ai (@m_fd (a)) (ai (show 0 < big from(by decide)) (ai (@m_fd (b)) (ai (show 1 < big from(by decide)) (ai (@m_fd (c)) (ai (show 2 < big from(by decide)) (ai (@m_fd (d)) (ai (show 3 < big from(by decide)) (ai hi2 (ai (@sub_0 (D.int (fd a)) ([D.int (fd b),D.int (fd c),D.int (fd d)])) (ai (asb_t ha.1) (ai (asb_nt ha.2) (ai (Eq.refl (some (D.int (fd b):D))) (ai (asb_t hb.1) (ai (asb_nt hb.2) (ai (@sub_2 (D.int (fd a)) (D.int (fd b)) (D.int (fd c)) ([D.int (fd d)])) (ai (asb_f hd0) (ai rt (ai rt (trivial)))))))))))))))))))))))
        exact fun_bad [.v _,.b false,.b false,.l _,.d _ _,.d _ _,.d _ _,.d _ _,.l _,.v _,.b true,.b false,.v _,.b true,.b false,.v _,.b false,.b true,.b true] rfl hh
     ·left
      refine⟨?_,fun cs m ok e=>hb (by have:=dgt_in s ok e;simp only [this,and_self])⟩
      show runF (callX tab k) p_read_iccf [_,_,_]=_
      by_cases hd0:0≤fd b
      ·have hd1:¬ fd b < h:=fun x=>hb ⟨hd0,x⟩
       have hh:=ai (Eq.refl (some (D.int 4:D))) (ai rf (ai rf (ai hit (ai (@m_fd (a)) (ai (show 0 < big from(by decide)) (ai (@m_fd (b)) (ai (show 1 < big from(by decide)) (ai (@m_fd (c)) (ai (show 2 < big from(by decide)) (ai (@m_fd (d)) (ai (show 3 < big from(by decide)) (ai hi2 (ai (@sub_0 (D.int (fd a)) ([D.int (fd b),D.int (fd c),D.int (fd d)])) (ai (asb_t ha.1) (ai (asb_nt ha.2) (ai (Eq.refl (some (D.int (fd b):D))) (ai (asb_t hd0) (ai (asb_nf hd1) (trivial)))))))))))))))))))
       exact fun_bad [.v _,.b false,.b false,.l _,.d _ _,.d _ _,.d _ _,.d _ _,.l _,.v _,.b true,.b false,.v _,.b true,.b true] rfl hh
      ·have hh:=ai (Eq.refl (some (D.int 4:D))) (ai rf (ai rf (ai hit (ai (@m_fd (a)) (ai (show 0 < big from(by decide)) (ai (@m_fd (b)) (ai (show 1 < big from(by decide)) (ai (@m_fd (c)) (ai (show 2 < big from(by decide)) (ai (@m_fd (d)) (ai (show 3 < big from(by decide)) (ai hi2 (ai (@sub_0 (D.int (fd a)) ([D.int (fd b),D.int (fd c),D.int (fd d)])) (ai (asb_t ha.1) (ai (asb_nt ha.2) (ai (Eq.refl (some (D.int (fd b):D))) (ai (asb_f hd0) (ai rt (trivial)))))))))))))))))))
       exact fun_bad [.v _,.b false,.b false,.l _,.d _ _,.d _ _,.d _ _,.d _ _,.l _,.v _,.b true,.b false,.v _,.b false,.b true] rfl hh
    ·left
     refine⟨?_,fun cs m ok e=>ha (by have:=dgt_in s ok e;simp only [this,and_self])⟩
     show runF (callX tab k) p_read_iccf [_,_,_]=_
     by_cases hd0:0≤fd a
     ·have hd1:¬ fd a < w:=fun x=>ha ⟨hd0,x⟩
      have hh:=ai (Eq.refl (some (D.int 4:D))) (ai rf (ai rf (ai hit (ai (@m_fd (a)) (ai (show 0 < big from(by decide)) (ai (@m_fd (b)) (ai (show 1 < big from(by decide)) (ai (@m_fd (c)) (ai (show 2 < big from(by decide)) (ai (@m_fd (d)) (ai (show 3 < big from(by decide)) (ai hi2 (ai (@sub_0 (D.int (fd a)) ([D.int (fd b),D.int (fd c),D.int (fd d)])) (ai (asb_t hd0) (ai (asb_nf hd1) (ai rt (trivial)))))))))))))))))
      exact fun_bad [.v _,.b false,.b false,.l _,.d _ _,.d _ _,.d _ _,.d _ _,.l _,.v _,.b true,.b true,.b true] rfl hh
     ·have hh:=ai (Eq.refl (some (D.int 4:D))) (ai rf (ai rf (ai hit (ai (@m_fd (a)) (ai (show 0 < big from(by decide)) (ai (@m_fd (b)) (ai (show 1 < big from(by decide)) (ai (@m_fd (c)) (ai (show 2 < big from(by decide)) (ai (@m_fd (d)) (ai (show 3 < big from(by decide)) (ai hi2 (ai (@sub_0 (D.int (fd a)) ([D.int (fd b),D.int (fd c),D.int (fd d)])) (ai (asb_f hd0) (ai rt (ai rt (trivial)))))))))))))))))
      exact fun_bad [.v _,.b false,.b false,.l _,.d _ _,.d _ _,.d _ _,.d _ _,.l _,.v _,.b false,.b true,.b true] rfl hh
  ·match t,h5 with
   | [a,b,c,d,x],_=>
    by_cases ha:0≤fd a∧fd a < w
    ·by_cases hb:0≤fd b∧fd b < h
     ·by_cases hc:0≤fd c∧fd c < w
      ·by_cases hd:0≤fd d∧fd d < h
       ·by_cases hx:0≤fd x∧fd x < 4
        ·right
         refine⟨fd b * w + fd a,fd d * w + fd c,5 - fd x,?_,fun cs m ok=>iccf5 s ha.1 hb.1 hc.1 hd.1 ha.2 hb.2 hc.2 hd.2 hx.1 hx.2 ok⟩
         show runF (callX tab k) p_read_iccf [_,_,_]=_
         have hh:=fun r:Ev (D×Kd)=>ai (Eq.refl (some (D.int 5:D))) (ai rt (ai (Eq.refl (some (D.int 5:D))) (ai rf (ai hit (ai (@m_fd (a)) (ai (show 0 < big from(by decide)) (ai (@m_fd (b)) (ai (show 1 < big from(by decide)) (ai (@m_fd (c)) (ai (show 2 < big from(by decide)) (ai (@m_fd (d)) (ai (show 3 < big from(by decide)) (ai (@m_fd (x)) (ai (show 4 < big from(by decide)) (ai hi2 (ai (@sub_0 (D.int (fd a)) ([D.int (fd b),D.int (fd c),D.int (fd d),D.int (fd x)])) (ai (asb_t ha.1) (ai (asb_nt ha.2) (ai (Eq.refl (some (D.int (fd b):D))) (ai (asb_t hb.1) (ai (asb_nt hb.2) (ai (@sub_2 (D.int (fd a)) (D.int (fd b)) (D.int (fd c)) ([D.int (fd d),D.int (fd x)])) (ai (asb_t hc.1) (ai (asb_nt hc.2) (ai (Eq.refl (some (D.int (fd d):D))) (ai (asb_t hd.1) (ai (asb_nt hd.2) (ai (Eq.refl (some (D.int 5:D))) (ai rt (ai (@sub_4 (D.int (fd a)) (D.int (fd b)) (D.int (fd c)) (D.int (fd d)) (D.int (fd x)) ([])) (ai (asb_t hx.1) (ai (asb_nt hx.2) (ai (@sub_4 (D.int (fd a)) (D.int (fd b)) (D.int (fd c)) (D.int (fd d)) (D.int (fd x)) ([])) (ai (@sub_1 (D.int (fd a)) (D.int (fd b)) ([D.int (fd c),D.int (fd d),D.int (fd x)])) (ai (mulw b) (ai (@sub_0 (D.int (fd a)) ([D.int (fd b),D.int (fd c),D.int (fd d),D.int (fd x)])) (ai (@sub_3 (D.int (fd a)) (D.int (fd b)) (D.int (fd c)) (D.int (fd d)) ([D.int (fd x)])) (ai (mulw d) (ai (@sub_2 (D.int (fd a)) (D.int (fd b)) (D.int (fd c)) ([D.int (fd d),D.int (fd x)])) (Eq.refl r))))))))))))))))))))))))))))))))))))))))
         exact fun_eq [.v (.int 5),.b true,.v (.int 5),.b false,.l ([a,b,c,d,x].map fun c=>D.str [c]),.d (.int (fd a)) .pl,.d (.int (fd b)) .pl,.d (.int (fd c)) .pl,.d (.int (fd d)) .pl,.d (.int (fd x)) .pl,.l [.int 0,.int 2],.v (.int (fd a)),.b true,.b false,.v (.int (fd b)),.b true,.b false,.v (.int (fd c)),.b true,.b false,.v (.int (fd d)),.b true,.b false,.v (.int 5),.b true,.v (.int (fd x)),.b true,.b false,.v (.int (fd x)),.v (.int (fd b)),.d (.int (fd b * w)) .pl,.v (.int (fd a)),.v (.int (fd d)),.d (.int (fd d * w)) .pl,.v (.int (fd c))] rfl (Eq.mp (by kernel_rfl) (hh (Ev.ok (.tup [.int (fd b * w + fd a),.int (fd d * w + fd c),.int (5 - fd x)],.pl))))
        ·left
         refine⟨?_,fun cs m ok e=>hx (by have:=dgt_in s ok e;simpa using this.2.2.2.2.2.2.2.2)⟩
         show runF (callX tab k) p_read_iccf [_,_,_]=_
         by_cases hd0:0≤fd x
         ·have hd1:¬ fd x < 4:=fun y=>hx ⟨hd0,y⟩
          have hh:=ai (Eq.refl (some (D.int 5:D))) (ai rt (ai (Eq.refl (some (D.int 5:D))) (ai rf (ai hit (ai (@m_fd (a)) (ai (show 0 < big from(by decide)) (ai (@m_fd (b)) (ai (show 1 < big from(by decide)) (ai (@m_fd (c)) (ai (show 2 < big from(by decide)) (ai (@m_fd (d)) (ai (show 3 < big from(by decide)) (ai (@m_fd (x)) (ai (show 4 < big from(by decide)) (ai hi2 (ai (@sub_0 (D.int (fd a)) ([D.int (fd b),D.int (fd c),D.int (fd d),D.int (fd x)])) (ai (asb_t ha.1) (ai (asb_nt ha.2) (ai (Eq.refl (some (D.int (fd b):D))) (ai (asb_t hb.1) (ai (asb_nt hb.2) (ai (@sub_2 (D.int (fd a)) (D.int (fd b)) (D.int (fd c)) ([D.int (fd d),D.int (fd x)])) (ai (asb_t hc.1) (ai (asb_nt hc.2) (ai (Eq.refl (some (D.int (fd d):D))) (ai (asb_t hd.1) (ai (asb_nt hd.2) (ai (Eq.refl (some (D.int 5:D))) (ai rt (ai (@sub_4 (D.int (fd a)) (D.int (fd b)) (D.int (fd c)) (D.int (fd d)) (D.int (fd x)) ([])) (ai (asb_t hd0) (ai (asb_nf hd1) (trivial)))))))))))))))))))))))))))))))))
          exact fun_bad [.v _,.b true,.v _,.b false,.l _,.d _ _,.d _ _,.d _ _,.d _ _,.d _ _,.l _,.v _,.b true,.b false,.v _,.b true,.b false,.v _,.b true,.b false,.v _,.b true,.b false,.v _,.b true,.v _,.b true,.b true] rfl hh
         ·have hh:=ai (Eq.refl (some (D.int 5:D))) (ai rt (ai (Eq.refl (some (D.int 5:D))) (ai rf (ai hit (ai (@m_fd (a)) (ai (show 0 < big from(by decide)) (ai (@m_fd (b)) (ai (show 1 < big from(by decide)) (ai (@m_fd (c)) (ai (show 2 < big from(by decide)) (ai (@m_fd (d)) (ai (show 3 < big from(by decide)) (ai (@m_fd (x)) (ai (show 4 < big from(by decide)) (ai hi2 (ai (@sub_0 (D.int (fd a)) ([D.int (fd b),D.int (fd c),D.int (fd d),D.int (fd x)])) (ai (asb_t ha.1) (ai (asb_nt ha.2) (ai (Eq.refl (some (D.int (fd b):D))) (ai (asb_t hb.1) (ai (asb_nt hb.2) (ai (@sub_2 (D.int (fd a)) (D.int (fd b)) (D.int (fd c)) ([D.int (fd d),D.int (fd x)])) (ai (asb_t hc.1) (ai (asb_nt hc.2) (ai (Eq.refl (some (D.int (fd d):D))) (ai (asb_t hd.1) (ai (asb_nt hd.2) (ai (Eq.refl (some (D.int 5:D))) (ai rt (ai (@sub_4 (D.int (fd a)) (D.int (fd b)) (D.int (fd c)) (D.int (fd d)) (D.int (fd x)) ([])) (ai (asb_f hd0) (ai rt (trivial)))))))))))))))))))))))))))))))))
          exact fun_bad [.v _,.b true,.v _,.b false,.l _,.d _ _,.d _ _,.d _ _,.d _ _,.d _ _,.l _,.v _,.b true,.b false,.v _,.b true,.b false,.v _,.b true,.b false,.v _,.b true,.b false,.v _,.b true,.v _,.b false,.b true] rfl hh
       ·left
        refine⟨?_,fun cs m ok e=>hd (by have:=dgt_in s ok e;simp only [this,and_self])⟩
        show runF (callX tab k) p_read_iccf [_,_,_]=_
        by_cases hd0:0≤fd d
        ·have hd1:¬ fd d < h:=fun x=>hd ⟨hd0,x⟩
         have hh:=ai (Eq.refl (some (D.int 5:D))) (ai rt (ai (Eq.refl (some (D.int 5:D))) (ai rf (ai hit (ai (@m_fd (a)) (ai (show 0 < big from(by decide)) (ai (@m_fd (b)) (ai (show 1 < big from(by decide)) (ai (@m_fd (c)) (ai (show 2 < big from(by decide)) (ai (@m_fd (d)) (ai (show 3 < big from(by decide)) (ai (@m_fd (x)) (ai (show 4 < big from(by decide)) (ai hi2 (ai (@sub_0 (D.int (fd a)) ([D.int (fd b),D.int (fd c),D.int (fd d),D.int (fd x)])) (ai (asb_t ha.1) (ai (asb_nt ha.2) (ai (Eq.refl (some (D.int (fd b):D))) (ai (asb_t hb.1) (ai (asb_nt hb.2) (ai (@sub_2 (D.int (fd a)) (D.int (fd b)) (D.int (fd c)) ([D.int (fd d),D.int (fd x)])) (ai (asb_t hc.1) (ai (asb_nt hc.2) (ai (Eq.refl (some (D.int (fd d):D))) (ai (asb_t hd0) (ai (asb_nf hd1) (trivial))))))))))))))))))))))))))))
         exact fun_bad [.v _,.b true,.v _,.b false,.l _,.d _ _,.d _ _,.d _ _,.d _ _,.d _ _,.l _,.v _,.b true,.b false,.v _,.b true,.b false,.v _,.b true,.b false,.v _,.b true,.b true] rfl hh
        ·have hh:=ai (Eq.refl (some (D.int 5:D))) (ai rt (ai (Eq.refl (some (D.int 5:D))) (ai rf (ai hit (ai (@m_fd (a)) (ai (show 0 < big from(by decide)) (ai (@m_fd (b)) (ai (show 1 < big from(by decide)) (ai (@m_fd (c)) (ai (show 2 < big from(by decide)) (ai (@m_fd (d)) (ai (show 3 < big from(by decide)) (ai (@m_fd (x)) (ai (show 4 < big from(by decide)) (ai hi2 (ai (@sub_0 (D.int (fd a)) ([D.int (fd b),D.int (fd c),D.int (fd d),D.int (fd x)])) (ai (asb_t ha.1) (ai (asb_nt ha.2) (ai (Eq.refl (some (D.int (fd b):D))) (ai (asb_t hb.1) (ai (asb_nt hb.2) (ai (@sub_2 (D.int (fd a)) (D.int (fd b)) (D.int (fd c)) ([D.int (fd d),D.int (fd x)])) (ai (asb_t hc.1) (ai (asb_nt hc.2) (ai (Eq.refl (some (D.int (fd d):D))) (ai (asb_f hd0) (ai rt (trivial))))))))))))))))))))))))))))
         exact fun_bad [.v _,.b true,.v _,.b false,.l _,.d _ _,.d _ _,.d _ _,.d _ _,.d _ _,.l _,.v _,.b true,.b false,.v _,.b true,.b false,.v _,.b true,.b false,.v _,.b false,.b true] rfl hh
      ·left
       refine⟨?_,fun cs m ok e=>hc (by have:=dgt_in s ok e;simp only [this,and_self])⟩
       show runF (callX tab k) p_read_iccf [_,_,_]=_
       by_cases hd0:0≤fd c
       ·have hd1:¬ fd c < w:=fun x=>hc ⟨hd0,x⟩
        have hh:=ai (Eq.refl (some (D.int 5:D))) (ai rt (ai (Eq.refl (some (D.int 5:D))) (ai rf (ai hit (ai (@m_fd (a)) (ai (show 0 < big from(by decide)) (ai (@m_fd (b)) (ai (show 1 < big from(by decide)) (ai (@m_fd (c)) (ai (show 2 < big from(by decide)) (ai (@m_fd (d)) (ai (show 3 < big from(by decide)) (ai (@m_fd (x)) (ai (show 4 < big from(by decide)) (ai hi2 (ai (@sub_0 (D.int (fd a)) ([D.int (fd b),D.int (fd c),D.int (fd d),D.int (fd x)])) (ai (asb_t ha.1) (ai (asb_nt ha.2) (ai (Eq.refl (some (D.int (fd b):D))) (ai (asb_t hb.1) (ai (asb_nt hb.2) (ai (@sub_2 (D.int (fd a)) (D.int (fd b)) (D.int (fd c)) ([D.int (fd d),D.int (fd x)])) (ai (asb_t hd0) (ai (asb_nf hd1) (ai rt (trivial))))))))))))))))))))))))))
        exact fun_bad [.v _,.b true,.v _,.b false,.l _,.d _ _,.d _ _,.d _ _,.d _ _,.d _ _,.l _,.v _,.b true,.b false,.v _,.b true,.b false,.v _,.b true,.b true,.b true] rfl hh
       ·have hh:=ai (Eq.refl (some (D.int 5:D))) (ai rt (ai (Eq.refl (some (D.int 5:D))) (ai rf (ai hit (ai (@m_fd (a)) (ai (show 0 < big from(by decide)) (ai (@m_fd (b)) (ai (show 1 < big from(by decide)) (ai (@m_fd (c)) (ai (show 2 < big from(by decide)) (ai (@m_fd (d)) (ai (show 3 < big from(by decide)) (ai (@m_fd (x)) (ai (show 4 < big from(by decide)) (ai hi2 (ai (@sub_0 (D.int (fd a)) ([D.int (fd b),D.int (fd c),D.int (fd d),D.int (fd x)])) (ai (asb_t ha.1) (ai (asb_nt ha.2) (ai (Eq.refl (some (D.int (fd b):D))) (ai (asb_t hb.1) (ai (asb_nt hb.2) (ai (@sub_2 (D.int (fd a)) (D.int (fd b)) (D.int (fd c)) ([D.int (fd d),D.int (fd x)])) (ai (asb_f hd0) (ai rt (ai rt (trivial))))))))))))))))))))))))))
        exact fun_bad [.v _,.b true,.v _,.b false,.l _,.d _ _,.d _ _,.d _ _,.d _ _,.d _ _,.l _,.v _,.b true,.b false,.v _,.b true,.b false,.v _,.b false,.b true,.b true] rfl hh
     ·left
      refine⟨?_,fun cs m ok e=>hb (by have:=dgt_in s ok e;simp only [this,and_self])⟩
      show runF (callX tab k) p_read_iccf [_,_,_]=_
      by_cases hd0:0≤fd b
      ·have hd1:¬ fd b < h:=fun x=>hb ⟨hd0,x⟩
       have hh:=ai (Eq.refl (some (D.int 5:D))) (ai rt (ai (Eq.refl (some (D.int 5:D))) (ai rf (ai hit (ai (@m_fd (a)) (ai (show 0 < big from(by decide)) (ai (@m_fd (b)) (ai (show 1 < big from(by decide)) (ai (@m_fd (c)) (ai (show 2 < big from(by decide)) (ai (@m_fd (d)) (ai (show 3 < big from(by decide)) (ai (@m_fd (x)) (ai (show 4 < big from(by decide)) (ai hi2 (ai (@sub_0 (D.int (fd a)) ([D.int (fd b),D.int (fd c),D.int (fd d),D.int (fd x)])) (ai (asb_t ha.1) (ai (asb_nt ha.2) (ai (Eq.refl (some (D.int (fd b):D))) (ai (asb_t hd0) (ai (asb_nf hd1) (trivial))))))))))))))))))))))
       exact fun_bad [.v _,.b true,.v _,.b false,.l _,.d _ _,.d _ _,.d _ _,.d _ _,.d _ _,.l _,.v _,.b true,.b false,.v _,.b true,.b true] rfl hh
      ·have hh:=ai (Eq.refl (some (D.int 5:D))) (ai rt (ai (Eq.refl (some (D.int 5:D))) (ai rf (ai hit (ai (@m_fd (a)) (ai (show 0 < big from(by decide)) (ai (@m_fd (b)) (ai (show 1 < big from(by decide)) (ai (@m_fd (c)) (ai (show 2 < big from(by decide)) (ai (@m_fd (d)) (ai (show 3 < big from(by decide)) (ai (@m_fd (x)) (ai (show 4 < big from(by decide)) (ai hi2 (ai (@sub_0 (D.int (fd a)) ([D.int (fd b),D.int (fd c),D.int (fd d),D.int (fd x)])) (ai (asb_t ha.1) (ai (asb_nt ha.2) (ai (Eq.refl (some (D.int (fd b):D))) (ai (asb_f hd0) (ai rt (trivial))))))))))))))))))))))
       exact fun_bad [.v _,.b true,.v _,.b false,.l _,.d _ _,.d _ _,.d _ _,.d _ _,.d _ _,.l _,.v _,.b true,.b false,.v _,.b false,.b true] rfl hh
    ·left
     refine⟨?_,fun cs m ok e=>ha (by have:=dgt_in s ok e;simp only [this,and_self])⟩
     show runF (callX tab k) p_read_iccf [_,_,_]=_
     by_cases hd0:0≤fd a
     ·have hd1:¬ fd a < w:=fun x=>ha ⟨hd0,x⟩
      have hh:=ai (Eq.refl (some (D.int 5:D))) (ai rt (ai (Eq.refl (some (D.int 5:D))) (ai rf (ai hit (ai (@m_fd (a)) (ai (show 0 < big from(by decide)) (ai (@m_fd (b)) (ai (show 1 < big from(by decide)) (ai (@m_fd (c)) (ai (show 2 < big from(by decide)) (ai (@m_fd (d)) (ai (show 3 < big from(by decide)) (ai (@m_fd (x)) (ai (show 4 < big from(by decide)) (ai hi2 (ai (@sub_0 (D.int (fd a)) ([D.int (fd b),D.int (fd c),D.int (fd d),D.int (fd x)])) (ai (asb_t hd0) (ai (asb_nf hd1) (ai rt (trivial))))))))))))))))))))
      exact fun_bad [.v _,.b true,.v _,.b false,.l _,.d _ _,.d _ _,.d _ _,.d _ _,.d _ _,.l _,.v _,.b true,.b true,.b true] rfl hh
     ·have hh:=ai (Eq.refl (some (D.int 5:D))) (ai rt (ai (Eq.refl (some (D.int 5:D))) (ai rf (ai hit (ai (@m_fd (a)) (ai (show 0 < big from(by decide)) (ai (@m_fd (b)) (ai (show 1 < big from(by decide)) (ai (@m_fd (c)) (ai (show 2 < big from(by decide)) (ai (@m_fd (d)) (ai (show 3 < big from(by decide)) (ai (@m_fd (x)) (ai (show 4 < big from(by decide)) (ai hi2 (ai (@sub_0 (D.int (fd a)) ([D.int (fd b),D.int (fd c),D.int (fd d),D.int (fd x)])) (ai (asb_f hd0) (ai rt (ai rt (trivial))))))))))))))))))))
      exact fun_bad [.v _,.b true,.v _,.b false,.l _,.d _ _,.d _ _,.d _ _,.d _ _,.d _ _,.l _,.v _,.b false,.b true,.b true] rfl hh
 ·left
  have h4:¬ ((t.length:Int)=4):=by exact li1 (.n (t.length) .o) (nat_lit 0x1f79840456379d6d01636d0123) h45
  have h5:¬ ((t.length:Int)=5):=by exact li1 (.n (t.length) .o) (nat_lit 0x1f79840556379d6d01636d0123) h45
  refine⟨?_,fun cs m ok e=>h45 (by rw [← e,dgt_len];split <;> simp)⟩
  show runF (callX tab k) p_read_iccf [_,_,_]=_
  have n4:¬ (t.length=4):=by exact li1 (.n (t.length) .o) (nat_lit 0x7de6d0123798404563) h4
  have n5:¬ (t.length=5):=by exact li1 (.n (t.length) .o) (nat_lit 0x7de6d0163798405563) h5
  have hh:=ai (@v_lens (t) (by simp [hL])) (ai (asb_nf h4) (ai (@v_lens (t) (by simp [hL])) (ai (asb_nf h5) (trivial))))
  exact fun_bad [.v _,.b true,.v _,.b true] rfl hh
end Mine

namespace Mine
noncomputable def rsq (w h:Int) (a b:Nat):Int:=if 0≤fl a∧fl a < w∧0≤fd b∧fd b < h then fd b * w + fl a else -1
theorem s_read_square (k:Nat) {w h:Int} (s:Shp w h) (a b:Nat):callX tab (k+1) f_read_square [.int w,.int h,.str [a,b]]=Ev.ok (.int (rsq w h a b),.pl):=by
 have e0:sub (.str [a,b]) (.int 0)=some (.str [a]):=rfl
 have e1:sub (.str [a,b]) (.int 1)=some (.str [b]):=rfl
 show runF (callX tab k) p_read_square [_,_,_]=_
 by_cases h1:fl a < 0
 ·have:¬ (0≤fl a∧fl a < w∧0≤fd b∧fd b < h):=by exact li1 (.z (fl a) (.z w (.z (fd b) (.z h .o)))) (nat_lit 0x1f79c71c5e69569500179235a34005d0023) h1
  have er:rsq w h a b=-1:=by unfold rsq;rw [if_neg this]
  have hh:=fun r:Ev (D×Kd)=>ai (Eq.refl (some (D.int 2:D))) (ai rf (ai e0 (ai (@m_fl (a)) (ai e1 (ai (@m_fd (b)) (ai (asb_t h1) (ai rt (Eq.refl r))))))))
  exact Eq.trans (fun_eq (r:=(D.int (-1),Kd.pl)) [.v _,.b false,.v _,.d _ _,.v _,.d _ _,.b true,.b true] rfl (hh _)) (by rw [er])
 ·by_cases h2:w≤fl a
  ·have:¬ (0≤fl a∧fl a < w∧0≤fd b∧fd b < h):=by exact li1 (.z (fl a) (.z w (.z (fd b) (.z h .o)))) (nat_lit 0x7de71c7179a55a54005e48d68d00168e4) h2
   have er:rsq w h a b=-1:=by unfold rsq;rw [if_neg this]
   have hh:=fun r:Ev (D×Kd)=>ai (Eq.refl (some (D.int 2:D))) (ai rf (ai e0 (ai (@m_fl (a)) (ai e1 (ai (@m_fd (b)) (ai (asb_f h1) (ai (asb_t h2) (ai rt (Eq.refl r)))))))))
   exact Eq.trans (fun_eq (r:=(D.int (-1),Kd.pl)) [.v _,.b false,.v _,.d _ _,.v _,.d _ _,.b false,.b true,.b true] rfl (hh _)) (by rw [er])
  ·by_cases h3:fd b < 0
   ·have:¬ (0≤fl a∧fl a < w∧0≤fd b∧fd b < h):=by exact li1 (.z (fl a) (.z w (.z (fd b) (.z h .o)))) (nat_lit 0x1f79c71c5e69569500179235a34005d0025) h3
    have er:rsq w h a b=-1:=by unfold rsq;rw [if_neg this]
    have hh:=fun r:Ev (D×Kd)=>ai (Eq.refl (some (D.int 2:D))) (ai rf (ai e0 (ai (@m_fl (a)) (ai e1 (ai (@m_fd (b)) (ai (asb_f h1) (ai (asb_f h2) (ai (asb_t h3) (ai rt (Eq.refl r))))))))))
    exact Eq.trans (fun_eq (r:=(D.int (-1),Kd.pl)) [.v _,.b false,.v _,.d _ _,.v _,.d _ _,.b false,.b false,.b true,.b true] rfl (hh _)) (by rw [er])
   ·by_cases h4:h≤fd b
    ·have:¬ (0≤fl a∧fl a < w∧0≤fd b∧fd b < h):=by exact li1 (.z (fl a) (.z w (.z (fd b) (.z h .o)))) (nat_lit 0x7de71c7179a55a54005e48d68d0016966) h4
     have er:rsq w h a b=-1:=by unfold rsq;rw [if_neg this]
     have hh:=fun r:Ev (D×Kd)=>ai (Eq.refl (some (D.int 2:D))) (ai rf (ai e0 (ai (@m_fl (a)) (ai e1 (ai (@m_fd (b)) (ai (asb_f h1) (ai (asb_f h2) (ai (asb_f h3) (ai (asb_t h4) (Eq.refl r))))))))))
     exact Eq.trans (fun_eq (r:=(D.int (-1),Kd.pl)) [.v _,.b false,.v _,.d _ _,.v _,.d _ _,.b false,.b false,.b false,.b true] rfl (hh _)) (by rw [er])
    ·have:(0≤fl a∧fl a < w∧0≤fd b∧fd b < h):=by exact li4 (.z (fl a) (.z w (.z (fd b) (.z h .o)))) (nat_lit 0x1f7df7dc71c5e69569500179235a340079696679740095e5a391e5d0023) h1 h2 h3 h4
     have er:rsq w h a b=fd b * w + fl a:=by unfold rsq;rw [if_pos this]
     have hh:=fun r:Ev (D×Kd)=>ai (Eq.refl (some (D.int 2:D))) (ai rf (ai e0 (ai (@m_fl (a)) (ai e1 (ai (@m_fd (b)) (ai (asb_f h1) (ai (asb_f h2) (ai (asb_f h3) (ai (asb_f h4) (ai (@v_mul (fd b) (w) (by simp [fd_abs]) (by simp [shp_abs s])) (Eq.refl r)))))))))))
     exact Eq.trans (fun_eq (r:=(D.int (fd b * w + fl a),Kd.pl)) [.v _,.b false,.v _,.d _ _,.v _,.d _ _,.b false,.b false,.b false,.b false,.d _ _] rfl (hh _)) (by rw [er])
theorem dm {w x y q:Int} (h0:0≤x) (h1:x < w) (e:q=y * w + x):q % w=x∧q / w=y:=by
 have hw:w≠0:=Int.ne_of_gt (Int.lt_of_le_of_lt h0 h1)
 rw [e,Int.add_comm,Int.add_mul_emod_self_right,Int.add_mul_ediv_right _ _ hw,Int.emod_eq_of_lt h0 h1,Int.ediv_eq_zero_of_lt h0 h1,Int.zero_add]
 exact⟨rfl,rfl⟩
theorem fl_nat {i:Int} {a:Nat} (h0:0≤i) (h1:i < 8) (e:97 + i.toNat=a):fl a=i:=by
 have h:97≤a∧a≤104:=by exact li3 (.n a (.z i (.n (i.toNat) .o))) (nat_lit 0x7df7dc6502068d98d004675c6d00255d002471891595691001b8d19500465d0224) h1 e (ltn (i))
 rw [fl,if_pos h];exact li3 (.n a (.z i (.n (i.toNat) .o))) (nat_lit 0x1f7df62449004656375c6d00255d002471891595691001b8d19500465a4400) h0 e (ltn (i))
theorem fd_nat {i:Int} {a:Nat} (h0:0≤i) (h1:i < 8) (e:49 + i.toNat=a):fd a=i:=by
 have h:49≤a∧a≤56:=by exact li3 (.n a (.z i (.n (i.toNat) .o))) (nat_lit 0x7df7dc6502038d98d004375c6d00255d002471891595691001b8d19500435d0224) h1 e (ltn (i))
 rw [fd,if_pos h];exact li3 (.n a (.z i (.n (i.toNat) .o))) (nat_lit 0x1f7df62449004356375c6d00255d002471891595691001b8d19500435a4400) h0 e (ltn (i))
theorem nm_iff {w h:Int} (s:Shp w h) {q:Int} (q0:0≤q) (q1:q < w * h) (a b:Nat):nm w q=[a,b] ↔ (0≤rsq w h a b∧q=rsq w h a b):=by
 obtain⟨a0,a1,b0,b1,w0,w1,h1,hp,hs⟩:=on_board s q0 q1
 constructor
 ·intro e
  obtain⟨e1,e⟩:=List.cons.inj e
  rw [rsq,fl_nat a0 (by exact li2 (.z (q % w) (.z w .o)) (nat_lit 0x1f7d74088d6407917923) a1 w1) e1,fd_nat b0 (by exact li2 (.z (q / w) (.z h .o)) (nat_lit 0x1f7d74088d6405917923) b1 h1) (List.cons.inj e).1,if_pos ⟨a0,a1,b0,b1⟩,Int.ediv_mul_add_emod]
  exact⟨q0,rfl⟩
 ·rw [rsq]
  split
  ·rename_i hc
   rintro⟨-,e⟩
   obtain⟨e1,e2⟩:=dm hc.1 hc.2.1 e
   have i1:=fl_ok hc.1
   have i2:=fd_ok hc.2.2.1
   have j1:97 + (fl a).toNat=a:=by exact li3 (.n ((fl a).toNat) (.n a (.z (fl a) .o))) (nat_lit 0x7df7db9118d004675c6d00235d00257189558d6950019910046612401195925) i1.1 i1.2.1 (ltn (fl a))
   have j2:49 + (fd b).toNat=b:=by exact li3 (.n ((fd b).toNat) (.n b (.z (fd b) .o))) (nat_lit 0x7df7db9118d004375c6d00235d00257189558d69500199100436124010d5925) i2.1 i2.2.1 (ltn (fd b))
   rw [nm,e1,e2,j1,j2]
  ·exact fun e=>absurd e.1 (by decide)
theorem wir_len {n cs} (w:Int) {m:Mv} (ok:MvOk n cs m):(wir w m).length=if m.p=0 then 4 else 5:=by
 have:m.p=0∨m.p=2∨m.p=3∨m.p=4∨m.p=5:=by have:=sp_q ok;exact li1 (.z (m.p) .o) (nat_lit 0x1f75d75d6101636101236100e36100a361002375c5901635a3402610023) this
 rcases this with e | e | e | e | e <;> simp [wir,nm,wpl,e]
theorem wir_iff {w h:Int} (s:Shp w h) {cs m} (ok:MvOk (w * h) cs m) (a b c d:Nat) (r:List Nat):wir w m=a :: b :: c :: d :: r ↔
  ((0≤rsq w h a b∧m.o=rsq w h a b)∧(0≤rsq w h c d∧m.t=rsq w h c d)∧wpl m.p=r):=by
 rw [← nm_iff s ok.o0 ok.o1,← nm_iff s ok.t0 ok.t1]
 simp [wir,nm,and_assoc]
theorem m_find_x (k:Nat):True:=trivial
theorem s_read_coords (k:Nat) {w h:Int} (s:Shp w h) (t:List Nat) (asc:∀ c ∈ t,c < 128) (hl:t.length≤90):
  Tells w h (wir w) t (callX tab (k+2) f_read_coords [.int w,.int h,.str t]):=by
 have hL:=big_n (n:=t.length) (by exact li1 (.n (t.length) .o) (nat_lit 0x7d94002862018d940a163) hl)
 by_cases h45:t.length=4∨t.length=5
 ·rcases h45 with h4 | h5
  ·match t,h4 with
   | [a,b,c,d],_=>
    by_cases ho:rsq w h a b < 0
    ·left
     refine⟨?_,fun cs m ok e=>by have:=((wir_iff s ok _ _ _ _ _).1 e).1.1;exact(show False from li2 (.z (rsq w h a b) .o) (nat_lit 0x1f7e15a34005d0023) ho this).elim⟩
     show runF (callX tab (k+1)) p_read_coords [_,_,_]=_
     have hh:=ai (Eq.refl (some (D.int 4:D))) (ai rf (ai rf (ai (Eq.refl (some ((D.str [a,b],Kd.pl):D×Kd))) (ai ((s_read_square k s) (a) (b)) (ai (Eq.refl (some ((D.str [c,d],Kd.pl):D×Kd))) (ai ((s_read_square k s) (c) (d)) (ai (asb_t ho) (ai rt (trivial)))))))))
     exact fun_bad [.v _,.b false,.b false,.d _ _,.d _ _,.d _ _,.d _ _,.b true,.b true] rfl hh
    ·by_cases hg:rsq w h c d < 0
     ·left
      refine⟨?_,fun cs m ok e=>by have:=((wir_iff s ok _ _ _ _ _).1 e).2.1.1;exact(show False from li2 (.z (rsq w h c d) .o) (nat_lit 0x1f7e15a34005d0023) hg this).elim⟩
      show runF (callX tab (k+1)) p_read_coords [_,_,_]=_
      have hh:=ai (Eq.refl (some (D.int 4:D))) (ai rf (ai rf (ai (Eq.refl (some ((D.str [a,b],Kd.pl):D×Kd))) (ai ((s_read_square k s) (a) (b)) (ai (Eq.refl (some ((D.str [c,d],Kd.pl):D×Kd))) (ai ((s_read_square k s) (c) (d)) (ai (asb_f ho) (ai (asb_t hg) (trivial)))))))))
      exact fun_bad [.v _,.b false,.b false,.d _ _,.d _ _,.d _ _,.d _ _,.b false,.b true] rfl hh
     ·right
      refine⟨rsq w h a b,rsq w h c d,0,?_,fun cs m ok=>?_⟩
      ·show runF (callX tab (k+1)) p_read_coords [_,_,_]=_
       have hh:=fun r:Ev (D×Kd)=>ai (Eq.refl (some (D.int 4:D))) (ai rf (ai rf (ai (Eq.refl (some ((D.str [a,b],Kd.pl):D×Kd))) (ai ((s_read_square k s) (a) (b)) (ai (Eq.refl (some ((D.str [c,d],Kd.pl):D×Kd))) (ai ((s_read_square k s) (c) (d)) (ai (asb_f ho) (ai (asb_f hg) (ai (Eq.refl (some (D.int 4:D))) (ai rf (Eq.refl r)))))))))))
       exact fun_eq [.v _,.b false,.b false,.d _ _,.d _ _,.d _ _,.d _ _,.b false,.b false,.v _,.b false] rfl (hh _)
      ·rw [wir_iff s ok]
       have hw:wpl m.p=[] ↔ m.p=0:=by
        have:m.p=0∨m.p=2∨m.p=3∨m.p=4∨m.p=5:=by have:=sp_q ok;exact li1 (.z (m.p) .o) (nat_lit 0x1f75d75d6101636101236100e36100a361002375c5901635a3402610023) this
        rcases this with e | e | e | e | e <;> simp [wpl,e]
       rw [hw];exact li2 (.z (rsq w h a b) (.z (m.o) (.z (rsq w h c d) (.z (m.t) (.z (m.p) .o))))) (nat_lit 0x1f7e071c6100276259988e471c6100277189665a54007188e45a340079740095e5d0023) ho hg
  ·match t,h5 with
   | [a,b,c,d,x],_=>
    by_cases ho:rsq w h a b < 0
    ·left
     refine⟨?_,fun cs m ok e=>by have:=((wir_iff s ok _ _ _ _ _).1 e).1.1;exact(show False from li2 (.z (rsq w h a b) .o) (nat_lit 0x1f7e15a34005d0023) ho this).elim⟩
     show runF (callX tab (k+1)) p_read_coords [_,_,_]=_
     have hh:=ai (Eq.refl (some (D.int 5:D))) (ai rt (ai (Eq.refl (some (D.int 5:D))) (ai rf (ai (Eq.refl (some ((D.str [a,b],Kd.pl):D×Kd))) (ai ((s_read_square k s) (a) (b)) (ai (Eq.refl (some ((D.str [c,d],Kd.pl):D×Kd))) (ai ((s_read_square k s) (c) (d)) (ai (asb_t ho) (ai rt (trivial))))))))))
     exact fun_bad [.v _,.b true,.v _,.b false,.d _ _,.d _ _,.d _ _,.d _ _,.b true,.b true] rfl hh
    ·by_cases hg:rsq w h c d < 0
     ·left
      refine⟨?_,fun cs m ok e=>by have:=((wir_iff s ok _ _ _ _ _).1 e).2.1.1;exact(show False from li2 (.z (rsq w h c d) .o) (nat_lit 0x1f7e15a34005d0023) hg this).elim⟩
      show runF (callX tab (k+1)) p_read_coords [_,_,_]=_
      have hh:=ai (Eq.refl (some (D.int 5:D))) (ai rt (ai (Eq.refl (some (D.int 5:D))) (ai rf (ai (Eq.refl (some ((D.str [a,b],Kd.pl):D×Kd))) (ai ((s_read_square k s) (a) (b)) (ai (Eq.refl (some ((D.str [c,d],Kd.pl):D×Kd))) (ai ((s_read_square k s) (c) (d)) (ai (asb_f ho) (ai (asb_t hg) (trivial))))))))))
      exact fun_bad [.v _,.b true,.v _,.b false,.d _ _,.d _ _,.d _ _,.d _ _,.b false,.b true] rfl hh
     ·have hi:items (.lst [.int 2,.int 3,.int 4,.int 5])=some [.int 2,.int 3,.int 4,.int 5]:=rfl
      have p2:=s_promo_letter k (p:=2) (by exact li0 .o (nat_lit 0x1d716405402590090098400402))
      have p3:=s_promo_letter k (p:=3) (by exact li0 .o (nat_lit 0x1d7164054035900d0098400403))
      have p4:=s_promo_letter k (p:=4) (by exact li0 .o (nat_lit 0x1d716405404590110098400404))
      have p5:=s_promo_letter k (p:=5) (by exact li0 .o (nat_lit 0x1d716405405590150098400405))
      have ex:sub (.str [a,b,c,d,x]) (.int 4)=some (.str [x]):=rfl
      have key:∀ p:Int,(p=2∧x=110)∨(p=3∧x=98)∨(p=4∧x=114)∨(p=5∧x=113)→
        callX tab (k+2) f_read_coords [.int w,.int h,.str [a,b,c,d,x]]=Ev.ok (.tup [.int (rsq w h a b),.int (rsq w h c d),.int p],.pl):=by
       intro p hp
       show runF (callX tab (k+1)) p_read_coords [_,_,_]=_
       rcases hp with ⟨e,e'⟩ | ⟨e,e'⟩ | ⟨e,e'⟩ | ⟨e,e'⟩ <;> subst e <;> subst e' <;>
        (first | (have hh:=fun r:Ev (D×Kd)=>ai (Eq.refl (some (D.int 5:D))) (ai rt (ai (Eq.refl (some (D.int 5:D))) (ai rf (ai (Eq.refl (some ((D.str [a,b],Kd.pl):D×Kd))) (ai ((s_read_square k s) (a) (b)) (ai (Eq.refl (some ((D.str [c,d],Kd.pl):D×Kd))) (ai ((s_read_square k s) (c) (d)) (ai (asb_f ho) (ai (asb_f hg) (ai (Eq.refl (some (D.int 5:D))) (ai rt (ai hi (ai p2 (ai ex (ai (@c_eqs (wpl 2) ([110])) (ai rt (ai p3 (ai ex (ai (@c_eqs (wpl 3) ([110])) (ai rf (ai p4 (ai ex (ai (@c_eqs (wpl 4) ([110])) (ai rf (ai p5 (ai ex (ai (@c_eqs (wpl 5) ([110])) (ai rf (ai rf (Eq.refl r))))))))))))))))))))))))))))));exact fun_eq [.v _,.b true,.v _,.b false,.d _ _,.d _ _,.d _ _,.d _ _,.b false,.b false,.v _,.b true,.l _,.d _ _,.v _,.b true,.b true,.d _ _,.v _,.b false,.b false,.d _ _,.v _,.b false,.b false,.d _ _,.v _,.b false,.b false,.b false] rfl (hh _)) | (have hh:=fun r:Ev (D×Kd)=>ai (Eq.refl (some (D.int 5:D))) (ai rt (ai (Eq.refl (some (D.int 5:D))) (ai rf (ai (Eq.refl (some ((D.str [a,b],Kd.pl):D×Kd))) (ai ((s_read_square k s) (a) (b)) (ai (Eq.refl (some ((D.str [c,d],Kd.pl):D×Kd))) (ai ((s_read_square k s) (c) (d)) (ai (asb_f ho) (ai (asb_f hg) (ai (Eq.refl (some (D.int 5:D))) (ai rt (ai hi (ai p2 (ai ex (ai (@c_eqs (wpl 2) ([98])) (ai rf (ai p3 (ai ex (ai (@c_eqs (wpl 3) ([98])) (ai rt (ai p4 (ai ex (ai (@c_eqs (wpl 4) ([98])) (ai rf (ai p5 (ai ex (ai (@c_eqs (wpl 5) ([98])) (ai rf (ai rf (Eq.refl r))))))))))))))))))))))))))))));exact fun_eq [.v _,.b true,.v _,.b false,.d _ _,.d _ _,.d _ _,.d _ _,.b false,.b false,.v _,.b true,.l _,.d _ _,.v _,.b false,.b false,.d _ _,.v _,.b true,.b true,.d _ _,.v _,.b false,.b false,.d _ _,.v _,.b false,.b false,.b false] rfl (hh _)) | (have hh:=fun r:Ev (D×Kd)=>ai (Eq.refl (some (D.int 5:D))) (ai rt (ai (Eq.refl (some (D.int 5:D))) (ai rf (ai (Eq.refl (some ((D.str [a,b],Kd.pl):D×Kd))) (ai ((s_read_square k s) (a) (b)) (ai (Eq.refl (some ((D.str [c,d],Kd.pl):D×Kd))) (ai ((s_read_square k s) (c) (d)) (ai (asb_f ho) (ai (asb_f hg) (ai (Eq.refl (some (D.int 5:D))) (ai rt (ai hi (ai p2 (ai ex (ai (@c_eqs (wpl 2) ([114])) (ai rf (ai p3 (ai ex (ai (@c_eqs (wpl 3) ([114])) (ai rf (ai p4 (ai ex (ai (@c_eqs (wpl 4) ([114])) (ai rt (ai p5 (ai ex (ai (@c_eqs (wpl 5) ([114])) (ai rf (ai rf (Eq.refl r))))))))))))))))))))))))))))));exact fun_eq [.v _,.b true,.v _,.b false,.d _ _,.d _ _,.d _ _,.d _ _,.b false,.b false,.v _,.b true,.l _,.d _ _,.v _,.b false,.b false,.d _ _,.v _,.b false,.b false,.d _ _,.v _,.b true,.b true,.d _ _,.v _,.b false,.b false,.b false] rfl (hh _)) | (have hh:=fun r:Ev (D×Kd)=>ai (Eq.refl (some (D.int 5:D))) (ai rt (ai (Eq.refl (some (D.int 5:D))) (ai rf (ai (Eq.refl (some ((D.str [a,b],Kd.pl):D×Kd))) (ai ((s_read_square k s) (a) (b)) (ai (Eq.refl (some ((D.str [c,d],Kd.pl):D×Kd))) (ai ((s_read_square k s) (c) (d)) (ai (asb_f ho) (ai (asb_f hg) (ai (Eq.refl (some (D.int 5:D))) (ai rt (ai hi (ai p2 (ai ex (ai (@c_eqs (wpl 2) ([113])) (ai rf (ai p3 (ai ex (ai (@c_eqs (wpl 3) ([113])) (ai rf (ai p4 (ai ex (ai (@c_eqs (wpl 4) ([113])) (ai rf (ai p5 (ai ex (ai (@c_eqs (wpl 5) ([113])) (ai rt (ai rf (Eq.refl r))))))))))))))))))))))))))))));exact fun_eq [.v _,.b true,.v _,.b false,.d _ _,.d _ _,.d _ _,.d _ _,.b false,.b false,.v _,.b true,.l _,.d _ _,.v _,.b false,.b false,.d _ _,.v _,.b false,.b false,.d _ _,.v _,.b false,.b false,.d _ _,.v _,.b true,.b true,.b false] rfl (hh _)))
      by_cases hx:x=110∨x=98∨x=114∨x=113
      ·right
       have:∃ p:Int,(p=2∧x=110)∨(p=3∧x=98)∨(p=4∧x=114)∨(p=5∧x=113):=by
        rcases hx with e | e | e | e
        ·exact⟨2,by exact li1 (.n x .o) (nat_lit 0x1f75d75c6d00478d840540271b4021e361011009c6d00868d840340271b40e1a361009009b40e1a3) e⟩
        ·exact⟨3,by exact li1 (.n x .o) (nat_lit 0x1f75d75c6d00478d840540371b4021e36101100dc6d00868d840340371b40e1a36100900db4021a3) e⟩
        ·exact⟨4,by exact li1 (.n x .o) (nat_lit 0x1f75d75c6d00478d840540471b4021e361011011c6d00868d840340471b40e1a361009011b4021e3) e⟩
        ·exact⟨5,by exact li1 (.n x .o) (nat_lit 0x1f75d75c6d00478d840540571b4021e361011015c6d00868d840340571b40e1a361009015b4011e3) e⟩
       obtain⟨p,hp⟩:=this
       refine⟨rsq w h a b,rsq w h c d,p,key p hp,fun cs m ok=>?_⟩
       rw [wir_iff s ok]
       have hw:wpl m.p=[x] ↔ m.p=p:=by
        have:m.p=0∨m.p=2∨m.p=3∨m.p=4∨m.p=5:=by have:=sp_q ok;exact li1 (.z (m.p) .o) (nat_lit 0x1f75d75d6101636101236100e36100a361002375c5901635a3402610023) this
        rcases this with e | e | e | e | e <;> simp [wpl,e];exact li1 (.z p (.n x .o)) (nat_lit 0x1f7988d001d75d71b4011e461016371b4021e461012371b4021a46100e371b40e1a46100a3) hp;exact li1 (.n x (.z p .o)) (nat_lit 0x7e06244026e340e19d75d71b4011e361016471b4021e361012471b4021a36100e471b40e1a36100a4) hp;exact li1 (.n x (.z p .o)) (nat_lit 0x7e06244036e340219d75d71b4011e361016471b4021e361012471b4021a36100e471b40e1a36100a4) hp;exact li1 (.n x (.z p .o)) (nat_lit 0x7e06244046e34021dd75d71b4011e361016471b4021e361012471b4021a36100e471b40e1a36100a4) hp;exact li1 (.n x (.z p .o)) (nat_lit 0x7e06244056e34011dd75d71b4011e361016471b4021e361012471b4021a36100e471b40e1a36100a4) hp
       rw [hw];exact li2 (.z (rsq w h a b) (.z (m.o) (.z (rsq w h c d) (.z (m.t) (.z (m.p) (.z p .o)))))) (nat_lit 0x1f7e071c6289d896662391c718a277189665a54007188e45a340079740095e5d0023) ho hg
      ·left
       have x1:¬ 110=x:=by exact li1 (.n x .o) (nat_lit 0x1f79b8d038679d75d6d00478db4021e36d00868db40e1a3) hx
       have x2:¬ 98=x:=by exact li1 (.n x .o) (nat_lit 0x1f79b8d008679d75d6d00478db4021e36d00868db40e1a3) hx
       have x3:¬ 114=x:=by exact li1 (.n x .o) (nat_lit 0x1f79b8d008779d75d6d00478db4021e36d00868db40e1a3) hx
       have x4:¬ 113=x:=by exact li1 (.n x .o) (nat_lit 0x1f79b8d004779d75d6d00478db4021e36d00868db40e1a3) hx
       refine⟨?_,fun cs m ok e=>?_⟩
       ·show runF (callX tab (k+1)) p_read_coords [_,_,_]=_
        have hh:=ai (Eq.refl (some (D.int 5:D))) (ai rt (ai (Eq.refl (some (D.int 5:D))) (ai rf (ai (Eq.refl (some ((D.str [a,b],Kd.pl):D×Kd))) (ai ((s_read_square k s) (a) (b)) (ai (Eq.refl (some ((D.str [c,d],Kd.pl):D×Kd))) (ai ((s_read_square k s) (c) (d)) (ai (asb_f ho) (ai (asb_f hg) (ai (Eq.refl (some (D.int 5:D))) (ai rt (ai hi (ai p2 (ai ex (ai (@c_eqs (wpl 2) ([x])) (ai (asb_f (show ¬wpl 2=[x] from(by simp [wpl,x1]))) (ai p3 (ai ex (ai (@c_eqs (wpl 3) ([x])) (ai (asb_f (show ¬wpl 3=[x] from(by simp [wpl,x2]))) (ai p4 (ai ex (ai (@c_eqs (wpl 4) ([x])) (ai (asb_f (show ¬wpl 4=[x] from(by simp [wpl,x3]))) (ai p5 (ai ex (ai (@c_eqs (wpl 5) ([x])) (ai (asb_f (show ¬wpl 5=[x] from(by simp [wpl,x4]))) (ai rt (trivial))))))))))))))))))))))))))))))
        exact fun_bad [.v _,.b true,.v _,.b false,.d _ _,.d _ _,.d _ _,.d _ _,.b false,.b false,.v _,.b true,.l _,.d _ _,.v _,.b _,.b false,.d _ _,.v _,.b _,.b false,.d _ _,.v _,.b _,.b false,.d _ _,.v _,.b _,.b false,.b true] rfl hh
       ·have hw:=((wir_iff s ok _ _ _ _ _).1 e).2.2
        have:m.p=0∨m.p=2∨m.p=3∨m.p=4∨m.p=5:=by have:=sp_q ok;exact li1 (.z (m.p) .o) (nat_lit 0x1f75d75d6101636101236100e36100a361002375c5901635a3402610023) this
        rcases this with e | e | e | e | e <;> simp [wpl,e] at hw;exact(show False from li2 (.n x .o) (nat_lit 0x7df85b8d038679b8d0386) x1 hw).elim;exact(show False from li2 (.n x .o) (nat_lit 0x7df85b8d008679b8d0086) x2 hw).elim;exact(show False from li2 (.n x .o) (nat_lit 0x7df85b8d008779b8d0087) x3 hw).elim;exact(show False from li2 (.n x .o) (nat_lit 0x7df85b8d004779b8d0047) x4 hw).elim
 ·left
  refine⟨?_,fun cs m ok e=>h45 (by rw [← e,wir_len w ok];split <;> simp)⟩
  show runF (callX tab (k+1)) p_read_coords [_,_,_]=_
  have n4:¬ (t.length=4):=by exact li1 (.n (t.length) .o) (nat_lit 0x7de6d012379d6d01636d0123) h45
  have n5:¬ (t.length=5):=by exact li1 (.n (t.length) .o) (nat_lit 0x7de6d016379d6d01636d0123) h45
  have h4:¬ ((t.length:Int)=4):=by exact li1 (.n (t.length) .o) (nat_lit 0x7de6101158de6d0123) n4
  have h5:¬ ((t.length:Int)=5):=by exact li1 (.n (t.length) .o) (nat_lit 0x7de6101558de6d0163) n5
  have hh:=ai (@v_lens (t) (by simp [hL])) (ai (asb_nf h4) (ai (@v_lens (t) (by simp [hL])) (ai (asb_nf h5) (trivial))))
  exact fun_bad [.v _,.b true,.v _,.b true] rfl hh
end Mine

namespace Mine
noncomputable def forBody:Option St→List St
 | some (.forE _ _ b)=>b
 | some (.forT _ _ b)=>b
 | some (.forR _ _ _ b)=>b
 | some (.whil _ b)=>b
 | _=>[]
noncomputable def b_pl:List St:=forBody p_pick_long.body[1]?
theorem p_pl:p_pick_long=⟨4,[
 .asgT [4,5] (.call f_cut_sign [(.var 3)]),
 .forE 6 (.var 2) b_pl,
 .rais (.var 3)]⟩:=rfl
theorem lp_pl (k:Nat) {w h:Int} (s:Shp w h) {cs:List Int} {by' sg tx:List Nat}:∀ (ms:List Mv) (σ:Sg),(∀ m ∈ ms,MvOk (w * h) cs m)→
  σ 0=some ⟨.int w,false⟩→σ 1=some ⟨.lst (cs.map .int),false⟩→σ 4=some ⟨.str by',false⟩→σ 5=some ⟨.str sg,false⟩→σ 3=some ⟨.str tx,false⟩→
  (∃ n σ',fnd (ms.map (lng w cs)) (ms.map Mv.num) by'=some n∧forGo (fun d σ=>exs (callX tab (k+3)) b_pl (upd σ 6 ⟨d,false⟩)) ((ms.map Mv.num).map .int) σ=Ev.ok (.ret (.tup [.int n,.str sg]) .pl,σ'))∨
  (∃ σ',fnd (ms.map (lng w cs)) (ms.map Mv.num) by'=Option.none∧forGo (fun d σ=>exs (callX tab (k+3)) b_pl (upd σ 6 ⟨d,false⟩)) ((ms.map Mv.num).map .int) σ=Ev.ok (.next,σ')∧σ' 3=some ⟨.str tx,false⟩):=by
 intro ms
 induction ms with
 | nil=>intro σ _ _ _ _ _ h3;right;exact⟨σ,rfl,rfl,h3⟩
 | cons m r ih=>
  intro σ ok h0 h1 h4 h5 h3
  have okm:=ok m (by simp)
  have hl:=s_long_of k s okm
  by_cases hc:lng w cs m=by'
  ·left
   refine⟨m.num,frzAll (upd σ 6 ⟨.int m.num,false⟩),by simp [fnd,hc],?_⟩
   simp only [List.map_cons,forGo_cons]
   have:exs (callX tab (k+3)) b_pl (upd σ 6 ⟨.int m.num,false⟩)=Ev.ok (.ret (.tup [.int m.num,.str sg]) .pl,frzAll (upd σ 6 ⟨.int m.num,false⟩)):=by
    have hh:=fun r:Fl×Sg=>ai h0 (ai h1 (ai hl (ai h4 (ai (@c_eqs (lng w cs m) (by')) (ai (asb_t hc) (ai (frz_at h5) (Eq.refl r)))))))
    exact run_eq [.r 0 _,.r 1 _,.d _ _,.r 4 _,.b _,.b true,.r 5 _] (hh _)
   rw [this];rfl
  ·have:exs (callX tab (k+3)) b_pl (upd σ 6 ⟨.int m.num,false⟩)=Ev.ok (.next,upd σ 6 ⟨.int m.num,false⟩):=by
    have hh:=fun r:Fl×Sg=>ai h0 (ai h1 (ai hl (ai h4 (ai (@c_eqs (lng w cs m) (by')) (ai (asb_f hc) (Eq.refl r))))))
    exact run_eq [.r 0 _,.r 1 _,.d _ _,.r 4 _,.b _,.b false] (hh _)
   have ih':=ih (upd σ 6 ⟨.int m.num,false⟩) (fun x hx=>ok x (by simp [hx])) (by simpa [upd] using h0) (by simpa [upd] using h1) (by simpa [upd] using h4) (by simpa [upd] using h5) (by simpa [upd] using h3)
   simp only [List.map_cons,forGo_cons,this,Ev.bind_ok,fnd,hc,if_false]
   exact ih'
noncomputable def rPick:Option Int→List Nat→Ev (D×Kd)
 | some n,sg=>Ev.ok (.tup [.int n,.str sg],.pl)
 | Option.none,_=>Ev.bad
noncomputable def rMove:Option Int→Ev (D×Kd)
 | some n=>Ev.ok (.int n,.pl)
 | Option.none=>Ev.bad
theorem s_pick_long (k:Nat) {w h:Int} (s:Shp w h) {cs:List Int} {ms:List Mv} (ok:∀ m ∈ ms,MvOk (w * h) cs m) (hm:ms.length≤100000) (t:List Nat) (ht:t.length≤100):
  callX tab (k+4) f_pick_long [.int w,.lst (cs.map .int),.lst ((ms.map Mv.num).map .int),.str t]=rPick (fnd (ms.map (lng w cs)) (ms.map Mv.num) (bdy t)) (sgn t):=by
 have hi:items (.lst ((ms.map Mv.num).map .int))=some ((ms.map Mv.num).map .int):=items_lst (by simpa using hm)
 have hc:=s_cut_sign (k+2) t ht
 show runF (callX tab (k+3)) p_pick_long [_,_,_,_]=_
 generalize hN:(ms.map Mv.num).map D.int=N at *
 have hlp:=lp_pl k s (by':=bdy t) (sg:=sgn t) (tx:=t) ms (upd (upd (start 4 [.int w,.lst (cs.map .int),.lst N,.str t]) 4 ⟨.str (bdy t),false⟩) 5 ⟨.str (sgn t),false⟩) ok rfl rfl rfl rfl rfl
 rw [hN] at hlp
 rcases hlp with ⟨n,σ',a,b⟩ | ⟨σ',a,b,c⟩
 ·rw [a]
  have hh:=fun r:Ev (D×Kd)=>ai hc (ai hi (ai b (Eq.refl r)))
  exact fun_eq [.d _ _,.l _,.f _ _] rfl (hh _)
 ·rw [a]
  have hh:=ai hc (ai hi (ai b (ai c (trivial))))
  exact fun_bad [.d _ _,.l _,.f _ _,.r 3 _] rfl hh
end Mine

namespace Mine
noncomputable def b_pk:List St:=forBody p_pick_iccf.body[1]?
theorem p_pi:p_pick_iccf=⟨4,[
 .asgT [4,5,6] (.call f_read_iccf [(.var 0),(.var 1),(.var 3)]),
 .forE 7 (.var 2) b_pk,
 .rais (.var 3)]⟩:=rfl
theorem p_pf:p_find_move=⟨4,[
 .asgT [4,5,6] (.call f_read_coords [(.var 0),(.var 1),(.var 3)]),
 .forE 7 (.var 2) b_pk,
 .rais (.var 3)]⟩:=rfl
theorem lp_pk (k:Nat) {n:Int} {cs:List Int} {tx:Mv→List Nat} {t:List Nat} {o g p:Int} (hk:∀ m,MvOk n cs m→(tx m=t ↔ (m.o=o∧m.t=g∧m.p=p))):∀ (ms:List Mv) (σ:Sg),(∀ m ∈ ms,MvOk n cs m)→
  σ 4=some ⟨.int o,false⟩→σ 5=some ⟨.int g,false⟩→σ 6=some ⟨.int p,false⟩→σ 3=some ⟨.str t,false⟩→
  (∃ n σ',fnd (ms.map tx) (ms.map Mv.num) t=some n∧forGo (fun d σ=>exs (callX tab (k+1)) b_pk (upd σ 7 ⟨d,false⟩)) ((ms.map Mv.num).map .int) σ=Ev.ok (.ret (.int n) .pl,σ'))∨
  (∃ σ',fnd (ms.map tx) (ms.map Mv.num) t=Option.none∧forGo (fun d σ=>exs (callX tab (k+1)) b_pk (upd σ 7 ⟨d,false⟩)) ((ms.map Mv.num).map .int) σ=Ev.ok (.next,σ')∧σ' 3=some ⟨.str t,false⟩):=by
 intro ms
 induction ms with
 | nil=>intro σ _ _ _ _ h3;right;exact⟨σ,rfl,rfl,h3⟩
 | cons m r ih=>
  intro σ ok h4 h5 h6 h3
  have okm:=ok m (by simp)
  have f1:=m_from k okm
  have f2:=m_to k okm
  have f3:=m_promo k okm
  have hkm:=hk m okm
  by_cases hc:tx m=t
  ·left
   obtain⟨e1,e2,e3⟩:=hkm.1 hc
   refine⟨m.num,upd σ 7 ⟨.int m.num,false⟩,by simp [fnd,hc],?_⟩
   simp only [List.map_cons,forGo_cons]
   have:exs (callX tab (k+1)) b_pk (upd σ 7 ⟨.int m.num,false⟩)=Ev.ok (.ret (.int m.num) .pl,upd σ 7 ⟨.int m.num,false⟩):=by
    have hh:=fun r:Fl×Sg=>ai (show callX tab (k + 1) f_move_from [D.int m.num]=Ev.ok (D.int o,Kd.pl) from by rw [← e1];exact f1) (ai h4 (ai (asb_t (show o=o from(li0 (.z o .o) (nat_lit 100579)))) (ai (show callX tab (k + 1) f_move_to [D.int m.num]=Ev.ok (D.int g,Kd.pl) from by rw [← e2];exact f2) (ai h5 (ai (asb_t (show g=g from(li0 (.z g .o) (nat_lit 100579)))) (ai (show callX tab (k + 1) f_move_promo [D.int m.num]=Ev.ok (D.int p,Kd.pl) from by rw [← e3];exact f3) (ai h6 (ai (asb_t (show p=p from(li0 (.z p .o) (nat_lit 100579)))) (Eq.refl r)))))))))
    exact run_eq [.d _ _,.r 4 _,.b true,.d _ _,.r 5 _,.b true,.d _ _,.r 6 _,.b true] (hh _)
   rw [this];rfl
  ·have hn:¬ (m.o=o∧m.t=g∧m.p=p):=fun x=>hc (hkm.2 x)
   have:exs (callX tab (k+1)) b_pk (upd σ 7 ⟨.int m.num,false⟩)=Ev.ok (.next,upd σ 7 ⟨.int m.num,false⟩):=by
    by_cases e1:m.o=o
    ·by_cases e2:m.t=g
     ·have e3:¬ m.p=p:=fun x=>hn ⟨e1,e2,x⟩
      have hh:=fun r:Fl×Sg=>ai (show callX tab (k + 1) f_move_from [D.int m.num]=Ev.ok (D.int o,Kd.pl) from by rw [← e1];exact f1) (ai h4 (ai (asb_t (show o=o from(li0 (.z o .o) (nat_lit 100579)))) (ai (show callX tab (k + 1) f_move_to [D.int m.num]=Ev.ok (D.int g,Kd.pl) from by rw [← e2];exact f2) (ai h5 (ai (asb_t (show g=g from(li0 (.z g .o) (nat_lit 100579)))) (ai f3 (ai h6 (ai (asb_f e3) (Eq.refl r)))))))))
      exact run_eq [.d _ _,.r 4 _,.b true,.d _ _,.r 5 _,.b true,.d _ _,.r 6 _,.b false] (hh _)
     ·have hh:=fun r:Fl×Sg=>ai (show callX tab (k + 1) f_move_from [D.int m.num]=Ev.ok (D.int o,Kd.pl) from by rw [← e1];exact f1) (ai h4 (ai (asb_t (show o=o from(li0 (.z o .o) (nat_lit 100579)))) (ai f2 (ai h5 (ai (asb_f e2) (ai rf (Eq.refl r)))))))
      exact run_eq [.d _ _,.r 4 _,.b true,.d _ _,.r 5 _,.b false,.b false] (hh _)
    ·have hh:=fun r:Fl×Sg=>ai f1 (ai h4 (ai (asb_f e1) (ai rf (Eq.refl r))))
     exact run_eq [.d _ _,.r 4 _,.b false,.b false] (hh _)
   have ih':=ih (upd σ 7 ⟨.int m.num,false⟩) (fun x hx=>ok x (by simp [hx])) (by simpa [upd] using h4) (by simpa [upd] using h5) (by simpa [upd] using h6) (by simpa [upd] using h3)
   simp only [List.map_cons,forGo_cons,this,Ev.bind_ok,fnd,hc,if_false]
   exact ih'
theorem fnd_none {ls:List Mv} {tx:Mv→List Nat} {t:List Nat} (h:∀ m ∈ ls,tx m≠t):fnd (ls.map tx) (ls.map Mv.num) t=Option.none:=by
 induction ls with
 | nil=>rfl
 | cons a r ih=>simp only [List.map_cons,fnd,h a (by simp),if_false];exact ih fun m hm=>h m (by simp [hm])
theorem s_pick_iccf (k:Nat) {w h:Int} (s:Shp w h) {cs:List Int} {ms:List Mv} (ok:∀ m ∈ ms,MvOk (w * h) cs m) (hm:ms.length≤100000) (t:List Nat) (asc:∀ c ∈ t,c < 128) (ht:t.length≤90):
  callX tab (k+2) f_pick_iccf [.int w,.int h,.lst ((ms.map Mv.num).map .int),.str t]=rMove (fnd (ms.map (dgt w)) (ms.map Mv.num) t):=by
 have hi:items (.lst ((ms.map Mv.num).map .int))=some ((ms.map Mv.num).map .int):=items_lst (by simpa using hm)
 show runF (callX tab (k+1)) p_pick_iccf [_,_,_,_]=_
 rcases s_read_iccf k s t asc ht with ⟨e,no⟩ | ⟨o,g,p,e,hk⟩
 ·rw [fnd_none (fun m hm=>no cs m (ok m hm))]
  have hh:=ai e (trivial)
  exact fun_bad [.bad] rfl hh
 ·generalize hN:(ms.map Mv.num).map D.int=N at *
  have hlp:=lp_pk k (hk cs) ms (upd (upd (upd (start 4 [.int w,.int h,.lst N,.str t]) 4 ⟨.int o,false⟩) 5 ⟨.int g,false⟩) 6 ⟨.int p,false⟩) ok rfl rfl rfl rfl
  rw [hN] at hlp
  rcases hlp with ⟨n,σ',a,b⟩ | ⟨σ',a,b,c⟩
  ·rw [a];(have hh:=fun r:Ev (D×Kd)=>ai e (ai hi (ai b (Eq.refl r)));exact fun_eq [.d _ _,.l _,.f _ _] rfl (hh _))
  ·rw [a];(have hh:=ai e (ai hi (ai b (ai c (trivial))));exact fun_bad [.d _ _,.l _,.f _ _,.r 3 _] rfl hh)
theorem s_find_move (k:Nat) {w h:Int} (s:Shp w h) {cs:List Int} {ms:List Mv} (ok:∀ m ∈ ms,MvOk (w * h) cs m) (hm:ms.length≤100000) (t:List Nat) (asc:∀ c ∈ t,c < 128) (ht:t.length≤90):
  callX tab (k+3) f_find_move [.int w,.int h,.lst ((ms.map Mv.num).map .int),.str t]=rMove (fnd (ms.map (wir w)) (ms.map Mv.num) t):=by
 have hi:items (.lst ((ms.map Mv.num).map .int))=some ((ms.map Mv.num).map .int):=items_lst (by simpa using hm)
 show runF (callX tab (k+2)) p_find_move [_,_,_,_]=_
 rcases s_read_coords k s t asc ht with ⟨e,no⟩ | ⟨o,g,p,e,hk⟩
 ·rw [fnd_none (fun m hm=>no cs m (ok m hm))]
  have hh:=ai e (trivial)
  exact fun_bad [.bad] rfl hh
 ·generalize hN:(ms.map Mv.num).map D.int=N at *
  have hlp:=lp_pk (k+1) (hk cs) ms (upd (upd (upd (start 4 [.int w,.int h,.lst N,.str t]) 4 ⟨.int o,false⟩) 5 ⟨.int g,false⟩) 6 ⟨.int p,false⟩) ok rfl rfl rfl rfl
  rw [hN] at hlp
  rcases hlp with ⟨n,σ',a,b⟩ | ⟨σ',a,b,c⟩
  ·rw [a];(have hh:=fun r:Ev (D×Kd)=>ai e (ai hi (ai b (Eq.refl r)));exact fun_eq [.d _ _,.l _,.f _ _] rfl (hh _))
  ·rw [a];(have hh:=ai e (ai hi (ai b (ai c (trivial))));exact fun_bad [.d _ _,.l _,.f _ _,.r 3 _] rfl hh)
noncomputable def dPick:Option Int→List Nat→D
 | some n,sg=>.tup [.int n,.str sg]
 | Option.none,_=>.none
theorem s_law_picked (k:Nat) {w h:Int} (s:Shp w h) {cs:List Int} {ms:List Mv} (ok:∀ m ∈ ms,MvOk (w * h) cs m) (hm:ms.length≤100000) (t:List Nat) (ht:t.length≤100):
  callX tab (k+5) f_law_picked [.int w,.lst (cs.map .int),.lst ((ms.map Mv.num).map .int),.str t]=Ev.ok (dPick (fnd (ms.map (lng w cs)) (ms.map Mv.num) (bdy t)) (sgn t),.pl):=by
 have e:=s_pick_long k s ok hm t ht
 show runF (callX tab (k+4)) p_law_picked [_,_,_,_]=_
 generalize fnd (ms.map (lng w cs)) (ms.map Mv.num) (bdy t)=r at *
 generalize (ms.map Mv.num).map D.int=N at *
 cases r <;> (first | (have hh:=fun r:Ev (D×Kd)=>ai e (Eq.refl r);exact fun_eq [.bad] rfl (hh _)) | (have hh:=fun r:Ev (D×Kd)=>ai e (Eq.refl r);exact fun_eq [.d _ _] rfl (hh _))) <;> simp [Ev.ok,Ev.bad,Ev.bind,sto_pl]
theorem s_law_named (k:Nat) {w h:Int} (s:Shp w h) {cs:List Int} {ms:List Mv} (ok:∀ m ∈ ms,MvOk (w * h) cs m) (hm:ms.length≤100000) (t:List Nat) (asc:∀ c ∈ t,c < 128) (ht:t.length≤90):
  callX tab (k+3) f_law_named [.tup [.int w,.int h],.lst ((ms.map Mv.num).map .int),.str t]=Ev.ok (oI (fnd (ms.map (dgt w)) (ms.map Mv.num) t),.pl):=by
 have e:=s_pick_iccf k s ok hm t asc ht
 have s0:sub (.tup [.int w,.int h]) (.int 0)=some (.int w):=rfl
 have s1:sub (.tup [.int w,.int h]) (.int 1)=some (.int h):=rfl
 show runF (callX tab (k+2)) p_law_named [_,_,_]=_
 generalize fnd (ms.map (dgt w)) (ms.map Mv.num) t=r at *
 generalize (ms.map Mv.num).map D.int=N at *
 cases r <;> (first | (have hh:=fun r:Ev (D×Kd)=>ai s0 (ai s1 (ai e (Eq.refl r)));exact fun_eq [.v _,.v _,.bad] rfl (hh _)) | (have hh:=fun r:Ev (D×Kd)=>ai s0 (ai s1 (ai e (Eq.refl r)));exact fun_eq [.v _,.v _,.d _ _] rfl (hh _))) <;> simp [Ev.ok,Ev.bad,Ev.bind,sto_pl]
theorem s_law_sought (k:Nat) {w h:Int} (s:Shp w h) {cs:List Int} {ms:List Mv} (ok:∀ m ∈ ms,MvOk (w * h) cs m) (hm:ms.length≤100000) (t:List Nat) (asc:∀ c ∈ t,c < 128) (ht:t.length≤90):
  callX tab (k+4) f_law_sought [.tup [.int w,.int h],.lst ((ms.map Mv.num).map .int),.str t]=Ev.ok (oI (fnd (ms.map (wir w)) (ms.map Mv.num) t),.pl):=by
 have e:=s_find_move k s ok hm t asc ht
 have s0:sub (.tup [.int w,.int h]) (.int 0)=some (.int w):=rfl
 have s1:sub (.tup [.int w,.int h]) (.int 1)=some (.int h):=rfl
 show runF (callX tab (k+3)) p_law_sought [_,_,_]=_
 generalize fnd (ms.map (wir w)) (ms.map Mv.num) t=r at *
 generalize (ms.map Mv.num).map D.int=N at *
 cases r <;> (first | (have hh:=fun r:Ev (D×Kd)=>ai s0 (ai s1 (ai e (Eq.refl r)));exact fun_eq [.v _,.v _,.bad] rfl (hh _)) | (have hh:=fun r:Ev (D×Kd)=>ai s0 (ai s1 (ai e (Eq.refl r)));exact fun_eq [.v _,.v _,.d _ _] rfl (hh _))) <;> simp [Ev.ok,Ev.bad,Ev.bind,sto_pl]
end Mine

namespace Mine
noncomputable def atv (ns:List Int) (i:Int):Int:=if i < ns.length then cv ns i else 5 * i + 2
theorem s_law_at (k:Nat) (ns:List Int) {i:Int} (h0:0≤i) (h1:i < 1000) (hl:ns.length≤100):callX tab (k+1) f_law_at [.lst (ns.map .int),.int i]=Ev.ok (.int (atv ns i),.pl):=by
 have hb:ns.length≤big:=by unfold big;exact li1 (.n (ns.length) .o) (nat_lit 0x1f6500000000018d94041a3) hl
 have ha:i.natAbs < 4294967296:=by exact li3 (.n (i.natAbs) (.z i .o)) (nat_lit 0x1f7df69000000000000006375c6149158d740091c6245635a44005d020e0e45a4400) h0 h1 (lab (i))
 show runF (callX tab k) p_law_at [_,_]=_
 by_cases hc:i < ns.length
 ·have e:=sub_ints h0 hc hl
  have hh:=fun r:Ev (D×Kd)=>ai (@v_lenl (List.map D.int ns) (by simp [hb])) (ai (asb_t (show i < ↑(List.map D.int ns).length from(by simp [hc]))) (ai e (Eq.refl r)))
  exact Eq.trans (fun_eq (r:=(D.int (cv ns i),Kd.pl)) [.v _,.b true,.v _] rfl (hh _)) (by simp [hc,atv])
 ·have hh:=fun r:Ev (D×Kd)=>ai (@v_lenl (List.map D.int ns) (by simp [hb])) (ai (asb_f (show ¬i < ↑(List.map D.int ns).length from(by simp [hc]))) (ai (@v_mul (5) (i) (by decide) ha) (Eq.refl r)))
  exact Eq.trans (fun_eq (r:=(D.int (5 * i + 2),Kd.pl)) [.v _,.b false,.d _ _] rfl (hh _)) (by simp [hc,atv])
theorem sub_str {s:List Nat} {i:Int} (h0:0≤i) (h1:i < s.length) (h2:s.length≤1000):∃ c ∈ s,sub (.str s) (.int i)=some (.str [c]):=by
 have:i.toNat < s.length:=by exact li3 (.n (i.toNat) (.n (s.length) (.z i .o))) (nat_lit 0x1f7df6a48dd71b4008d740095c6255635a54005d59255a5400) h0 h1 (ltn (i))
 have h3:i < 1000000000:=by exact li2 (.z i (.n (s.length) .o)) (nat_lit 0x1f7d740000a30a24b0e365020e0e45d5923) h1 h2
 exact⟨s[i.toNat],List.getElem_mem _,by simp [sub,h0,h3,this]⟩
theorem range3 (f:Int) (h0:0≤f) (h1:f < 1000):rangeD f (f + 3)=some [.int f,.int (f + 1),.int (f + 2)]:=by
 have a:-1000000 < f∧f < 1000000∧-1000000 < f + 3∧f + 3 < 1000000:=by exact li2 (.z f .o) (nat_lit 0x1f7dc71c5d00040843d14038d74500e35100040843d740010210f8d78d440010210f5d020e0e35a3400) h0 h1
 have b:(f + 3 - f).toNat=3:=by exact li1 (.n ((f + 3 - f).toNat) (.z f .o)) (nat_lit 0x1f6d00e375c6d00235d001291140391c6129114039158d64a44500e4400) (ltn (f + 3 - f))
 unfold rangeD;rw [if_pos a,b];simp [List.range_succ]
noncomputable def b_bd:List St:=forBody p_law_bend.body[0]?
theorem p_bd:p_law_bend=⟨3,[
 .forR 3 (.var 1) (.bin .add (.var 1) (.lit (.int 3))) b_bd,
 .ret (.var 2)]⟩:=rfl
noncomputable def Asc (t:List Nat):Prop:=∀ c ∈ t,c < 128
theorem asc_take {t:List Nat} (h:Asc t) (n:Nat):Asc (t.take n):=fun c hc=>h c (List.mem_of_mem_take hc)
theorem asc_drop {t:List Nat} (h:Asc t) (n:Nat):Asc (t.drop n):=fun c hc=>h c (List.mem_of_mem_drop hc)
theorem asc_app {t u:List Nat} (h:Asc t) (h':Asc u):Asc (t ++ u):=fun c hc=>(List.mem_append.1 hc).elim (h c) (h' c)
theorem asc_one {c:Nat} (h:c < 128):Asc [c]:=fun x hx=>by simp at hx;exact li2 (.n x (.n c .o)) (nat_lit 0x1f7da4002236e48da400224) h hx
theorem signs_asc:∀ c ∈ ([97,98,99,100,101,102,103,104,49,50,51,52,53,54,55,56,78,66,82,81,110,114,113,120,61,43,35,79,45,48,32,46]:List Nat),c < 128:=by decide
theorem lg4:Nat.log2 4 < 9000:=by decide
theorem lg64:Nat.log2 64 < 9000:=by decide
theorem lg8:Nat.log2 8 < 9000:=by decide
theorem lg5:Nat.log2 5 < 9000:=by decide
theorem lg2:Nat.log2 2 < 9000:=by decide
theorem slc_to {t:List Nat} {p:Int} (ht:t.length≤1000) (h0:0≤p) (h1:p≤t.length):slc (.str t) .none (.int p)=some (.str (t.take p.toNat),.pl):=by
 have hb:t.length≤big:=by unfold big;exact li1 (.n (t.length) .o) (nat_lit 0x7d940000000006365020e0e3) ht
 rw [slc_s,clip_n,clip_i,if_pos (show -1000000000 < p∧p < 1000000000 by exact li3 (.z p (.n (t.length) .o)) (nat_lit 0x1f7df71740000a30a24b0e35e351000028c2892c35959235a340065020e0e4) ht h0 h1),if_neg (show ¬ p < 0 by exact li1 (.z p .o) (nat_lit 0x7de5d00235a3400) h0)]
 show(if t.length≤big then some (D.str (cut t 0 (min p.toNat t.length)),Kd.pl) else Option.none)=_
 rw [if_pos hb,Nat.min_eq_left (by exact li2 (.n (p.toNat) (.n (t.length) (.z p .o))) (nat_lit 0x7df6648dd71b4008d740095c6255635a5400595925) h1 (ltn (p)))];rfl
theorem slc_fr {t:List Nat} {p:Int} (ht:t.length≤1000) (h0:0≤p) (h1:p < 1000000):slc (.str t) (.int p) .none=some (.str (t.drop (min p.toNat t.length)),.pl):=by
 have hb:t.length≤big:=by unfold big;exact li1 (.n (t.length) .o) (nat_lit 0x7d940000000006365020e0e3) ht
 rw [slc_s,clip_n,clip_i,if_pos (show -1000000000 < p∧p < 1000000000 by exact li2 (.z p .o) (nat_lit 0x7df71740000a30a24b0e35e351000028c2892c35d00040843e35a3400) h0 h1),if_neg (show ¬ p < 0 by exact li1 (.z p .o) (nat_lit 0x7de5d00235a3400) h0)]
 show(if t.length≤big then some (D.str ((t.take t.length).drop (min p.toNat t.length)),Kd.pl) else Option.none)=_
 rw [if_pos hb,List.take_length]
theorem bd_step (k:Nat) {ns:List Int} {t:List Nat} {i:Int} {σ:Sg} (hl:ns.length≤100) (ht:t.length≤1000) (asc:Asc t) (h0:0≤i) (h1:i < 1000)
  (e0:σ 0=some ⟨.lst (ns.map .int),false⟩) (e2:σ 2=some ⟨.str t,false⟩):
  ∃ σ' t',exs (callX tab (k+1)) b_bd (upd σ 3 ⟨.int i,false⟩)=Ev.ok (.next,σ')∧σ' 0=some ⟨.lst (ns.map .int),false⟩∧σ' 2=some ⟨.str t',false⟩∧t'.length≤t.length + 1∧Asc t':=by
 have ea:=s_law_at k ns h0 h1 hl
 obtain⟨n,hn⟩:∃ n,atv ns i=n:=⟨_,rfl⟩
 rw [hn] at ea
 obtain⟨L,hL⟩:∃ L:Int,(t.length:Int)=L:=⟨_,rfl⟩
 have hp0:0≤n / 4 % (L + 1):=Int.emod_nonneg _ (by exact li1 (.z L (.n (t.length) .o)) (nat_lit 0x1f798400450063623564) hL)
 have hp1:n / 4 % (L + 1) < L + 1:=Int.emod_lt_of_pos _ (by exact li1 (.z L (.n (t.length) .o)) (nat_lit 0x7d7450063400623564) hL)
 obtain⟨c,hc,es⟩:=sub_str (s:=[97,98,99,100,101,102,103,104,49,50,51,52,53,54,55,56,78,66,82,81,110,114,113,120,61,43,35,79,45,48,32,46]) (i:=n / 64 % 32) (by exact li2 (.z (n / 64 % 32) (.z (n / 64) (.z (n / 64 / 32) .o))) (nat_lit 0x7df5a34005a44e5400098493950002923) (lmi (n / 64) (32)).2.2 (ldi (n / 64) (32)).1) (by simp;exact li2 (.z (n / 64 % 32) (.z (n / 64) (.z (n / 64 / 32) .o))) (nat_lit 0x1f7d74000a35d1400093950002918493950002923) (lmi (n / 64) (32)).2.2 (ldi (n / 64) (32)).2) (by simp)
 have hc':c < 128:=signs_asc c hc
 have hb:t.length≤big:=by unfold big;exact li1 (.n (t.length) .o) (nat_lit 0x7d940000000006365020e0e3) ht
 have hfl:fn1 .len (.str t)=some (.int L):=by rw [f_lens,if_pos hb,hL]
 have hz:0 < L + 1:=by exact li1 (.z L (.n (t.length) .o)) (nat_lit 0x7d7450063400623564) hL
 obtain⟨pl,hpl⟩:∃ pl,n / 4 % (L + 1)=pl:=⟨_,rfl⟩
 rw [hpl] at hp0 hp1
 have sl1:=slc_to ht hp0 (by exact li2 (.z pl (.n (t.length) (.z L .o))) (nat_lit 0x7df5959235d1401963625564) hL hp1)
 have sl2:slc (.str t) (.int pl) .none=some (.str (t.drop pl.toNat),.pl):=by
  rw [slc_fr ht hp0 (by exact li3 (.z pl (.n (t.length) (.z L .o))) (nat_lit 0x1f7df5d00040843e35d140196362556465020e0e4) ht hL hp1),Nat.min_eq_left (by exact li3 (.n (pl.toNat) (.n (t.length) (.z L (.z pl .o)))) (nat_lit 0x1f7df6648dd71b4008d740099c6265635a64005d1401966625564) hL hp1 (ltn (pl)))]
 have sl3:=slc_fr (p:=pl + 1) ht (by exact li1 (.z pl .o) (nat_lit 0x7d64500634005a3400) hp0) (by exact li3 (.z pl (.n (t.length) (.z L .o))) (nat_lit 0x7df7d740010210f4500635d140196362556465020e0e4) ht hL hp1)
 have hj:pl.toNat≤min (pl + 1).toNat t.length:=by exact li5 (.n (pl.toNat) (.n (min (pl + 1).toNat t.length) (.n (t.length) (.z L (.z pl (.n ((pl + 1).toNat) .o)))))) (nat_lit 0x7df7df7d992375c6d00285d00114019dc6114019d5a1645006740075c6e591aa2571ba24665a1d71b4008d74009dc6275635a74005d14019a7626565) hL hp1 (ltn (pl)) (lnn ((pl + 1).toNat) (t.length)) (ltn (pl + 1))
 generalize min (pl + 1).toNat t.length=j at *
 have q1:(t.take pl.toNat).length + 1≤big:=by simp only [List.length_take];unfold big;exact li2 (.n (min pl.toNat t.length) (.n (t.length) (.n (pl.toNat) .o))) (nat_lit 0x1f7d94000000000514018dd71b9236a591c6e58d992565020e0e4) ht (lnn (pl.toNat) (t.length))
 have q2:∀ i,(t.take pl.toNat).length + 1 + (t.drop i).length≤big:=by intro i;simp only [List.length_take,List.length_drop];unfold big;exact li3 (.n (min pl.toNat t.length) (.n (t.length - i) (.n (t.length) (.n (pl.toNat) (.n i .o))))) (nat_lit 0x7df7d94000000000519114018dd71b40091a9e571b9519e46659dd71b9636a695c6e68d996665020e0e5) ht (lnn (pl.toNat) (t.length)) (lsn (t.length) (i))
 have q3:∀ i,(t.take pl.toNat).length + (t.drop i).length≤big:=by intro i;simp only [List.length_take,List.length_drop];unfold big;exact li3 (.n (min pl.toNat t.length) (.n (t.length - i) (.n (t.length) (.n (pl.toNat) (.n i .o))))) (nat_lit 0x1f7df6500000000014648dd71b40091a9e571b9519e46659dd71b9636a695c6e68d996665020e0e5) ht (lnn (pl.toNat) (t.length)) (lsn (t.length) (i))
 have w1:bop .add (.str (t.take pl.toNat)) (.str [c])=some (.str (t.take pl.toNat ++ [c]),.pl):=by rw [b_adds];exact if_pos q1
 have w2:∀ i,bop .add (.str (t.take pl.toNat ++ [c])) (.str (t.drop i))=some (.str (t.take pl.toNat ++ [c] ++ t.drop i),.pl):=by
  intro i;rw [b_adds];exact if_pos (by rw [List.length_append];exact q2 i)
 have w3:∀ i,bop .add (.str (t.take pl.toNat)) (.str (t.drop i))=some (.str (t.take pl.toNat ++ t.drop i),.pl):=by
  intro i;rw [b_adds];exact if_pos (q3 i)
 let τ:Sg:=upd (upd (upd (upd σ 3 ⟨.int i,false⟩) 4 ⟨.int n,false⟩) 5 ⟨.int pl,false⟩) 6 ⟨.str [c],false⟩
 have d1:bop .fdiv (.int n) (.int 4)=some (.int (n / 4),.pl):=v_fdiv (by decide) lg4
 have d2:bop .fmod (.int (n / 4)) (.int (L + 1))=some (.int pl,.pl):=by rw [v_fmod hz,hpl]
 have d3:bop .fdiv (.int n) (.int 64)=some (.int (n / 64),.pl):=v_fdiv (by decide) lg64
 have d4:bop .fmod (.int (n / 64)) (.int 32)=some (.int (n / 64 % 32),.pl):=v_fmod (by decide)
 have d5:bop .fmod (.int n) (.int 4)=some (.int (n % 4),.pl):=v_fmod (by decide)
 generalize ns.map D.int=N at *
 have x0:ex (callX tab (k+1)) (s_at b_bd 0) (upd σ 3 ⟨.int i,false⟩)=Ev.ok (.next,upd (upd σ 3 ⟨.int i,false⟩) 4 ⟨.int n,false⟩):=by
  have hh:=fun r:Fl×Sg=>ai e0 (ai ea (Eq.refl r))
  exact one_eq [.r 0 _,.d _ _] (hh _)
 have x1:ex (callX tab (k+1)) (s_at b_bd 1) (upd (upd σ 3 ⟨.int i,false⟩) 4 ⟨.int n,false⟩)=Ev.ok (.next,upd (upd (upd σ 3 ⟨.int i,false⟩) 4 ⟨.int n,false⟩) 5 ⟨.int pl,false⟩):=by
  clear x0
  have hh:=fun r:Fl×Sg=>ai d1 (ai e2 (ai hfl (ai d2 (Eq.refl r))))
  exact one_eq [.d _ _,.r 2 _,.v _,.d _ _] (hh _)
 have x2:ex (callX tab (k+1)) (s_at b_bd 2) (upd (upd (upd σ 3 ⟨.int i,false⟩) 4 ⟨.int n,false⟩) 5 ⟨.int pl,false⟩)=Ev.ok (.next,τ):=by
  clear x0 x1
  have hh:=fun r:Fl×Sg=>ai d3 (ai d4 (ai es (Eq.refl r)))
  exact one_eq [.d _ _,.d _ _,.v _] (hh _)
 have n3:n % 4≠1→∀ υ:Sg,υ 4=some ⟨.int n,false⟩→ex (callX tab (k+1)) (s_at b_bd 3) υ=Ev.ok (.next,υ):=fun m υ h4=>by
  clear x0 x1 x2
  have hh:=fun r:Fl×Sg=>ai h4 (ai d5 (ai (asb_f m) (Eq.refl r)))
  exact one_eq [.r 4 _,.d _ _,.b false] (hh _)
 have n4:n % 4≠2→∀ υ:Sg,υ 4=some ⟨.int n,false⟩→ex (callX tab (k+1)) (s_at b_bd 4) υ=Ev.ok (.next,υ):=fun m υ h4=>by
  clear x0 x1 x2 n3
  have hh:=fun r:Fl×Sg=>ai h4 (ai d5 (ai (asb_f m) (Eq.refl r)))
  exact one_eq [.r 4 _,.d _ _,.b false] (hh _)
 have n5:n % 4≠3→∀ υ:Sg,υ 4=some ⟨.int n,false⟩→ex (callX tab (k+1)) (s_at b_bd 5) υ=Ev.ok (.next,υ):=fun m υ h4=>by
  clear x0 x1 x2 n3 n4
  have hh:=fun r:Fl×Sg=>ai h4 (ai d5 (ai (asb_f m) (Eq.refl r)))
  exact one_eq [.r 4 _,.d _ _,.b false] (hh _)
 have y3:n % 4=1→ex (callX tab (k+1)) (s_at b_bd 3) τ=Ev.ok (.next,upd τ 2 ⟨.str (t.take pl.toNat ++ [c] ++ t.drop pl.toNat),false⟩):=fun m=>by
  have w2:=w2 pl.toNat
  clear x0 x1 x2 n3 n4 n5 w3
  have hh:=fun r:Fl×Sg=>ai d5 (ai (asb_t m) (ai e2 (ai sl1 (ai w1 (ai e2 (ai sl2 (ai w2 (Eq.refl r))))))))
  exact one_eq [.d _ _,.b true,.r 2 _,.d _ _,.d _ _,.r 2 _,.d _ _,.d _ _] (hh _)
 have y4:n % 4=2→ex (callX tab (k+1)) (s_at b_bd 4) τ=Ev.ok (.next,upd τ 2 ⟨.str (t.take pl.toNat ++ t.drop j),false⟩):=fun m=>by
  have w3:=w3 j
  clear x0 x1 x2 n3 n4 n5 w2 y3
  have hh:=fun r:Fl×Sg=>ai d5 (ai (asb_t m) (ai e2 (ai sl1 (ai e2 (ai sl3 (ai w3 (Eq.refl r)))))))
  exact one_eq [.d _ _,.b true,.r 2 _,.d _ _,.r 2 _,.d _ _,.d _ _] (hh _)
 have y5:n % 4=3→ex (callX tab (k+1)) (s_at b_bd 5) τ=Ev.ok (.next,upd τ 2 ⟨.str (t.take pl.toNat ++ [c] ++ t.drop j),false⟩):=fun m=>by
  have w2:=w2 j
  clear x0 x1 x2 n3 n4 n5 w3 y3 y4
  have hh:=fun r:Fl×Sg=>ai d5 (ai (asb_t m) (ai e2 (ai sl1 (ai w1 (ai e2 (ai sl3 (ai w2 (Eq.refl r))))))))
  exact one_eq [.d _ _,.b true,.r 2 _,.d _ _,.d _ _,.r 2 _,.d _ _,.d _ _] (hh _)
 have go:∀ {σ'} (_:exs (callX tab (k+1)) [s_at b_bd 3,s_at b_bd 4,s_at b_bd 5] τ=Ev.ok (.next,σ')),exs (callX tab (k+1)) b_bd (upd σ 3 ⟨.int i,false⟩)=Ev.ok (.next,σ'):=fun h=>(exs_cons1 x0).trans ((exs_cons1 x1).trans ((exs_cons1 x2).trans h))
 have lt:(t.take pl.toNat).length=pl.toNat:=by rw [List.length_take];exact li4 (.n (min pl.toNat t.length) (.n (pl.toNat) (.n (t.length) (.z L (.z pl .o))))) (nat_lit 0x1f7df7db92375c6d00245d00277189d59169d001d71b9636a495c6e48d99645d14019a7626565) hL hp1 (lnn (pl.toNat) (t.length)) (ltn (pl))
 by_cases m1:n % 4=1
 ·refine⟨_,_,go ((exs_cons1 (y3 m1)).trans ((exs_cons1 (n4 (by exact li1 (.z (n % 4) .o) (nat_lit 0x7de6100a3610063) m1) _ rfl)).trans (exs_cons1 (n5 (by exact li1 (.z (n % 4) .o) (nat_lit 0x7de6100e3610063) m1) _ rfl)))),e0,rfl,?_,asc_app (asc_app (asc_take asc _) (asc_one hc')) (asc_drop asc _)⟩
  simp only [List.length_append,lt,List.length_drop,List.length_cons,List.length_nil];exact li4 (.n (pl.toNat) (.n (t.length - pl.toNat) (.n (t.length) (.z L (.z pl .o))))) (nat_lit 0x1f7df7d94500654644514014008dd71b40091a8e571b9518e46658dd71b4008d74009dc6275635a74005d14019a7626565) hL hp1 (ltn (pl)) (lsn (t.length) (pl.toNat))
 ·by_cases m2:n % 4=2
  ·refine⟨_,_,go ((exs_cons1 (n3 m1 _ rfl)).trans ((exs_cons1 (y4 m2)).trans (exs_cons1 (n5 (by exact li1 (.z (n % 4) .o) (nat_lit 0x7de6100e36100a3) m2) _ rfl)))),e0,rfl,?_,asc_app (asc_take asc _) (asc_drop asc _)⟩
   simp only [List.length_append,lt,List.length_drop];exact li5 (.n (pl.toNat) (.n (t.length - j) (.n (t.length) (.z L (.z pl (.n j .o)))))) (nat_lit 0x1f7df7df65140195192375c6d00246a895c6e546891996875c6d00235d00277189d58d69d0019a235d14019a7626565) hL hp1 hj (ltn (pl)) (lsn (t.length) (j))
  ·by_cases m3:n % 4=3
   ·refine⟨_,_,go ((exs_cons1 (n3 m1 _ rfl)).trans ((exs_cons1 (n4 m2 _ rfl)).trans (exs_cons1 (y5 m3)))),e0,rfl,?_,asc_app (asc_app (asc_take asc _) (asc_one hc')) (asc_drop asc _)⟩
    simp only [List.length_append,lt,List.length_drop,List.length_cons,List.length_nil];exact li5 (.n (pl.toNat) (.n (t.length - j) (.n (t.length) (.z L (.z pl (.n j .o)))))) (nat_lit 0x1f7df7df65140195191145005002375c6d00246a895c6e546891996875c6d00235d00277189d58d69d0019a235d14019a7626565) hL hp1 hj (ltn (pl)) (lsn (t.length) (j))
   ·exact⟨_,t,go ((exs_cons1 (n3 m1 _ rfl)).trans ((exs_cons1 (n4 m2 _ rfl)).trans (exs_cons1 (n5 m3 _ rfl)))),e0,e2,by exact li0 (.n (t.length) .o) (nat_lit 27132958947),asc⟩
theorem s_law_bend (k:Nat) {ns:List Int} {t:List Nat} {f:Int} (hl:ns.length≤100) (ht:t.length≤900) (asc:Asc t) (h0:0≤f) (h1:f < 900):
  ∃ t',callX tab (k+2) f_law_bend [.lst (ns.map .int),.int f,.str t]=Ev.ok (.str t',.pl)∧t'.length≤t.length + 3∧Asc t':=by
 obtain⟨σ1,t1,a1,b1,c1,d1,f1⟩:=bd_step k (σ:=start 3 [.lst (ns.map .int),.int f,.str t]) (i:=f) hl (by exact li1 (.n (t.length) .o) (nat_lit 0x1f65020e0e36501080e3) ht) asc h0 (by exact li1 (.z f .o) (nat_lit 0x1f5d020e0e35d01080e3) h1) rfl rfl
 obtain⟨σ2,t2,a2,b2,c2,d2,f2⟩:=bd_step k (i:=f + 1) hl (by exact li2 (.n (t1.length) (.n (t.length) .o)) (nat_lit 0x7df65020e0e36514019236501080e4) ht d1) f1 (by exact li1 (.z f .o) (nat_lit 0x7d64500634005a3400) h0) (by exact li1 (.z f .o) (nat_lit 0x7d74083834500635d01080e3) h1) b1 c1
 obtain⟨σ3,t3,a3,b3,c3,d3,f3⟩:=bd_step k (i:=f + 2) hl (by exact li3 (.n (t2.length) (.n (t.length) (.n (t1.length) .o))) (nat_lit 0x1f7df65020e0e36514019636514019256501080e4) ht d1 d2) f2 (by exact li1 (.z f .o) (nat_lit 0x7d64500a34005a3400) h0) (by exact li1 (.z f .o) (nat_lit 0x7d74083834500a35d01080e3) h1) b2 c2
 refine⟨t3,?_,by exact li3 (.n (t3.length) (.n (t.length) (.n (t1.length) (.n (t2.length) .o)))) (nat_lit 0x1f7df6514039236514019a3651401966651401925) d1 d2 d3,f3⟩
 show runF (callX tab (k+1)) p_law_bend [_,_,_]=_
 have hr:=range3 f h0 (by exact li1 (.z f .o) (nat_lit 0x1f5d020e0e35d01080e3) h1)
 generalize (ns.map D.int)=N at *
 simp [b_add,tr_pl,e_lit,e_var,e_bin,x_ret,n_var,x_forR,s_nil,s_cons,runF,start,Ev.bind_ok,Ev.of_some,p_bd,hr,forGo_cons,forGo_nil,a1,a2,a3,c3]
end Mine

namespace Mine
noncomputable def dg (c:Nat):Bool:=([48,49,50,51,52,53,54,55,56,57]:List Nat).contains c
noncomputable def dt (c:Nat):Bool:=decide (c=46)
noncomputable def sA (w:List Nat):List Nat:=w.takeWhile dg
noncomputable def sB (w:List Nat):List Nat:=(w.dropWhile dg).takeWhile dt
noncomputable def sC (w:List Nat):List Nat:=(w.dropWhile dg).dropWhile dt
theorem sABC (w:List Nat):w=sA w ++ (sB w ++ sC w):=by
 unfold sA sB sC;rw [List.takeWhile_append_dropWhile,List.takeWhile_append_dropWhile]
noncomputable def whC:Option St→X
 | some (.whil c _)=>c
 | _=>.non
noncomputable def c_s1:X:=whC p_split_number.body[1]?
noncomputable def c_s2:X:=whC p_split_number.body[3]?
noncomputable def b_s1:List St:=forBody p_split_number.body[1]?
noncomputable def b_s2:List St:=forBody p_split_number.body[3]?
theorem p_sn:p_split_number=⟨1,[
 .asg 1 (.lit (.int 0)),
 .whil c_s1 b_s1,
 .asg 2 (.var 1),
 .whil c_s2 b_s2,
 .ret (.tup [(.slc (.var 0) .non (.var 1)),(.bin .sub (.var 2) (.var 1)),(.slc (.var 0) (.var 2) .non)])]⟩:=rfl
theorem whileGo_s (c:Sg→Ev Bool) (f:Sg→Ev (Fl×Sg)) (n:Nat) (σ:Sg):whileGo c f (n + 1) σ=(c σ).bind fun b=>if b then (f σ).bind fun r=>(match r.1 with
  | .ret _ _=>Ev.ok r
  | _=>whileGo c f n r.2) else Ev.ok (.next,σ):=rfl
theorem sub_mid (p:List Nat) (c:Nat) (r:List Nat) {i:Int} (hi:i=p.length) (hl:p.length≤1000):sub (.str (p ++ c :: r)) (.int i)=some (.str [c]):=by
 have h0:0≤i:=by exact li1 (.z i (.n (p.length) .o)) (nat_lit 8824903669209379) hi
 have h1:i < 1000000000:=by exact li2 (.z i (.n (p.length) .o)) (nat_lit 0x1f7d740000a30a24b0e365020e0e4615923) hi hl
 have h2:i.toNat=p.length:=by exact li2 (.n (i.toNat) (.n (p.length) (.z i .o))) (nat_lit 0x7df6e48dd71b4008d740095c6255635a5400615925) hi (ltn (i))
 simp [sub,h0,h1,h2]
theorem sn1 (Φ:Nat→List D→Ev (D×Kd)):∀ (r p:List Nat) (n:Nat) (i:Int) (σ:Sg),r.length < n→(p ++ r).length≤1000→i=p.length→σ 0=some ⟨.str (p ++ r),false⟩→σ 1=some ⟨.int i,false⟩→
  ∃ σ',whileGo (fun σ=>(ev Φ c_s1 σ).bind fun x=>Ev.of (asB x.1)) (fun σ=>exs Φ b_s1 σ) n σ=Ev.ok (.next,σ')∧σ' 0=some ⟨.str (p ++ r),false⟩∧σ' 1=some ⟨.int (i + (r.takeWhile dg).length),false⟩:=by
 intro r
 induction r with
 | nil=>
  intro p n i σ hn hl hi h0 h1
  obtain⟨n,rfl⟩:∃ m,n=m + 1:=⟨n - 1,by simp at hn;exact li2 (.n n (.n (n - 1) .o)) (nat_lit 0x1f7db4500648dd71b40091a4018dc6e34500646634016a3400) hn (lsn (n) (1))⟩
  have hL:fn1 .len (.str (p ++ []))=some (.int i):=by rw [f_lens,if_pos (by unfold big;exact li1 (.n ((p ++ []).length) .o) (nat_lit 0x7d940000000006365020e0e3) hl),List.append_nil,hi]
  refine⟨σ,?_,h0,by simpa using h1⟩
  rw [whileGo_s]
  have:(ev Φ c_s1 σ).bind (fun x=>Ev.of (asB x.1))=Ev.ok false:=by
   rw [List.append_nil] at hL h0
   simp [c_lt,asB_b,tr_pl,e_lit,e_var,e_cmp,e_and,e_fn1,e_idx,Ev.bind_ok,Ev.of_some,c_s1,whC,p_split_number,h0,h1,hL]
  rw [this];rfl
 | cons c r ih=>
  intro p n i σ hn hl hi h0 h1
  obtain⟨n,rfl⟩:∃ m,n=m + 1:=⟨n - 1,by simp at hn;exact li2 (.n n (.n (n - 1) (.n (r.length) .o))) (nat_lit 0x1f7db4500648dd71b40091a4018dc6e34500646634016a3450065) hn (lsn (n) (1))⟩
  obtain⟨L,hL0⟩:∃ L:Int,L=(p ++ c :: r).length:=⟨_,rfl⟩
  have hL:fn1 .len (.str (p ++ c :: r))=some (.int L):=by rw [f_lens,if_pos (by unfold big;exact li1 (.n ((p ++ c :: r).length) .o) (nat_lit 0x7d940000000006365020e0e3) hl),hL0]
  have hlt:i < L:=by rw [hL0,hi];simp;exact li0 (.n (p.length) (.n (r.length) .o)) (nat_lit 0x17451401564563563)
  have hs:=sub_mid p c r hi (by simp at hl;exact li1 (.n (p.length) (.n (r.length) .o)) (nat_lit 0x7d94083838d9408383451401923) hl)
  rw [whileGo_s]
  have hc:(ev Φ c_s1 σ).bind (fun x=>Ev.of (asB x.1))=Ev.ok (dg c):=by
   have hin:cop .isin (.str [c]) (.str [48,49,50,51,52,53,54,55,56,57])=some (dg c):=rfl
   generalize (p ++ c :: r)=W at *
   simp [c_lt,asB_b,tr_pl,e_lit,e_var,e_cmp,e_and,e_fn1,e_idx,Ev.bind_ok,Ev.of_some,c_s1,whC,p_split_number,h0,h1,hL,hlt,hs,hin]
  rw [hc,Ev.bind_ok]
  by_cases hd:dg c=true
  ·have hb:exs Φ b_s1 σ=Ev.ok (.next,upd σ 1 ⟨.int (i + 1),false⟩):=by
    have hh:=fun r:Fl×Sg=>ai h1 (Eq.refl r)
    exact run_eq [.r 1 _] (hh _)
   rw [hd,if_pos rfl,hb]
   have e:p ++ c :: r=(p ++ [c]) ++ r:=by simp
   obtain⟨σ',a,b,d⟩:=ih (p ++ [c]) n (i + 1) (upd σ 1 ⟨.int (i + 1),false⟩) (by simp at hn;exact li1 (.n (r.length) (.n n .o)) (nat_lit 2158834329891) hn) (by rw [← e];exact hl) (by simp;exact li1 (.z i (.n (p.length) .o)) (nat_lit 8832759751596323) hi) (by rw [← e];simpa [upd] using h0) (by simp [upd])
   refine⟨σ',a,by rw [e];exact b,?_⟩
   rw [d,List.takeWhile_cons,hd];simp;exact li0 (.z i (.n ((List.takeWhile dg r).length) .o)) (nat_lit 0x184514015648d1564450063)
  ·have hd':dg c=false:=by simpa using hd
   rw [hd',List.takeWhile_cons,hd']
   exact⟨σ,rfl,h0,by simpa using h1⟩
theorem sn2 (Φ:Nat→List D→Ev (D×Kd)) (q:D):∀ (r p:List Nat) (n:Nat) (i:Int) (σ:Sg),r.length < n→(p ++ r).length≤1000→i=p.length→σ 0=some ⟨.str (p ++ r),false⟩→σ 1=some ⟨q,false⟩→σ 2=some ⟨.int i,false⟩→
  ∃ σ',whileGo (fun σ=>(ev Φ c_s2 σ).bind fun x=>Ev.of (asB x.1)) (fun σ=>exs Φ b_s2 σ) n σ=Ev.ok (.next,σ')∧σ' 0=some ⟨.str (p ++ r),false⟩∧σ' 1=some ⟨q,false⟩∧σ' 2=some ⟨.int (i + (r.takeWhile dt).length),false⟩:=by
 intro r
 induction r with
 | nil=>
  intro p n i σ hn hl hi h0 hq h1
  obtain⟨n,rfl⟩:∃ m,n=m + 1:=⟨n - 1,by simp at hn;exact li2 (.n n (.n (n - 1) .o)) (nat_lit 0x1f7db4500648dd71b40091a4018dc6e34500646634016a3400) hn (lsn (n) (1))⟩
  have hL:fn1 .len (.str (p ++ []))=some (.int i):=by rw [f_lens,if_pos (by unfold big;exact li1 (.n ((p ++ []).length) .o) (nat_lit 0x7d940000000006365020e0e3) hl),List.append_nil,hi]
  refine⟨σ,?_,h0,hq,by simpa using h1⟩
  rw [whileGo_s]
  have:(ev Φ c_s2 σ).bind (fun x=>Ev.of (asB x.1))=Ev.ok false:=by
   rw [List.append_nil] at hL h0
   simp [c_lt,asB_b,tr_pl,e_lit,e_var,e_cmp,e_and,e_fn1,e_idx,Ev.bind_ok,Ev.of_some,c_s2,whC,p_split_number,h0,h1,hL]
  rw [this];rfl
 | cons c r ih=>
  intro p n i σ hn hl hi h0 hq h1
  obtain⟨n,rfl⟩:∃ m,n=m + 1:=⟨n - 1,by simp at hn;exact li2 (.n n (.n (n - 1) (.n (r.length) .o))) (nat_lit 0x1f7db4500648dd71b40091a4018dc6e34500646634016a3450065) hn (lsn (n) (1))⟩
  obtain⟨L,hL0⟩:∃ L:Int,L=(p ++ c :: r).length:=⟨_,rfl⟩
  have hL:fn1 .len (.str (p ++ c :: r))=some (.int L):=by rw [f_lens,if_pos (by unfold big;exact li1 (.n ((p ++ c :: r).length) .o) (nat_lit 0x7d940000000006365020e0e3) hl),hL0]
  have hlt:i < L:=by rw [hL0,hi];simp;exact li0 (.n (p.length) (.n (r.length) .o)) (nat_lit 0x17451401564563563)
  have hs:=sub_mid p c r hi (by simp at hl;exact li1 (.n (p.length) (.n (r.length) .o)) (nat_lit 0x7d94083838d9408383451401923) hl)
  rw [whileGo_s]
  have hc:(ev Φ c_s2 σ).bind (fun x=>Ev.of (asB x.1))=Ev.ok (dt c):=by
   generalize (p ++ c :: r)=W at *
   simp [c_eqs,c_lt,asB_b,tr_pl,e_lit,e_var,e_cmp,e_and,e_fn1,e_idx,Ev.bind_ok,Ev.of_some,c_s2,whC,p_split_number,h0,h1,hL,hlt,hs,dt]
  rw [hc,Ev.bind_ok]
  by_cases hd:dt c=true
  ·have hb:exs Φ b_s2 σ=Ev.ok (.next,upd σ 2 ⟨.int (i + 1),false⟩):=by
    have hh:=fun r:Fl×Sg=>ai h1 (Eq.refl r)
    exact run_eq [.r 2 _] (hh _)
   rw [hd,if_pos rfl,hb]
   have e:p ++ c :: r=(p ++ [c]) ++ r:=by simp
   obtain⟨σ',a,b,b',d⟩:=ih (p ++ [c]) n (i + 1) (upd σ 2 ⟨.int (i + 1),false⟩) (by simp at hn;exact li1 (.n (r.length) (.n n .o)) (nat_lit 2158834329891) hn) (by rw [← e];exact hl) (by simp;exact li1 (.z i (.n (p.length) .o)) (nat_lit 8832759751596323) hi) (by rw [← e];simpa [upd] using h0) (by simpa [upd] using hq) (by simp [upd])
   refine⟨σ',a,by rw [e];exact b,b',?_⟩
   rw [d,List.takeWhile_cons,hd];simp;exact li0 (.z i (.n ((List.takeWhile dt r).length) .o)) (nat_lit 0x184514015648d1564450063)
  ·have hd':dt c=false:=by simpa using hd
   rw [hd',List.takeWhile_cons,hd']
   exact⟨σ,rfl,h0,hq,by simpa using h1⟩
theorem take_eq {w A R:List Nat} (h:w=A ++ R):w.take A.length=A:=by subst h;simp
theorem drop_eq {w A R:List Nat} (h:w=A ++ R):w.drop A.length=R:=by subst h;simp
theorem s_split_number (k:Nat) (w:List Nat) (hl:w.length≤98):callX tab (k+1) f_split_number [.str w]=Ev.ok (.tup [.str (sA w),.int (sB w).length,.str (sC w)],.pl):=by
 have hw:=sABC w
 have hlen:w.length=(sA w).length + ((sB w).length + (sC w).length):=by conv=>lhs;rw [hw];simp
 obtain⟨σ1,a1,b1,c1⟩:=sn1 (callX tab k) w [] 100 0 (upd (start 1 [.str w]) 1 ⟨.int 0,false⟩) (by exact li1 (.n (w.length) .o) (nat_lit 0x1f6901068d94021a3) hl) (by simp;exact li1 (.n (w.length) .o) (nat_lit 0x7d94083838d94021a3) hl) rfl rfl rfl
 obtain⟨A,hA⟩:∃ A:Int,(0:Int) + (w.takeWhile dg).length=A:=⟨_,rfl⟩
 rw [hA] at c1
 have hA':A=(sA w).length:=by rw [← hA];unfold sA;exact li0 (.n ((List.takeWhile dg w).length) .o) (nat_lit 0x6158d1563400)
 have hdw:w=sA w ++ w.dropWhile dg:=by unfold sA;rw [List.takeWhile_append_dropWhile]
 have b1':σ1 0=some ⟨.str (sA w ++ w.dropWhile dg),false⟩:=by rw [← hdw];exact b1
 have hlw:w.length=(sA w).length + (w.dropWhile dg).length:=by conv=>lhs;rw [hdw];simp
 obtain⟨σ2,a2,b2,d2,c2⟩:=sn2 (callX tab k) (.int A) (w.dropWhile dg) (sA w) 100 A (upd σ1 2 ⟨.int A,false⟩) (by exact li2 (.n ((List.dropWhile dg w).length) (.n (w.length) (.n ((sA w).length) .o))) (nat_lit 0x1f7da4041a36d18e59194021a4) hl hlw) (by rw [← hdw];exact li1 (.n (w.length) .o) (nat_lit 0x7d94083838d94021a3) hl) hA' (by simpa [upd] using b1') (by simpa [upd] using c1) (by simp [upd])
 rw [← hdw] at b2
 obtain⟨B,hB⟩:∃ B:Int,((sB w).length:Int)=B:=⟨_,rfl⟩
 have c2':σ2 2=some ⟨.int (A + B),false⟩:=by rw [c2,← hB];rfl
 have hbig:w.length≤big:=by unfold big;exact li1 (.n (w.length) .o) (nat_lit 0x1f6500000000018d94021a3) hl
 have sl1:slc (.str w) .none (.int A)=some (.str (sA w),.pl):=by
  have g1:-1000000000 < A∧A < 1000000000:=by exact li3 (.z A (.n (w.length) (.n ((sA w).length) (.n ((List.dropWhile dg w).length) .o)))) (nat_lit 0x1f7df71740000a30a24b0e35e351000028c2892c36d19a59185658d94021a4) hl hA' hlw
  have g2:¬ A < 0:=by exact li1 (.z A (.n ((List.takeWhile dg w).length) .o)) (nat_lit 0x1f7974008d88d1564400) hA
  have g3:min A.toNat w.length=(sA w).length:=by exact li4 (.n (min A.toNat w.length) (.n ((sA w).length) (.n (w.length) (.z A (.n ((List.dropWhile dg w).length) (.n (A.toNat) .o)))))) (nat_lit 0x7df7df6e48dd71b400a1740099c6265685a640075c6e58daa2571ba23665a1b467925615926) hA' hlw (lnn (A.toNat) (w.length)) (ltn (A))
  have g4:w.take (sA w).length=sA w:=take_eq hw
  simp [slc_s,clip_n,clip_i,g1,g2,hbig,cut,g3,g4]
 have sl2:slc (.str w) (.int (A + B)) .none=some (.str (sC w),.pl):=by
  have g1:-1000000000 < A + B∧A + B < 1000000000:=by exact li4 (.z A (.z B (.n (w.length) (.n ((sA w).length) (.n ((sB w).length) (.n ((sC w).length) .o)))))) (nat_lit 0x7df7df71740000a30a24b0d19235d192351000028c2892c36245676159a36d14689e69594021a5) hl hlen hA' hB
  have g2:¬ A + B < 0:=by exact li2 (.z A (.z B (.n ((sB w).length) (.n ((List.takeWhile dg w).length) .o)))) (nat_lit 0x7df7974004648d89159588d1566400) hA hB
  have g3:min (A + B).toNat w.length=(sA w ++ sB w).length:=by simp;exact li5 (.n (min (A + B).toNat w.length) (.n ((sA w).length) (.n ((sB w).length) (.n (w.length) (.n ((sC w).length) (.z A (.z B (.n ((A + B).toNat) .o)))))))) (nat_lit 0x1f7df7df6d19648dd71b400a97400469a1c611a6856a591a6840075c6e68daaa671baa3666a98a55958564a1b4519e5926) hlen hA' hB (lnn ((A + B).toNat) (w.length)) (ltn (A + B))
  have g4:w.drop (sA w ++ sB w).length=sC w:=drop_eq (by rw [List.append_assoc];exact hw)
  have g5:(cut w (min (A + B).toNat w.length) w.length)=sC w:=by
   rw [g3];unfold cut;rw [List.take_of_length_le (by exact li0 (.n (w.length) .o) (nat_lit 104675)),g4]
  simp only [slc_s,clip_n,clip_i,if_pos g1,if_neg g2,if_pos hbig,Option.bind_some,g5]
 show runF (callX tab k) p_split_number [_]=_
 rw [hB]
 have hsub:A + B - A=B:=by exact li0 (.z A (.z B .o)) (nat_lit 1688233384227)
 have hh:=fun r:Ev (D×Kd)=>ai a1 (ai c1 (ai a2 (ai (frz_at b2) (ai (frz_at d2) (ai sl1 (ai (frz_at c2') (ai (frz_at d2) (ai (frz_at b2) (ai (frz_at c2') (ai sl2 (Eq.refl r)))))))))))
 exact Eq.trans (fun_eq (r:=(D.tup [D.str (sA w),D.int (A + B - A),D.str (sC w)],Kd.pl)) [.f _ _,.r 1 _,.f _ _,.r 0 _,.r 1 _,.d _ _,.r 2 _,.r 1 _,.r 0 _,.r 2 _,.d _ _] rfl (hh _)) (by rw [hsub])
end Mine

namespace Mine
noncomputable def okn (s f:Int) (w:List Nat):Prop:=sA w=dec f.toNat∧(sB w).length=if s=0 then 1 else 3
open scoped Classical
noncomputable def mkd (w:List Nat):Prop:=sA w≠[]∨sB w≠[]
noncomputable def nxf (s f:Int):Int:=if s=1 then f + 1 else f
noncomputable def rd:Int→Int→Bool→List (List Nat)→List (List Nat)→Option (List (List Nat))
 | _,_,told,[],acc=>if told then Option.none else some acc
 | s,f,told,w :: ws,acc=>
  if mkd w∧(told=true∨¬ okn s f w) then Option.none
  else if sC w≠[] then rd (1 - s) (nxf s f) false ws (acc ++ [sC w])
  else rd s f (told || decide (mkd w)) ws acc
theorem s_is_number_right (k:Nat) {s f:Int} (w:List Nat) (f0:0≤f) (f1:f < 100000) (hs:s=0∨s=1):callX tab (k+1) f_is_number_right [.int s,.int f,.str (sA w),.int (sB w).length]=Ev.ok (.bool (decide (okn s f w)),.pl):=by
 have hf:0≤f∧f < 10000000000:=by exact li2 (.z f .o) (nat_lit 0x1f7dc5d000010e2c01050a35a34005d000a1880635a3400) f0 f1
 have hd:fn1 .str (.int f)=some (.str (dec f.toNat)):=by rw [f_str,if_pos hf]
 obtain⟨B,hB⟩:∃ B:Int,((sB w).length:Int)=B:=⟨_,rfl⟩
 obtain⟨F,hF⟩:∃ F,dec f.toNat=F:=⟨_,rfl⟩
 rw [hF] at hd
 show runF (callX tab k) p_is_number_right [_,_,_,_]=_
 rcases hs with e | e
 ·subst e
  have hk:decide (okn 0 f w)=(decide (B=1) && decide (sA w=F)):=by
   rw [Bool.eq_iff_iff];simp only [okn,hF,Bool.and_eq_true,decide_eq_true_eq,if_true]
   have hx:(sB w).length=1 ↔ B=1:=by exact li1 (.n ((sB w).length) (.z B .o)) (nat_lit 0x7e06100646d0063624563) hB
   rw [hx];exact and_comm
  rw [hB,hk]
  by_cases h1:B=1 <;> (first | (have hh:=fun r:Ev (D×Kd)=>ai rt (ai (asb_t h1) (ai hd (ai (@c_eqs (sA w) (F)) (Eq.refl r))));exact Eq.trans (fun_eq (r:=(D.bool (decide (sA w=F)),Kd.pl)) [.b true,.b true,.v _,.b _] rfl (hh _)) (by simp [h1])) | (have hh:=fun r:Ev (D×Kd)=>ai rt (ai (asb_f h1) (Eq.refl r));exact Eq.trans (fun_eq (r:=(D.bool false,Kd.pl)) [.b true,.b false] rfl (hh _)) (by simp [h1])))
 ·subst e
  have hk:decide (okn 1 f w)=(decide (B=3) && decide (sA w=F)):=by
   rw [Bool.eq_iff_iff];simp only [okn,hF,Bool.and_eq_true,decide_eq_true_eq]
   have:¬ ((1:Int)=0):=by exact li0 .o (nat_lit 32619103233)
   simp only [this,if_false]
   have hx:(sB w).length=3 ↔ B=3:=by exact li1 (.n ((sB w).length) (.z B .o)) (nat_lit 0x7e06100e46d00e3624563) hB
   rw [hx];exact and_comm
  rw [hB,hk]
  by_cases h1:B=3 <;> (first | (have hh:=fun r:Ev (D×Kd)=>ai rf (ai (asb_t h1) (ai hd (ai (@c_eqs (sA w) (F)) (Eq.refl r))));exact Eq.trans (fun_eq (r:=(D.bool (decide (sA w=F)),Kd.pl)) [.b false,.b true,.v _,.b _] rfl (hh _)) (by simp [h1])) | (have hh:=fun r:Ev (D×Kd)=>ai rf (ai (asb_f h1) (Eq.refl r));exact Eq.trans (fun_eq (r:=(D.bool false,Kd.pl)) [.b false,.b false] rfl (hh _)) (by simp [h1])))
noncomputable def b_sl:List St:=forBody p_split_line.body[2]?
theorem p_sl:p_split_line=⟨3,[
 .asg 3 (.lst []),
 .asg 4 (.lit (.bool false)),
 .forE 5 (.mth .split (.var 2) (.lit (.str [32]))) b_sl,
 .iff (.var 4) [
  .rais (.var 2)] [],
 .ret (.var 3)]⟩:=rfl
structure SL (σ:Sg) (s f:Int) (told:Bool) (acc:List (List Nat)) (tx:List Nat):Prop where
 a0:σ 0=some ⟨.int s,false⟩
 a1:σ 1=some ⟨.int f,false⟩
 a2:σ 2=some ⟨.str tx,false⟩
 a3:σ 3=some ⟨.lst (acc.map .str),true⟩
 a4:σ 4=some ⟨.bool told,false⟩
theorem sl_step (k:Nat) {s f:Int} {told:Bool} {acc:List (List Nat)} {tx:List Nat} {σ:Sg} (w:List Nat) (hw:w.length≤98) (hs:s=0∨s=1) (f0:0≤f) (f1:f < 100000) (ha:acc.length < 1000) (h:SL σ s f told acc tx):
  (mkd w∧(told=true∨¬ okn s f w)∧exs (callX tab (k+1)) b_sl (upd σ 5 ⟨.str w,false⟩)=Ev.bad)∨
  (¬ (mkd w∧(told=true∨¬ okn s f w))∧sC w≠[]∧∃ σ',exs (callX tab (k+1)) b_sl (upd σ 5 ⟨.str w,false⟩)=Ev.ok (.next,σ')∧SL σ' (1 - s) (nxf s f) false (acc ++ [sC w]) tx)∨
  (¬ (mkd w∧(told=true∨¬ okn s f w))∧sC w=[]∧∃ σ',exs (callX tab (k+1)) b_sl (upd σ 5 ⟨.str w,false⟩)=Ev.ok (.next,σ')∧SL σ' s f (told || decide (mkd w)) acc tx):=by
 have e1:=s_split_number k w hw
 have e2:=s_is_number_right k w f0 f1 hs
 obtain⟨a0,a1,a2,a3,a4⟩:=h
 have hm:mkd w ↔ (sA w≠[]∨0 < (sB w).length):=by
  unfold mkd;rw [List.length_pos_iff]
 obtain⟨B,hB⟩:∃ B:Int,((sB w).length:Int)=B:=⟨_,rfl⟩
 have hm':mkd w ↔ (sA w≠[]∨0 < B):=by
  have hx:0 < (sB w).length ↔ 0 < B:=by exact li1 (.n ((sB w).length) (.z B .o)) (nat_lit 0x7e05e44006a3400624563) hB
  rw [hm,hx]
 rw [hB] at e1 e2
 have hl:(acc.map D.str).length < big:=by simp;unfold big;exact li1 (.n (acc.length) .o) (nat_lit 0x7da40000000006369020e0e3) ha
 have hap:acc.map D.str ++ [D.str (sC w)]=(acc ++ [sC w]).map D.str:=by simp
 generalize hN:acc.map D.str=N at *
 obtain⟨C,hCC⟩:∃ C,sC w=C:=⟨_,rfl⟩
 have ak:decide (mkd w)=(decide (sA w≠[]) || decide (0 < B)):=by rw [Bool.eq_iff_iff];simp [hm']
 generalize hA:sA w=A at *
 rw [hCC] at e1 hap ⊢
 have nA:=c_nes A []
 let τ:Sg:=upd (upd (upd (upd σ 5 ⟨.str w,false⟩) 6 ⟨.str A,false⟩) 7 ⟨.int B,false⟩) 8 ⟨.str C,false⟩
 have x0:ex (callX tab (k+1)) (s_at b_sl 0) (upd σ 5 ⟨.str w,false⟩)=Ev.ok (.next,τ):=by
  clear e2 nA
  have hh:=fun r:Fl×Sg=>ai e1 (Eq.refl r)
  exact one_eq [.d _ _] (hh _)
 have y1:mkd w→(told=true∨¬ okn s f w)→ex (callX tab (k+1)) (s_at b_sl 1) τ=Ev.bad:=fun m q=>by
  clear x0 e1 hm ak
  by_cases g:A=[]
  ·have g2:0 < B:=(hm'.1 m).resolve_left fun x=>x g
   cases told with
   | true=>(have hh:=ai nA (ai (asb_nt g) (ai (asb_t g2) (ai a4 (ai rt (ai rt (trivial))))));exact one_bad [.b _,.b false,.b true,.r 4 _,.b true,.b true] hh)
   | false=>
    have hn:¬ okn s f w:=by simpa using q
    have hh:=ai nA (ai (asb_nt g) (ai (asb_t g2) (ai a4 (ai rf (ai a0 (ai a1 (ai e2 (ai (asb_nf hn) (trivial)))))))))
    exact one_bad [.b _,.b false,.b true,.r 4 _,.b false,.r 0 _,.r 1 _,.d _ _,.b true] hh
  ·cases told with
   | true=>(have hh:=ai nA (ai (asb_nf g) (ai rt (ai a4 (ai rt (ai rt (trivial))))));exact one_bad [.b _,.b true,.b true,.r 4 _,.b true,.b true] hh)
   | false=>
    have hn:¬ okn s f w:=by simpa using q
    have hh:=ai nA (ai (asb_nf g) (ai rt (ai a4 (ai rf (ai a0 (ai a1 (ai e2 (ai (asb_nf hn) (trivial)))))))))
    exact one_bad [.b _,.b true,.b true,.r 4 _,.b false,.r 0 _,.r 1 _,.d _ _,.b true] hh
 have y2:mkd w→told=false→okn s f w→ex (callX tab (k+1)) (s_at b_sl 1) τ=Ev.ok (.next,upd τ 4 ⟨.bool true,false⟩):=fun m q hn=>by
  clear x0 e1 hm ak y1
  subst q
  by_cases g:A=[]
  ·have g2:0 < B:=(hm'.1 m).resolve_left fun x=>x g
   have hh:=fun r:Fl×Sg=>ai nA (ai (asb_nt g) (ai (asb_t g2) (ai a4 (ai rf (ai a0 (ai a1 (ai e2 (ai (asb_nt hn) (Eq.refl r)))))))))
   exact one_eq [.b _,.b false,.b true,.r 4 _,.b false,.r 0 _,.r 1 _,.d _ _,.b false] (hh _)
  ·have hh:=fun r:Fl×Sg=>ai nA (ai (asb_nf g) (ai rt (ai a4 (ai rf (ai a0 (ai a1 (ai e2 (ai (asb_nt hn) (Eq.refl r)))))))))
   exact one_eq [.b _,.b true,.b true,.r 4 _,.b false,.r 0 _,.r 1 _,.d _ _,.b false] (hh _)
 have y3:¬ mkd w→ex (callX tab (k+1)) (s_at b_sl 1) τ=Ev.ok (.next,τ):=fun m=>by
  clear x0 e1 hm ak y1 y2
  have g:A=[]:=by by_cases x:A=[];exact x;exact absurd (hm'.2 (Or.inl x)) m
  have g2:¬ 0 < B:=fun x=>m (hm'.2 (Or.inr x))
  have hh:=fun r:Fl×Sg=>ai nA (ai (asb_nt g) (ai (asb_f g2) (Eq.refl r)))
  exact one_eq [.b _,.b false,.b false] (hh _)
 have nC:=c_nes C []
 have z0:C=[]→∀ υ:Sg,υ 8=some ⟨.str C,false⟩→ex (callX tab (k+1)) (s_at b_sl 2) υ=Ev.ok (.next,υ):=fun g υ h8=>by
  clear x0 e1 hm ak y1 y2 y3 nA e2
  have hh:=fun r:Fl×Sg=>ai h8 (ai nC (ai (asb_nt g) (Eq.refl r)))
  exact one_eq [.r 8 _,.b _,.b false] (hh _)
 have z1:C≠[]→∀ υ:Sg,υ 8=some ⟨.str C,false⟩→υ 3=some ⟨.lst N,true⟩→υ 0=some ⟨.int s,false⟩→υ 1=some ⟨.int f,false⟩→
   ex (callX tab (k+1)) (s_at b_sl 2) υ=Ev.ok (.next,upd (upd (upd (upd υ 3 ⟨.lst (N ++ [.str C]),true⟩) 4 ⟨.bool false,false⟩) 1 ⟨.int (nxf s f),false⟩) 0 ⟨.int (1 - s),false⟩):=fun g υ h8 h3 h0 h1=>by
  clear x0 e1 hm ak y1 y2 y3 nA e2 z0
  rcases hs with hs | hs
  ·subst hs
   rw [show nxf 0 f=f from rfl,← sg_upd (σ:=upd (upd υ 3 ⟨.lst (N ++ [D.str C]),true⟩) 4 ⟨.bool false,false⟩) (i:=1) (c:=⟨.int f,false⟩) h1]
   have hh:=fun r:Fl×Sg=>ai h8 (ai nC (ai (asb_nf g) (ai h3 (ai h8 (ai hl (ai h0 (ai rf (ai h0 (Eq.refl r)))))))))
   exact one_eq [.r 8 _,.b _,.b true,.r 3 _,.r 8 _,.r 0 _,.b false,.r 0 _] (hh _)
  ·subst hs
   rw [show nxf 1 f=f + 1 from rfl]
   have hh:=fun r:Fl×Sg=>ai h8 (ai nC (ai (asb_nf g) (ai h3 (ai h8 (ai hl (ai h0 (ai rt (ai h1 (ai h0 (Eq.refl r))))))))))
   exact one_eq [.r 8 _,.b _,.b true,.r 3 _,.r 8 _,.r 0 _,.b true,.r 1 _,.r 0 _] (hh _)
 show(mkd w∧_∧exs (callX tab (k+1)) [s_at b_sl 0,s_at b_sl 1,s_at b_sl 2] _=_)∨(_∧_∧∃ σ',exs (callX tab (k+1)) [s_at b_sl 0,s_at b_sl 1,s_at b_sl 2] _=_∧_)∨(_∧_∧∃ σ',exs (callX tab (k+1)) [s_at b_sl 0,s_at b_sl 1,s_at b_sl 2] _=_∧_)
 rw [exs_cons1 x0]
 by_cases hmk:mkd w
 ·by_cases hbad:told=true∨¬ okn s f w
  ·exact .inl ⟨hmk,hbad,exs_consB (y1 hmk hbad)⟩
  ·have ht:told=false:=by cases told with | true=>exact absurd (.inl rfl) hbad | false=>rfl
   have hn:okn s f w:=by by_cases x:okn s f w;exact x;exact absurd (Or.inr x) hbad
   have y:=y2 hmk ht hn
   subst ht
   right
   rw [exs_cons1 y]
   by_cases hC:C=[]
   ·exact .inr ⟨fun x=>hbad x.2,hC,_,exs_cons1 (z0 hC _ rfl),a0,a1,a2,by rw [hN];exact a3,by rw [decide_eq_true hmk];rfl⟩
   ·exact .inl ⟨fun x=>hbad x.2,hC,_,exs_cons1 (z1 hC _ rfl a3 a0 a1),rfl,rfl,a2,by rw [← hap];rfl,rfl⟩
 ·right
  rw [exs_cons1 (y3 hmk)]
  by_cases hC:C=[]
  ·exact .inr ⟨fun x=>hmk x.1,hC,_,exs_cons1 (z0 hC _ rfl),a0,a1,a2,by rw [hN];exact a3,by rw [decide_eq_false hmk,Bool.or_false];exact a4⟩
  ·exact .inl ⟨fun x=>hmk x.1,hC,_,exs_cons1 (z1 hC _ rfl a3 a0 a1),rfl,rfl,a2,by rw [← hap];rfl,rfl⟩
theorem nxf_ok {s f:Int}:(f≤nxf s f∧nxf s f≤f + 1):=by unfold nxf;split;exact li0 (.z f .o) (nat_lit 0x7164500634500635914018e3);exact li0 (.z f .o) (nat_lit 0x7164500638d68e3)
theorem sl_loop (k:Nat) {tx:List Nat}:∀ (ws:List (List Nat)) (s f:Int) (told:Bool) (acc:List (List Nat)) (σ:Sg),(∀ w ∈ ws,w.length≤98)→(s=0∨s=1)→0≤f→f + ws.length < 100000→acc.length + ws.length≤1000→SL σ s f told acc tx→
  (∃ r σ',rd s f told ws acc=some r∧forGo (fun d σ=>exs (callX tab (k+1)) b_sl (upd σ 5 ⟨d,false⟩)) (ws.map .str) σ=Ev.ok (.next,σ')∧σ' 3=some ⟨.lst (r.map .str),true⟩∧σ' 4=some ⟨.bool false,false⟩)∨
  (rd s f told ws acc=Option.none∧(forGo (fun d σ=>exs (callX tab (k+1)) b_sl (upd σ 5 ⟨d,false⟩)) (ws.map .str) σ=Ev.bad∨
   ∃ σ',forGo (fun d σ=>exs (callX tab (k+1)) b_sl (upd σ 5 ⟨d,false⟩)) (ws.map .str) σ=Ev.ok (.next,σ')∧σ' 2=some ⟨.str tx,false⟩∧σ' 4=some ⟨.bool true,false⟩)):=by
 intro ws
 induction ws with
 | nil=>
  intro s f told acc σ _ _ _ _ _ h
  cases told with
  | true=>right;exact⟨rfl,Or.inr ⟨σ,rfl,h.a2,h.a4⟩⟩
  | false=>left;exact⟨acc,σ,rfl,rfl,h.a3,h.a4⟩
 | cons w ws ih=>
  intro s f told acc σ hw hs f0 f1 ha h
  simp only [List.length_cons] at f1 ha
  have hw0:w.length≤98:=hw w (by simp)
  have hws:∀ x ∈ ws,x.length≤98:=fun x hx=>hw x (by simp [hx])
  rcases sl_step k w hw0 hs f0 (by exact li1 (.z f (.n (ws.length) .o)) (nat_lit 0x1f5d000a1880635d000a188051551401923) f1) (by exact li1 (.n (acc.length) (.n (ws.length) .o)) (nat_lit 0x7da4083838d9408383451401923) ha) h with ⟨a,b,c⟩ | ⟨a,b,σ',c,d⟩ | ⟨a,b,σ',c,d⟩
  ·right
   refine⟨?_,Or.inl ?_⟩
   ·rw [rd,if_pos ⟨a,b⟩]
   ·rw [List.map_cons,forGo_cons,c];rfl
  ·rw [List.map_cons,forGo_cons,c,rd,if_neg a,if_pos b]
   have:=@nxf_ok s f
   exact ih (1 - s) (nxf s f) false (acc ++ [sC w]) σ' hws (by exact li1 (.z s .o) (nat_lit 0x1f7584014a34016100128d005d610063610023) hs) (by exact li2 (.z (nxf s f) (.z f .o)) (nat_lit 0x1f7d68d00168e45a4400) f0 this.1) (by exact li2 (.z (nxf s f) (.n (ws.length) (.z f .o))) (nat_lit 0x1f7d74002862014559235914019635d000a188051551401925) f1 this.2) (by simp;exact li1 (.n (acc.length) (.n (ws.length) .o)) (nat_lit 0x1f65020e0d19114018d9408383451401923) ha) d
  ·rw [List.map_cons,forGo_cons,c,rd,if_neg a,if_neg (by simp [b])]
   exact ih s f _ acc σ' hws hs f0 (by exact li1 (.z f (.n (ws.length) .o)) (nat_lit 0x7d74002862014559235d000a188051551401923) f1) (by exact li1 (.n (acc.length) (.n (ws.length) .o)) (nat_lit 0x7d94083834648d9408383451401923) ha) d
noncomputable def rWords:Option (List (List Nat))→Ev (D×Kd)
 | some r=>Ev.ok (.lst (r.map .str),.fr)
 | Option.none=>Ev.bad
set_option tactic.hygienic true in
theorem sp_len:∀ t:List Nat,(splitAt32 t).length≤t.length + 1∧∀ w ∈ splitAt32 t,w.length≤t.length:=by
 intro t
 induction t with
 | nil=>simp [splitAt32]
 | cons c r ih=>
  simp only [splitAt32]
  split
  ·simp only [List.length_cons,List.mem_cons,forall_eq_or_imp,List.length_nil]
   exact⟨by exact li1 (.n ((splitAt32 r).length) (.n (r.length) .o)) (nat_lit 0x1f651401450064450063651401923) ih.1,by exact li0 (.n (r.length) .o) (nat_lit 1736509371392),fun w hw=>by have:=ih.2 w hw;exact li1 (.n (w.length) (.n (r.length) .o)) (nat_lit 0x7d94500648d9923) this⟩
  ·split
   ·simp
   ·rename_i w ws e
    rw [e] at ih
    simp only [List.length_cons,List.mem_cons,forall_eq_or_imp] at ih ⊢
    exact⟨by exact li1 (.n (ws.length) (.n (r.length) .o)) (nat_lit 0x7d94500514019114018d9450064450063) ih.1,by exact li1 (.n (w.length) (.n (r.length) .o)) (nat_lit 0x1f6514019114018d9923) ih.2.1,fun x hx=>by have:=ih.2.2 x hx;exact li1 (.n (x.length) (.n (r.length) .o)) (nat_lit 0x7d94500648d9923) this⟩
theorem s_split_line (k:Nat) {s f:Int} (t:List Nat) (ht:t.length≤98) (hs:s=0∨s=1) (f0:0≤f) (f1:f < 10000):
  callX tab (k+2) f_split_line [.int s,.int f,.str t]=rWords (rd s f false (splitAt32 t) []):=by
 have hsp:=sp_len t
 have e1:mth .split (.str t) (.str [32])=some (.lst ((splitAt32 t).map .str),.fr):=by
  show(if 32=32∧t.length≤1000 then some (D.lst ((splitAt32 t).map .str),Kd.fr) else Option.none)=_
  rw [if_pos ⟨rfl,by exact li1 (.n (t.length) .o) (nat_lit 0x7d94083838d94021a3) ht⟩]
 have e2:items (.lst ((splitAt32 t).map .str))=some ((splitAt32 t).map .str):=items_lst (by simp;exact li2 (.n ((splitAt32 t).length) (.n (t.length) .o)) (nat_lit 0x1f7d94002862018d94500648d94021a4) ht hsp.1)
 have hl:=sl_loop k (tx:=t) (splitAt32 t) s f false [] (upd (upd (start 3 [.int s,.int f,.str t]) 3 ⟨.lst [],true⟩) 4 ⟨.bool false,false⟩) (fun w hw=>by have:=hsp.2 w hw;exact li2 (.n (w.length) (.n (t.length) .o)) (nat_lit 0x1f7d94021a36648d94021a4) ht this) hs f0 (by exact li3 (.z f (.n ((splitAt32 t).length) (.n (t.length) .o))) (nat_lit 0x7df7d74002862014559236514019645d00011c28d94021a5) ht f1 hsp.1) (by simp;exact li2 (.n ((splitAt32 t).length) (.n (t.length) .o)) (nat_lit 0x1f7d94083838d94500648d94021a4) ht hsp.1) ⟨rfl,rfl,rfl,rfl,rfl⟩
 show runF (callX tab (k+1)) p_split_line [_,_,_]=_
 generalize (splitAt32 t).map D.str=W at *
 rcases hl with ⟨r,σ',a,b,c,d⟩ | ⟨a,b | ⟨σ',b,c,d⟩⟩
 ·rw [a];(have hh:=fun r:Ev (D×Kd)=>ai e1 (ai e2 (ai b (ai d (ai rf (ai c (Eq.refl r))))));exact fun_eq [.d _ _,.l _,.f _ _,.r 4 _,.b false,.r 3 _] rfl (hh _))
 ·rw [a];simp [h_fr,rcv_s,e_lit,e_var,e_mth,e_lst,e_nil,x_asg,x_ret,x_iff,x_forE,s_nil,s_cons,runF,start,Ev.bind_ok,Ev.bind_bad,Ev.of_some,upd,p_sl,e1,e2,b,rWords]
 ·rw [a];(have hh:=ai e1 (ai e2 (ai b (ai d (ai rt (ai c (trivial))))));exact fun_bad [.d _ _,.l _,.f _ _,.r 4 _,.b true,.r 2 _] rfl hh)
end Mine

namespace Mine
open scoped Classical
noncomputable def decGood (n:Nat):Bool:=(dec n).all dg && !(dec n).isEmpty && decide ((dec n).length≤5)
theorem dec_all:(List.range 400).all decGood=true:=by decide +kernel
theorem dec_ok {n:Nat} (h:n < 400):(∀ c ∈ dec n,dg c=true)∧dec n≠[]∧(dec n).length≤5:=by
 have:=List.all_eq_true.1 dec_all n (by simpa using h)
 simp only [decGood,Bool.and_eq_true,Bool.not_eq_true',decide_eq_true_eq,List.all_eq_true,List.isEmpty_eq_false_iff] at this
 exact⟨this.1.1,this.1.2,this.2⟩
theorem split_of {D R:List Nat} {n:Nat} (hD:∀ c ∈ D,dg c=true) (hn:0 < n) (hR:R.take 1≠[46]):
  sA (D ++ (List.replicate n 46 ++ R))=D∧sB (D ++ (List.replicate n 46 ++ R))=List.replicate n 46∧sC (D ++ (List.replicate n 46 ++ R))=R:=by
 obtain⟨n,rfl⟩:∃ m,n=m + 1:=⟨n - 1,by exact li2 (.n n (.n (n - 1) .o)) (nat_lit 0x1f7db4500648dd71b40091a4018dc6e34500646634016a3400) hn (lsn (n) (1))⟩
 have h46:dg 46=false:=by decide
 have e1:(List.replicate (n+1) 46 ++ R).takeWhile dg=[]:=by simp [List.replicate_succ,List.takeWhile_cons,h46]
 have e2:(List.replicate (n+1) 46 ++ R).dropWhile dg=List.replicate (n+1) 46 ++ R:=by simp [List.replicate_succ,List.dropWhile_cons,h46]
 have hd:∀ c ∈ List.replicate (n+1) 46,dt c=true:=by intro c hc;rw [List.mem_replicate] at hc;simp [dt,hc.2]
 have e3:R.takeWhile dt=[]:=by
  cases R with
  | nil=>rfl
  | cons c r=>
   have:¬ c=46:=by intro x;apply hR;simp [x]
   simp [List.takeWhile_cons,dt,this]
 have e4:R.dropWhile dt=R:=by
  cases R with
  | nil=>rfl
  | cons c r=>
   have:¬ c=46:=by intro x;apply hR;simp [x]
   simp [List.dropWhile_cons,dt,this]
 have e0:(D ++ (List.replicate (n+1) 46 ++ R)).dropWhile dg=List.replicate (n+1) 46 ++ R:=by
  rw [List.dropWhile_append_of_pos hD,e2]
 refine⟨?_,?_,?_⟩
 ·unfold sA;rw [List.takeWhile_append_of_pos hD,e1,List.append_nil]
 ·unfold sB;rw [e0,List.takeWhile_append_of_pos hd,e3,List.append_nil]
 ·unfold sC;rw [e0,List.dropWhile_append_of_pos hd,e4]
theorem sC_head (w:List Nat):(sC w).take 1≠[46]:=by
 unfold sC
 generalize w.dropWhile dg=l
 induction l with
 | nil=>simp
 | cons c r ih=>
  rw [List.dropWhile_cons]
  split
  ·exact ih
  ·rename_i h;simp [dt] at h;simp [h]
theorem sB_rep (w:List Nat):sB w=List.replicate (sB w).length 46:=by
 rw [List.eq_replicate_iff]
 refine⟨rfl,?_⟩
 unfold sB
 generalize w.dropWhile dg=l
 induction l with
 | nil=>simp
 | cons c r ih=>
  rw [List.takeWhile_cons]
  split
  ·rename_i h;simp [dt] at h;simp [h];simpa using ih
  ·simp
noncomputable def mrk (s f:Int):List Nat:=dec f.toNat ++ List.replicate (if s=0 then 1 else 3) 46
theorem okn_iff {s f:Int} {w:List Nat} (h:f.toNat < 400):okn s f w ↔ (w.take (mrk s f).length=mrk s f∧(w.drop (mrk s f).length).take 1≠[46]):=by
 have hD:=dec_ok h
 have hn:0 < (if s=0 then 1 else 3:Nat):=by split;exact li0 .o (nat_lit 440407040);exact li0 .o (nat_lit 440415232)
 constructor
 ·rintro⟨a,b⟩
  have e:w=mrk s f ++ sC w:=by
   conv=>lhs;rw [sABC w,sB_rep w,a,b]
   simp [mrk]
  exact⟨take_eq e,by rw [drop_eq e];exact sC_head w⟩
 ·rintro⟨a,b⟩
  have e:w=dec f.toNat ++ (List.replicate (if s=0 then 1 else 3) 46 ++ w.drop (mrk s f).length):=by
   conv=>lhs;rw [← List.take_append_drop (mrk s f).length w,a]
   simp [mrk]
  obtain⟨x,y,z⟩:=split_of (R:=w.drop (mrk s f).length) hD.1 hn b
  rw [← e] at x y z
  exact⟨x,by rw [y];simp⟩
theorem okn_rest {s f:Int} {w:List Nat} (h:okn s f w):w.drop (mrk s f).length=sC w:=by
 obtain⟨a,b⟩:=h
 have e:w=mrk s f ++ sC w:=by
  conv=>lhs;rw [sABC w,sB_rep w,a,b]
  simp [mrk]
 exact drop_eq e
theorem mkd_nil:¬ mkd []:=by simp [mkd,sA,sB]
theorem mkd_cons (c:Nat) (r:List Nat):mkd (c :: r) ↔ (([46,48,49,50,51,52,53,54,55,56,57]:List Nat).contains c=true):=by
 have e:(([46,48,49,50,51,52,53,54,55,56,57]:List Nat).contains c=true) ↔ (dt c=true∨dg c=true):=by
  simp [dt,dg]
 rw [e]
 by_cases h1:dg c=true
 ·simp [mkd,sA,List.takeWhile_cons,h1]
 ·by_cases h2:dt c=true
  ·simp [mkd,sA,sB,List.takeWhile_cons,List.dropWhile_cons,h1,h2]
  ·simp [mkd,sA,sB,List.takeWhile_cons,List.dropWhile_cons,h1,h2]
theorem nmkd_rest {w:List Nat} (h:¬ mkd w):sC w=w:=by
 have h1:sA w=[]:=by by_cases x:sA w=[];exact x;exact absurd (Or.inl x) h
 have h2:sB w=[]:=by by_cases x:sB w=[];exact x;exact absurd (Or.inr x) h
 have:=sABC w
 rw [h1,h2] at this
 exact this.symm
theorem sl_ab {w:List Nat} {a b:Int} (h0:0≤a) (h1:0≤b) (h2:a≤1000) (h3:b≤1000) (hw:w.length≤1000):slc (.str w) (.int a) (.int b)=some (.str ((w.take b.toNat).drop a.toNat),.pl):=by
 have g1:-1000000000 < a∧a < 1000000000:=by exact li2 (.z a .o) (nat_lit 0x7df71740000a30a24b0e35e351000028c2892c359020e0e35a3400) h0 h2
 have g2:¬ a < 0:=by exact li1 (.z a .o) (nat_lit 0x7de5d00235a3400) h0
 have g3:-1000000000 < b∧b < 1000000000:=by exact li2 (.z b .o) (nat_lit 0x7df71740000a30a24b0e35e351000028c2892c359020e0e35a3400) h1 h3
 have g4:¬ b < 0:=by exact li1 (.z b .o) (nat_lit 0x7de5d00235a3400) h1
 have g5:w.length≤big:=by unfold big;exact li1 (.n (w.length) .o) (nat_lit 0x7d940000000006365020e0e3) hw
 have e1:w.take (min b.toNat w.length)=w.take b.toNat:=by rw [List.take_eq_take_iff];exact li2 (.n (min (min b.toNat w.length) w.length) (.n (min b.toNat w.length) (.n (w.length) (.n (b.toNat) .o)))) (nat_lit 0x1f7db92375c6e591a9a571b9a466599d71b9636a495c6e48d9964) (lnn (min b.toNat w.length) (w.length)) (lnn (b.toNat) (w.length))
 have e2:(w.take b.toNat).drop (min a.toNat w.length)=(w.take b.toNat).drop a.toNat:=by
  by_cases h:a.toNat≤w.length
  ·rw [Nat.min_eq_left h]
  ·rw [List.drop_eq_nil_of_le (by simp;exact li3 (.n (min b.toNat w.length) (.n (min a.toNat w.length) (.n (a.toNat) (.n (w.length) (.n (b.toNat) .o))))) (nat_lit 0x7df7d992375c6e691a96671b96466695d71b9a36a799c6e78d99a77999a5) h (lnn (b.toNat) (w.length)) (lnn (a.toNat) (w.length))),List.drop_eq_nil_of_le (by simp;exact li2 (.n (min b.toNat w.length) (.n (a.toNat) (.n (w.length) (.n (b.toNat) .o)))) (nat_lit 0x7df6648dd71b9636a695c6e68d9966799964) h (lnn (b.toNat) (w.length)))]
 simp only [slc_s,clip_i,if_pos g1,if_pos g3,if_neg g2,if_neg g4,if_pos g5,Option.bind_some,cut,e1,e2]
theorem sl_na {w:List Nat} {b:Int} (h1:0≤b) (h3:b≤1000) (hw:w.length≤1000):slc (.str w) .none (.int b)=some (.str (w.take b.toNat),.pl):=by
 have g3:-1000000000 < b∧b < 1000000000:=by exact li2 (.z b .o) (nat_lit 0x7df71740000a30a24b0e35e351000028c2892c359020e0e35a3400) h1 h3
 have g4:¬ b < 0:=by exact li1 (.z b .o) (nat_lit 0x7de5d00235a3400) h1
 have g5:w.length≤big:=by unfold big;exact li1 (.n (w.length) .o) (nat_lit 0x7d940000000006365020e0e3) hw
 have e1:w.take (min b.toNat w.length)=w.take b.toNat:=by rw [List.take_eq_take_iff];exact li2 (.n (min (min b.toNat w.length) w.length) (.n (min b.toNat w.length) (.n (w.length) (.n (b.toNat) .o)))) (nat_lit 0x1f7db92375c6e591a9a571b9a466599d71b9636a495c6e48d9964) (lnn (min b.toNat w.length) (w.length)) (lnn (b.toNat) (w.length))
 simp only [slc_s,clip_i,clip_n,if_pos g3,if_neg g4,if_pos g5,Option.bind_some,cut,e1,List.drop_zero]
theorem sl_an {w:List Nat} {a:Int} (h0:0≤a) (h2:a≤1000) (hw:w.length≤1000):slc (.str w) (.int a) .none=some (.str (w.drop a.toNat),.pl):=by
 have g1:-1000000000 < a∧a < 1000000000:=by exact li2 (.z a .o) (nat_lit 0x7df71740000a30a24b0e35e351000028c2892c359020e0e35a3400) h0 h2
 have g2:¬ a < 0:=by exact li1 (.z a .o) (nat_lit 0x7de5d00235a3400) h0
 have g5:w.length≤big:=by unfold big;exact li1 (.n (w.length) .o) (nat_lit 0x7d940000000006365020e0e3) hw
 have e2:w.drop (min a.toNat w.length)=w.drop a.toNat:=by
  by_cases h:a.toNat≤w.length
  ·rw [Nat.min_eq_left h]
  ·rw [List.drop_eq_nil_of_le (by exact li2 (.n (w.length) (.n (min a.toNat w.length) (.n (a.toNat) .o))) (nat_lit 0x7df6648dd71b8e46a58dc6e59198e57998e5) h (lnn (a.toNat) (w.length))),List.drop_eq_nil_of_le (by exact li1 (.n (w.length) (.n (a.toNat) .o)) (nat_lit 0x7d99237998e4) h)]
 simp only [slc_s,clip_i,clip_n,if_pos g1,if_neg g2,if_pos g5,Option.bind_some,cut,List.take_length,e2]
end Mine

namespace Mine
open scoped Classical
noncomputable def b_lr:List St:=forBody p_law_read.body[2]?
theorem p_lr:p_law_read=⟨3,[
 .asg 3 (.lst []),
 .asg 4 (.lit (.bool false)),
 .forE 5 (.mth .split (.var 2) (.lit (.str [32]))) b_lr,
 .iff (.var 4) [
  .ret (.lit .none)] [],
 .ret (.var 3)]⟩:=rfl
structure LR (σ:Sg) (s0 f0:Int) (told:Bool) (acc:List (List Nat)):Prop where
 a0:σ 0=some ⟨.int s0,false⟩
 a1:σ 1=some ⟨.int f0,false⟩
 a3:σ 3=some ⟨.lst (acc.map .str),true⟩
 a4:σ 4=some ⟨.bool told,false⟩
theorem mark_is {s f:Int} (hs:s=0∨s=1) (f0:0≤f) (f1:f < 400):
  fn1 .str (.int f)=some (.str (dec f.toNat))∧(slc (.str [46,46,46]) .none (.int (1 + 2 * s))=some (.str (List.replicate (if s=0 then 1 else 3) 46),.pl))∧
  bop .add (.str (dec f.toNat)) (.str (List.replicate (if s=0 then 1 else 3) 46))=some (.str (mrk s f),.pl)∧(mrk s f).length≤8∧fn1 .len (.str (mrk s f))=some (.int (mrk s f).length):=by
 have hd:=dec_ok (n:=f.toNat) (by exact li2 (.n (f.toNat) (.z f .o)) (nat_lit 0x1f7da4002418dd71b4008d740091c6245635a44005d0009064) f1 (ltn (f)))
 have hm:(mrk s f).length≤8:=by unfold mrk;simp;split;exact li1 (.n ((dec f.toNat).length) .o) (nat_lit 0x7d9408450063650163) hd.2.2;exact li1 (.n ((dec f.toNat).length) .o) (nat_lit 0x7d94084500e3650163) hd.2.2
 refine⟨?_,?_,?_,hm,?_⟩
 ·rw [f_str,if_pos (by exact li2 (.z f .o) (nat_lit 0x1f7dc5d000010e2c01050a35a34005d00090635a3400) f0 f1)]
 ·rcases hs with e | e <;> subst e <;> rfl
 ·rw [b_adds,if_pos];rfl
  have:(List.replicate (if s=0 then 1 else 3) 46:List Nat).length≤3:=by rw [List.length_replicate];split;exact li0 .o (nat_lit 423638017);exact li0 .o (nat_lit 423638019)
  unfold big;exact li2 (.n ((dec f.toNat).length) (.n ((List.replicate (if s=0 then 1 else 3) 46).length) .o)) (nat_lit 0x1f7d94000000000519236500e4650163) hd.2.2 this
 ·rw [f_lens,if_pos (by unfold big;exact li1 (.n ((mrk s f).length) .o) (nat_lit 0x7d9400000000063650223) hm)]
theorem lr_step (k:Nat) {s0 f0 s f:Int} {told:Bool} {acc:List (List Nat)} {σ:Sg} (w:List Nat) (hw:w.length≤98) (hs:s=0∨s=1) (g0:0≤f) (g1:f < 400) (ha:acc.length < 1000) (hf:0≤f0∧f0 < 10000) (rel:2 * f0 + s0 + acc.length=2 * f + s) (h:LR σ s0 f0 told acc):
  (mkd w∧(told=true∨¬ okn s f w)∧∃ σ',exs (callX tab k) b_lr (upd σ 5 ⟨.str w,false⟩)=Ev.ok (.ret .none .pl,σ'))∨
  (¬ (mkd w∧(told=true∨¬ okn s f w))∧sC w≠[]∧∃ σ',exs (callX tab k) b_lr (upd σ 5 ⟨.str w,false⟩)=Ev.ok (.next,σ')∧LR σ' s0 f0 false (acc ++ [sC w]))∨
  (¬ (mkd w∧(told=true∨¬ okn s f w))∧sC w=[]∧∃ σ',exs (callX tab k) b_lr (upd σ 5 ⟨.str w,false⟩)=Ev.ok (.next,σ')∧LR σ' s0 f0 (told || decide (mkd w)) acc):=by
 obtain⟨a0,a1,a3,a4⟩:=h
 obtain⟨m1,m2,m3,m4,m5⟩:=mark_is hs g0 g1
 have hok:=okn_iff (s:=s) (f:=f) (w:=w) (by exact li2 (.n (f.toNat) (.z f .o)) (nat_lit 0x1f7da4002418dd71b4008d740091c6245635a44005d0009064) g1 (ltn (f)))
 have hrest:=okn_rest (s:=s) (f:=f) (w:=w)
 obtain⟨m,hm⟩:∃ m:Int,((mrk s f).length:Int)=m:=⟨_,rfl⟩
 rw [hm] at m5
 have hmn:m.toNat=(mrk s f).length:=by exact li2 (.n (m.toNat) (.n ((mrk s f).length) (.z m .o))) (nat_lit 0x7df6e48dd71b4008d740095c6255635a5400625564) hm (ltn (m))
 have t1:=sl_na (w:=w) (b:=m) (by exact li1 (.z m (.n ((mrk s f).length) .o)) (nat_lit 8824903669265764) hm) (by exact li3 (.z m (.n ((mrk s f).length) (.n (m.toNat) .o))) (nat_lit 0x1f7df59020e0e375c6d00255d00237188d59568d001b925650224) m4 hmn (ltn (m))) (by exact li1 (.n (w.length) .o) (nat_lit 0x7d94083838d94021a3) hw)
 have t2:=sl_ab (w:=w) (a:=m) (b:=m + 1) (by exact li1 (.z m (.n ((mrk s f).length) .o)) (nat_lit 8824903669265764) hm) (by exact li1 (.z m (.n ((mrk s f).length) .o)) (nat_lit 0x7d6450063400623564) hm) (by exact li3 (.z m (.n ((mrk s f).length) (.n (m.toNat) .o))) (nat_lit 0x1f7df59020e0e375c6d00255d00237188d59568d001b925650224) m4 hmn (ltn (m))) (by exact li3 (.z m (.n ((mrk s f).length) (.n (m.toNat) .o))) (nat_lit 0x7df7d640838345006375c6d00255d00237188d59568d001b925650224) m4 hmn (ltn (m))) (by exact li1 (.n (w.length) .o) (nat_lit 0x7d94083838d94021a3) hw)
 have t3:=sl_an (w:=w) (a:=m) (by exact li1 (.z m (.n ((mrk s f).length) .o)) (nat_lit 8824903669265764) hm) (by exact li3 (.z m (.n ((mrk s f).length) (.n (m.toNat) .o))) (nat_lit 0x1f7df59020e0e375c6d00255d00237188d59568d001b925650224) m4 hmn (ltn (m))) (by exact li1 (.n (w.length) .o) (nat_lit 0x7d94083838d94021a3) hw)
 have t0:=sl_na (w:=w) (b:=1) (by exact li0 .o (nat_lit 373298176)) (by exact li0 .o (nat_lit 1529146258433)) (by exact li1 (.n (w.length) .o) (nat_lit 0x7d94083838d94021a3) hw)
 have e2:(w.take (m + 1).toNat).drop m.toNat=(w.drop (mrk s f).length).take 1:=by
  rw [← hmn,List.drop_take];congr 1;exact li4 (.n ((m + 1).toNat - m.toNat) (.n ((mrk s f).length) (.z m (.n (m.toNat) (.n ((m + 1).toNat) .o))))) (nat_lit 0x1f7df7db4018dd71b4009d740045006571845006556759140195001d71b40099740095c6255665a540075c6d00236a69dc6e74668d99e6625564) hm (lsn ((m + 1).toNat) (m.toNat)) (ltn (m)) (ltn (m + 1))
 rw [e2] at t2
 rw [hmn] at t1 t3
 obtain⟨A,hA⟩:∃ A:Int,(acc.length:Int)=A:=⟨_,rfl⟩
 have hlen:fn1 .len (.lst (acc.map D.str))=some (.int A):=by
  rw [f_lenl,if_pos (by simp;unfold big;exact li1 (.n (acc.length) .o) (nat_lit 0x7d940000000006369020e0e3) ha)];simp [hA]
 rw [hA] at rel
 have p1:(2 * f0 + s0 + A) / 2=f:=by exact li4 (.z ((2 * f0 + s0 + A) / 2) (.z f (.z s (.z f0 (.z s0 (.z A .o)))))) (nat_lit 0x7df7df6248d74500938d0091a119d39900964684674e64024e3402611953910091a119d399009d610065610025) hs rel (ldi (2 * f0 + s0 + A) (2)).1 (ldi (2 * f0 + s0 + A) (2)).2
 have p2:(2 * f0 + s0 + A) % 2=s:=by exact li3 (.z ((2 * f0 + s0 + A) % 2) (.z s (.z f0 (.z s0 (.z A (.z f (.z ((2 * f0 + s0 + A) / 2) .o))))))) (nat_lit 0x1f7df6248d8493a500919d19939500a3628a584644e84024674664e5402) rel p1 (lmi (2 * f0 + s0 + A) (2)).2.2
 have hl:(acc.map D.str).length < big:=by simp;unfold big;exact li1 (.n (acc.length) .o) (nat_lit 0x7da40000000006369020e0e3) ha
 have hap:acc.map D.str ++ [D.str (sC w)]=(acc ++ [sC w]).map D.str:=by simp
 have n1:f0.natAbs < 4294967296:=by exact li3 (.n (f0.natAbs) (.z f0 .o)) (nat_lit 0x7df7da4000000000000018dd7185245635d00247189158d69100174000470a45a4400) hf.1 hf.2 (lab (f0))
 have n2:s.natAbs < 4294967296:=by exact li5 (.n (s.natAbs) (.z f0 (.z s0 (.z A (.z f (.z s (.z ((2 * f0 + s0 + A) / 2) .o))))))) (nat_lit 0x7df7df7da4000000000000018d7450093a500919919539100964664654e44024e940275c614a158d7400a1c6285635a8400627a584684e74024664654e4402) rel p1 (lab (s)) (ldi (2 * f0 + s0 + A) (2)).1 (ldi (2 * f0 + s0 + A) (2)).2
 obtain⟨M,hM⟩:∃ M,mrk s f=M:=⟨_,rfl⟩
 obtain⟨D',hD⟩:∃ D',dec f.toNat=D':=⟨_,rfl⟩
 obtain⟨R',hR⟩:∃ R':List Nat,List.replicate (if s=0 then 1 else 3) 46=R':=⟨_,rfl⟩
 rw [hM] at m3 m5 hok hrest t1 t2 t3
 rw [hD] at m1 m3
 rw [hR] at m2 m3
 generalize hN:acc.map D.str=N at *
 have t0':slc (.str w) .none (.int 1)=some (.str (w.take 1),.pl):=t0
 obtain⟨C,hCC⟩:∃ C,sC w=C:=⟨_,rfl⟩
 obtain⟨I,hI⟩:∃ I,2 * f0 + s0 + A=I:=⟨_,rfl⟩
 rw [hI] at p1 p2
 rw [hCC] at hap ⊢
 let τ:Sg:=upd (upd (upd σ 5 ⟨.str w,false⟩) 6 ⟨.int I,false⟩) 7 ⟨.str M,false⟩
 have x0:ex (callX tab k) (s_at b_lr 0) (upd σ 5 ⟨.str w,false⟩)=Ev.ok (.next,upd (upd σ 5 ⟨.str w,false⟩) 6 ⟨.int I,false⟩):=by
  have d1:bop .mul (.int 2) (.int f0)=some (.int (2 * f0),.pl):=v_mul (by decide) n1
  subst hI
  have hh:=fun r:Fl×Sg=>ai a1 (ai d1 (ai a0 (ai a3 (ai hlen (Eq.refl r)))))
  exact one_eq [.r 1 _,.d _ _,.r 0 _,.r 3 _,.v _] (hh _)
 have x1:ex (callX tab k) (s_at b_lr 1) (upd (upd σ 5 ⟨.str w,false⟩) 6 ⟨.int I,false⟩)=Ev.ok (.next,τ):=by
  have d1:bop .fdiv (.int I) (.int 2)=some (.int f,.pl):=by rw [v_fdiv (by decide) (by decide),p1]
  have d2:bop .fmod (.int I) (.int 2)=some (.int s,.pl):=by rw [v_fmod (by decide),p2]
  have d3:bop .mul (.int 2) (.int s)=some (.int (2 * s),.pl):=v_mul (by decide) n2
  clear x0
  have hh:=fun r:Fl×Sg=>ai d1 (ai m1 (ai d2 (ai d3 (ai m2 (ai m3 (Eq.refl r))))))
  exact one_eq [.d _ _,.v _,.d _ _,.d _ _,.d _ _,.d _ _] (hh _)
 have nw:=c_nes (w.take 1) []
 have hcons:mkd w→∃ c,w.take 1=[c]∧sub (.str w) (.int 0)=some (.str [c])∧cop .isin (.str [c]) (.str [46,48,49,50,51,52,53,54,55,56,57])=some true:=fun hmk=>by
  cases w with
  | nil=>exact absurd hmk mkd_nil
  | cons c r=>exact⟨c,rfl,rfl,by rw [show cop .isin (.str [c]) (.str [46,48,49,50,51,52,53,54,55,56,57])=some (([46,48,49,50,51,52,53,54,55,56,57]:List Nat).contains c) from rfl,(mkd_cons c r).1 hmk]⟩
 have y1:mkd w→(told=true∨¬ okn s f w)→∃ υ,ex (callX tab k) (s_at b_lr 2) τ=Ev.ok (.ret .none .pl,υ):=fun mk q=>by
  obtain⟨c,h1,h2,h3⟩:=hcons mk
  have hne:w.take 1≠[]:=by rw [h1];exact List.cons_ne_nil _ _
  have nq:=c_nes (w.take M.length) M
  have eq:=c_eqs ((w.drop M.length).take 1) [46]
  clear hcons x0 x1
  cases told with
  | true=>exact⟨_,by (have hh:=fun r:Fl×Sg=>ai t0' (ai nw (ai (asb_nf hne) (ai h2 (ai h3 (ai rt (ai a4 (ai rt (ai rt (Eq.refl r)))))))));exact one_eq [.d _ _,.b _,.b true,.v _,.b true,.b true,.r 4 _,.b true,.b true] (hh _))⟩
  | false=>
   have hn:¬ okn s f w:=by simpa using q
   by_cases q1:w.take M.length=M
   ·have q2:(w.drop M.length).take 1=[46]:=by
     by_cases x:(w.drop M.length).take 1=[46];exact x;exact absurd (hok.2 ⟨q1,x⟩) hn
    exact⟨_,by (have hh:=fun r:Fl×Sg=>ai t0' (ai nw (ai (asb_nf hne) (ai h2 (ai h3 (ai rt (ai a4 (ai rf (ai m5 (ai t1 (ai nq (ai (asb_nt q1) (ai m5 (ai m5 (ai t2 (ai eq (ai (asb_t q2) (Eq.refl r)))))))))))))))));exact one_eq [.d _ _,.b _,.b true,.v _,.b true,.b true,.r 4 _,.b false,.v _,.d _ _,.b _,.b false,.v _,.v _,.d _ _,.b _,.b true] (hh _))⟩
   ·exact⟨_,by (have hh:=fun r:Fl×Sg=>ai t0' (ai nw (ai (asb_nf hne) (ai h2 (ai h3 (ai rt (ai a4 (ai rf (ai m5 (ai t1 (ai nq (ai (asb_nf q1) (ai rt (Eq.refl r)))))))))))));exact one_eq [.d _ _,.b _,.b true,.v _,.b true,.b true,.r 4 _,.b false,.v _,.d _ _,.b _,.b true,.b true] (hh _))⟩
 have y2:mkd w→told=false→okn s f w→ex (callX tab k) (s_at b_lr 2) τ=Ev.ok (.next,upd (upd τ 4 ⟨.bool true,false⟩) 5 ⟨.str C,false⟩):=fun mk q hn=>by
  obtain⟨c,h1,h2,h3⟩:=hcons mk
  have hne:w.take 1≠[]:=by rw [h1];exact List.cons_ne_nil _ _
  have nq:=c_nes (w.take M.length) M
  have eq:=c_eqs ((w.drop M.length).take 1) [46]
  obtain⟨q1,q2⟩:=hok.1 hn
  rw [hrest hn,hCC] at t3
  clear hcons x0 x1 y1
  subst q
  have hh:=fun r:Fl×Sg=>ai t0' (ai nw (ai (asb_nf hne) (ai h2 (ai h3 (ai rt (ai a4 (ai rf (ai m5 (ai t1 (ai nq (ai (asb_nt q1) (ai m5 (ai m5 (ai t2 (ai eq (ai (asb_f q2) (ai m5 (ai t3 (Eq.refl r)))))))))))))))))))
  exact one_eq [.d _ _,.b _,.b true,.v _,.b true,.b true,.r 4 _,.b false,.v _,.d _ _,.b _,.b false,.v _,.v _,.d _ _,.b _,.b false,.v _,.d _ _] (hh _)
 have y3:¬ mkd w→ex (callX tab k) (s_at b_lr 2) τ=Ev.ok (.next,τ):=fun mk=>by
  clear hcons x0 x1 y1 y2
  cases w with
  | nil=>
   have h1:(([]:List Nat).take 1)=[]:=rfl
   have hh:=fun r:Fl×Sg=>ai (Eq.refl (some ((D.str [],Kd.pl):D×Kd))) (ai (@c_nes ([]) ([])) (ai rf (ai rf (Eq.refl r))))
   exact one_eq [.d _ _,.b false,.b false,.b false] (hh _)
  | cons c r=>
   have hc:¬ _:=fun x=>mk ((mkd_cons c r).2 x)
   have h2:sub (.str (c :: r)) (.int 0)=some (.str [c]):=rfl
   have h3:cop .isin (.str [c]) (.str [46,48,49,50,51,52,53,54,55,56,57])=some false:=by
    show some (([46,48,49,50,51,52,53,54,55,56,57]:List Nat).contains c)=some false
    rw [Bool.not_eq_true] at hc;rw [hc]
   have hne:(c :: r).take 1≠[]:=List.cons_ne_nil _ _
   have hh:=fun r:Fl×Sg=>ai t0' (ai (@c_nes ([c]) ([])) (ai rt (ai h2 (ai h3 (ai rf (Eq.refl r))))))
   exact one_eq [.d _ _,.b true,.b true,.v _,.b false,.b false] (hh _)
 have nC:=c_nes C []
 have z0:C=[]→∀ υ:Sg,υ 5=some ⟨.str C,false⟩→ex (callX tab k) (s_at b_lr 3) υ=Ev.ok (.next,υ):=fun g υ h5=>by
  clear hcons x0 x1 y1 y2 y3
  have hh:=fun r:Fl×Sg=>ai h5 (ai nC (ai (asb_nt g) (Eq.refl r)))
  exact one_eq [.r 5 _,.b _,.b false] (hh _)
 have z1:C≠[]→∀ υ:Sg,υ 5=some ⟨.str C,false⟩→υ 3=some ⟨.lst N,true⟩→ex (callX tab k) (s_at b_lr 3) υ=Ev.ok (.next,upd (upd υ 3 ⟨.lst (N ++ [.str C]),true⟩) 4 ⟨.bool false,false⟩):=fun g υ h5 h3=>by
  clear hcons x0 x1 y1 y2 y3 z0
  have hh:=fun r:Fl×Sg=>ai h5 (ai nC (ai (asb_nf g) (ai h3 (ai h5 (ai hl (Eq.refl r))))))
  exact one_eq [.r 5 _,.b _,.b true,.r 3 _,.r 5 _] (hh _)
 show(mkd w∧_∧∃ σ',exs (callX tab k) [s_at b_lr 0,s_at b_lr 1,s_at b_lr 2,s_at b_lr 3] _=_)∨(_∧_∧∃ σ',exs (callX tab k) [s_at b_lr 0,s_at b_lr 1,s_at b_lr 2,s_at b_lr 3] _=_∧_)∨(_∧_∧∃ σ',exs (callX tab k) [s_at b_lr 0,s_at b_lr 1,s_at b_lr 2,s_at b_lr 3] _=_∧_)
 rw [exs_cons1 x0,exs_cons1 x1]
 by_cases hmk:mkd w
 ·by_cases hbad:told=true∨¬ okn s f w
  ·obtain⟨υ,y⟩:=y1 hmk hbad
   exact .inl ⟨hmk,hbad,υ,by rw [s_cons,y,Ev.bind_ok]⟩
  ·have ht:told=false:=by cases told with | true=>exact absurd (.inl rfl) hbad | false=>rfl
   have hn:okn s f w:=by by_cases x:okn s f w;exact x;exact absurd (Or.inr x) hbad
   have y:=y2 hmk ht hn
   subst ht
   right
   rw [exs_cons1 y]
   by_cases hC:C=[]
   ·exact .inr ⟨fun x=>hbad x.2,hC,_,exs_cons1 (z0 hC _ rfl),a0,a1,by rw [hN];exact a3,by rw [decide_eq_true hmk];rfl⟩
   ·exact .inl ⟨fun x=>hbad x.2,hC,_,exs_cons1 (z1 hC _ rfl a3),a0,a1,by rw [← hap];rfl,rfl⟩
 ·right
  have hC0:C=w:=hCC.symm.trans (nmkd_rest hmk)
  rw [exs_cons1 (y3 hmk)]
  by_cases hC:C=[]
  ·exact .inr ⟨fun x=>hmk x.1,hC,_,exs_cons1 (z0 hC _ (by rw [hC0];rfl)),a0,a1,by rw [hN];exact a3,by rw [decide_eq_false hmk,Bool.or_false];exact a4⟩
  ·exact .inl ⟨fun x=>hmk x.1,hC,_,exs_cons1 (z1 hC _ (by rw [hC0];rfl) a3),a0,a1,by rw [← hap];rfl,rfl⟩
end Mine

namespace Mine
theorem lr_loop (k:Nat) {s0 f0:Int} (hf:0≤f0∧f0 < 10000):∀ (ws:List (List Nat)) (s f:Int) (told:Bool) (acc:List (List Nat)) (σ:Sg),(∀ w ∈ ws,w.length≤98)→(s=0∨s=1)→0≤f→f + ws.length < 400→acc.length + ws.length≤1000→2 * f0 + s0 + acc.length=2 * f + s→LR σ s0 f0 told acc→
  (∃ r σ',rd s f told ws acc=some r∧forGo (fun d σ=>exs (callX tab k) b_lr (upd σ 5 ⟨d,false⟩)) (ws.map .str) σ=Ev.ok (.next,σ')∧σ' 3=some ⟨.lst (r.map .str),true⟩∧σ' 4=some ⟨.bool false,false⟩)∨
  (rd s f told ws acc=Option.none∧((∃ σ',forGo (fun d σ=>exs (callX tab k) b_lr (upd σ 5 ⟨d,false⟩)) (ws.map .str) σ=Ev.ok (.ret .none .pl,σ'))∨
   ∃ σ',forGo (fun d σ=>exs (callX tab k) b_lr (upd σ 5 ⟨d,false⟩)) (ws.map .str) σ=Ev.ok (.next,σ')∧σ' 4=some ⟨.bool true,false⟩)):=by
 intro ws
 induction ws with
 | nil=>
  intro s f told acc σ _ _ _ _ _ _ h
  cases told with
  | true=>right;exact⟨rfl,Or.inr ⟨σ,rfl,h.a4⟩⟩
  | false=>left;exact⟨acc,σ,rfl,rfl,h.a3,h.a4⟩
 | cons w ws ih=>
  intro s f told acc σ hw hs g0 g1 ha rel h
  simp only [List.length_cons] at g1 ha
  have hw0:w.length≤98:=hw w (by simp)
  have hws:∀ x ∈ ws,x.length≤98:=fun x hx=>hw x (by simp [hx])
  rcases lr_step k w hw0 hs g0 (by exact li1 (.z f (.n (ws.length) .o)) (nat_lit 0x1f5d00090635d0009051551401923) g1) (by exact li1 (.n (acc.length) (.n (ws.length) .o)) (nat_lit 0x7da4083838d9408383451401923) ha) hf rel h with ⟨a,b,σ',c⟩ | ⟨a,b,σ',c,d⟩ | ⟨a,b,σ',c,d⟩
  ·right
   refine⟨?_,Or.inl ⟨σ',?_⟩⟩
   ·rw [rd,if_pos ⟨a,b⟩]
   ·rw [List.map_cons,forGo_cons,c];rfl
  ·rw [List.map_cons,forGo_cons,c,rd,if_neg a,if_pos b]
   have:=@nxf_ok s f
   refine ih (1 - s) (nxf s f) false (acc ++ [sC w]) σ' hws (by exact li1 (.z s .o) (nat_lit 0x1f7584014a34016100128d005d610063610023) hs) (by exact li2 (.z (nxf s f) (.z f .o)) (nat_lit 0x1f7d68d00168e45a4400) g0 this.1) (by exact li2 (.z (nxf s f) (.n (ws.length) (.z f .o))) (nat_lit 0x1f7d74002414559235914019635d0009051551401925) g1 this.2) (by simp;exact li1 (.n (acc.length) (.n (ws.length) .o)) (nat_lit 0x1f65020e0d19114018d9408383451401923) ha) ?_ d
   rw [List.length_append]
   rcases hs with e | e <;> subst e <;> simp [nxf];exact li1 (.z f0 (.z s0 (.n (acc.length) (.z f .o)))) (nat_lit 0x7d84500539900914500559519138d00984500139900915654644e3402) rel;exact li1 (.z f0 (.z s0 (.n (acc.length) (.z f .o)))) (nat_lit 0x7d84d14019900914500559519138d00984500539900915654644e3402) rel
  ·rw [List.map_cons,forGo_cons,c,rd,if_neg a,if_neg (by simp [b])]
   exact ih s f _ acc σ' hws hs g0 (by exact li1 (.z f (.n (ws.length) .o)) (nat_lit 0x7d74002414559235d0009051551401923) g1) (by exact li1 (.n (acc.length) (.n (ws.length) .o)) (nat_lit 0x7d94083834648d9408383451401923) ha) rel d
noncomputable def dWords:Option (List (List Nat))→D
 | some r=>.lst (r.map .str)
 | Option.none=>.none
noncomputable def kWords:Option (List (List Nat))→Kd
 | some _=>.fr
 | Option.none=>.pl
theorem m_split {t:List Nat} (ht:t.length≤98):mth .split (.str t) (.str [32])=some (.lst ((splitAt32 t).map .str),.fr)∧items (.lst ((splitAt32 t).map .str))=some ((splitAt32 t).map .str):=by
 have hsp:=sp_len t
 refine⟨?_,items_lst (by simp;exact li2 (.n ((splitAt32 t).length) (.n (t.length) .o)) (nat_lit 0x1f7d94002862018d94500648d94021a4) ht hsp.1)⟩
 show(if 32=32∧t.length≤1000 then some (D.lst ((splitAt32 t).map .str),Kd.fr) else Option.none)=_
 rw [if_pos ⟨rfl,by exact li1 (.n (t.length) .o) (nat_lit 0x7d94083838d94021a3) ht⟩]
theorem s_law_read (k:Nat) {s f:Int} (t:List Nat) (ht:t.length≤98) (hs:s=0∨s=1) (f0:0≤f) (f1:f < 200):
  callX tab (k+1) f_law_read [.int s,.int f,.str t]=Ev.ok (dWords (rd s f false (splitAt32 t) []),kWords (rd s f false (splitAt32 t) [])):=by
 have hsp:=sp_len t
 obtain⟨e1,e2⟩:=m_split ht
 have hl:=lr_loop k (s0:=s) (f0:=f) ⟨f0,by exact li1 (.z f .o) (nat_lit 0x1f5d00011c28d7408323) f1⟩ (splitAt32 t) s f false [] (upd (upd (start 3 [.int s,.int f,.str t]) 3 ⟨.lst [],true⟩) 4 ⟨.bool false,false⟩) (fun w hw=>by have:=hsp.2 w hw;exact li2 (.n (w.length) (.n (t.length) .o)) (nat_lit 0x1f7d94021a36648d94021a4) ht this) hs f0 (by exact li3 (.z f (.n ((splitAt32 t).length) (.n (t.length) .o))) (nat_lit 0x7df7d74002414559236514019645d020c8d94021a5) ht f1 hsp.1) (by simp;exact li2 (.n ((splitAt32 t).length) (.n (t.length) .o)) (nat_lit 0x1f7d94083838d94500648d94021a4) ht hsp.1) (by simp) ⟨rfl,rfl,rfl,rfl⟩
 show runF (callX tab k) p_law_read [_,_,_]=_
 generalize (splitAt32 t).map D.str=W at *
 rcases hl with ⟨r,σ',a,b,c,d⟩ | ⟨a,⟨σ',b⟩ | ⟨σ',b,d⟩⟩
 ·rw [a];(have hh:=fun r:Ev (D×Kd)=>ai e1 (ai e2 (ai b (ai d (ai rf (ai c (Eq.refl r))))));exact fun_eq [.d _ _,.l _,.f _ _,.r 4 _,.b false,.r 3 _] rfl (hh _))
 ·rw [a];(have hh:=fun r:Ev (D×Kd)=>ai e1 (ai e2 (ai b (Eq.refl r)));exact fun_eq [.d _ _,.l _,.f _ _] rfl (hh _))
 ·rw [a];(have hh:=fun r:Ev (D×Kd)=>ai e1 (ai e2 (ai b (ai d (ai rt (Eq.refl r)))));exact fun_eq [.d _ _,.l _,.f _ _,.r 4 _,.b true] rfl (hh _))
theorem s_law_split (k:Nat) {s f:Int} (t:List Nat) (ht:t.length≤98) (hs:s=0∨s=1) (f0:0≤f) (f1:f < 10000):
  callX tab (k+3) f_law_split [.int s,.int f,.str t]=Ev.ok (dWords (rd s f false (splitAt32 t) []),kWords (rd s f false (splitAt32 t) [])):=by
 have e:=s_split_line k t ht hs f0 f1
 show runF (callX tab (k+2)) p_law_split [_,_,_]=_
 generalize rd s f false (splitAt32 t) []=r at *
 cases r <;> (first | (have hh:=fun r:Ev (D×Kd)=>ai e (Eq.refl r);exact fun_eq [.bad] rfl (hh _)) | (have hh:=fun r:Ev (D×Kd)=>ai e (Eq.refl r);exact fun_eq [.d _ _] rfl (hh _))) <;> simp [Ev.ok,Ev.bad,Ev.bind,sto_pl,sto_fr]
end Mine

namespace Mine
open scoped Classical
noncomputable def Wd (w:List Nat):Prop:=w≠[]∧32 ∉ w∧¬ mkd w∧w.length≤5∧Asc w
noncomputable def mks:Int→Int→Bool→List (List Nat)→List (List Nat)
 | _,_,_,[]=>[]
 | s,f,fst,w :: ws=>(if s=0 then [dec f.toNat ++ [46]] else if fst then [dec f.toNat ++ [46,46,46]] else []) ++ w :: mks (1 - s) (nxf s f) false ws
theorem rd_plain:∀ (ws:List (List Nat)) (s f:Int) (acc:List (List Nat)),(∀ w ∈ ws,Wd w)→rd s f false ws acc=some (acc ++ ws):=by
 intro ws
 induction ws with
 | nil=>intro s f acc _;simp [rd]
 | cons w ws ih=>
  intro s f acc h
  have hw:=h w (by simp)
  have hC:=nmkd_rest hw.2.2.1
  rw [rd,if_neg (fun x=>hw.2.2.1 x.1),hC,if_pos hw.1,ih _ _ _ (fun x hx=>h x (by simp [hx]))]
  simp
theorem mk_word {n:Nat} (h:n < 400) (j:Nat) (hj:0 < j):sA (dec n ++ List.replicate j 46)=dec n∧sB (dec n ++ List.replicate j 46)=List.replicate j 46∧sC (dec n ++ List.replicate j 46)=[]:=by
 have:=split_of (D:=dec n) (R:=[]) (n:=j) (dec_ok h).1 hj (by simp)
 simpa using this
theorem rd_mark {s f:Int} (ws acc:List (List Nat)) (hs:s=0∨s=1) (h:f.toNat < 400) (w:List Nat) (e:w=dec f.toNat ++ List.replicate (if s=0 then 1 else 3) 46):
  rd s f false (w :: ws) acc=rd s f true ws acc:=by
 have hj:0 < (if s=0 then 1 else 3:Nat):=by split;exact li0 .o (nat_lit 440407040);exact li0 .o (nat_lit 440415232)
 obtain⟨a,b,c⟩:=mk_word h _ hj
 rw [← e] at a b c
 have hk:okn s f w:=⟨a,by rw [b,List.length_replicate]⟩
 have hm:mkd w:=Or.inl (by rw [a];exact(dec_ok h).2.1)
 rw [rd,if_neg (by rintro⟨-,x | x⟩;exact absurd x (by simp);exact x hk),if_neg (by simp [c])]
 simp [hm]
theorem rd_word {s f:Int} (told:Bool) (ws acc:List (List Nat)) {w:List Nat} (h:Wd w):rd s f told (w :: ws) acc=rd (1 - s) (nxf s f) false ws (acc ++ [w]):=by
 have hC:=nmkd_rest h.2.2.1
 rw [rd,if_neg (fun x=>h.2.2.1 x.1),hC,if_pos h.1]
theorem rd_mks:∀ (ws:List (List Nat)) (s f:Int) (fst:Bool) (acc:List (List Nat)),(∀ w ∈ ws,Wd w)→(s=0∨s=1)→0≤f→f + ws.length < 400→rd s f false (mks s f fst ws) acc=some (acc ++ ws):=by
 intro ws
 induction ws with
 | nil=>intro s f fst acc _ _ _ _;simp [mks,rd]
 | cons w ws ih=>
  intro s f fst acc h hs g0 g1
  simp only [List.length_cons] at g1
  have hw:=h w (by simp)
  have hn:=@nxf_ok s f
  have ih':=ih (1 - s) (nxf s f) false (acc ++ [w]) (fun x hx=>h x (by simp [hx])) (by exact li1 (.z s .o) (nat_lit 0x1f7584014a34016100128d005d610063610023) hs) (by exact li2 (.z (nxf s f) (.z f .o)) (nat_lit 0x1f7d68d00168e45a4400) g0 hn.1) (by exact li2 (.z (nxf s f) (.n (ws.length) (.z f .o))) (nat_lit 0x1f7d74002414559235914019635d0009051551401925) g1 hn.2)
  have fin:acc ++ [w] ++ ws=acc ++ w :: ws:=by simp
  rw [fin] at ih'
  rw [mks]
  rcases hs with e | e
  ·subst e
   rw [if_pos rfl,List.singleton_append,rd_mark (s:=0) (f:=f) _ _ (Or.inl rfl) (by exact li2 (.n (f.toNat) (.z f (.n (ws.length) .o))) (nat_lit 0x1f7da4002418dd71b4008d740091c6245635a44005d0009051551401964) g1 (ltn (f))) (dec f.toNat ++ [46]) rfl,rd_word _ _ _ hw]
   exact ih'
  ·subst e
   rw [if_neg (by exact li0 .o (nat_lit 32619103233))]
   cases fst with
   | true=>
    rw [if_pos rfl,List.singleton_append,rd_mark (s:=1) (f:=f) _ _ (Or.inr rfl) (by exact li2 (.n (f.toNat) (.z f (.n (ws.length) .o))) (nat_lit 0x1f7da4002418dd71b4008d740091c6245635a44005d0009051551401964) g1 (ltn (f))) (dec f.toNat ++ [46,46,46]) rfl,rd_word _ _ _ hw]
    exact ih'
   | false=>
    simp only [Bool.false_eq_true,if_false,List.nil_append]
    rw [rd_word _ _ _ hw]
    exact ih'
end Mine

namespace Mine
theorem eqOk_strs (n:Nat) (l:List (List Nat)):(l.map D.str).all (eqOk n)=true:=by
 rw [List.all_eq_true];intro x hx
 obtain⟨w,-,rfl⟩:=List.mem_map.1 hx
 cases n <;> rfl
theorem deqs_strs:∀ (l r:List (List Nat)),deqs (l.map .str) (r.map .str)=decide (l=r):=by
 intro l
 induction l with
 | nil=>intro r;cases r <;> simp [deqs]
 | cons a l ih=>
  intro r
  cases r with
  | nil=>simp [deqs]
  | cons b r=>
   have hx:(a == b)=decide (a=b):=by by_cases h:a=b <;> simp [h]
   simp [deqs,deq,ih,Bool.decide_and,hx]
theorem c_eqls (l r:List (List Nat)):cop .eq (.lst (l.map .str)) (.lst (r.map .str))=some (decide (l=r)):=by
 show(if eqOk 8 (.lst (l.map .str)) && eqOk 8 (.lst (r.map .str)) then some (deq (.lst (l.map .str)) (.lst (r.map .str))) else Option.none)=_
 have h:∀ l:List (List Nat),eqOk 8 (.lst (l.map .str))=true:=fun l=>by unfold eqOk;exact eqOk_strs 7 l
 rw [h,h];simp only [Bool.and_self,if_true,deq,deqs_strs]
theorem c_nels (l r:List (List Nat)):cop .ne (.lst (l.map .str)) (.lst (r.map .str))=some (!decide (l=r)):=by
 show Option.map (!·) (cop .eq (.lst (l.map .str)) (.lst (r.map .str)))=_
 rw [c_eqls];rfl
theorem mks_len:∀ (ws:List (List Nat)) (s f:Int) (b:Bool),(∀ w ∈ ws,w.length≤5)→(s=0∨s=1)→0≤f→f + ws.length < 400→(mks s f b ws).length≤2 * ws.length∧∀ x ∈ mks s f b ws,x.length≤8:=by
 intro ws
 induction ws with
 | nil=>intro s f b _ _ _ _;simp [mks]
 | cons w ws ih=>
  intro s f b h hs g0 g1
  simp only [List.length_cons] at g1
  have hn:=@nxf_ok s f
  obtain⟨i1,i2⟩:=ih (1 - s) (nxf s f) false (fun x hx=>h x (by simp [hx])) (by exact li1 (.z s .o) (nat_lit 0x1f7584014a34016100128d005d610063610023) hs) (by exact li2 (.z (nxf s f) (.z f .o)) (nat_lit 0x1f7d68d00168e45a4400) g0 hn.1) (by exact li2 (.z (nxf s f) (.n (ws.length) (.z f .o))) (nat_lit 0x1f7d74002414559235914019635d0009051551401925) g1 hn.2)
  have hw:=h w (by simp)
  have hd:=dec_ok (n:=f.toNat) (by exact li2 (.n (f.toNat) (.z f (.n (ws.length) .o))) (nat_lit 0x1f7da4002418dd71b4008d740091c6245635a44005d0009051551401964) g1 (ltn (f)))
  rw [mks]
  constructor
  ·rw [List.length_append,List.length_cons,List.length_cons]
   have:(if s=0 then [dec f.toNat ++ [46]] else if b=true then [dec f.toNat ++ [46,46,46]] else []).length≤1:=by split;simp;split <;> simp
   exact li2 (.n ((if s=0 then [dec f.toNat ++ [46]] else if b=true then [dec f.toNat ++ [46,46,46]] else []).length) (.n ((mks (1 - s) (nxf s f) false ws).length) (.n (ws.length) .o))) (nat_lit 0x7df6534500654024514019236500636539500a4) i1 this
  ·intro x hx
   rw [List.mem_append,List.mem_cons] at hx
   rcases hx with hx | hx | hx
   ·split at hx
    ·simp at hx;subst hx;simp;exact li1 (.n ((dec f.toNat).length) .o) (nat_lit 8836783062450531) hd.2.2
    ·split at hx
     ·simp at hx;subst hx;simp;exact li1 (.n ((dec f.toNat).length) .o) (nat_lit 8836780914966883) hd.2.2
     ·simp at hx
   ·subst hx;exact li1 (.n (x.length) .o) (nat_lit 8836784136192355) hw
   ·exact i2 x hx
theorem sum_len:∀ (ws:List (List Nat)) (m:Nat),(∀ w ∈ ws,w.length≤m)→(ws.map List.length).sum≤m * ws.length:=by
 intro ws m
 induction ws with
 | nil=>intro _;simp
 | cons w ws ih=>
  intro h
  have:=ih (fun x hx=>h x (by simp [hx]))
  have:=h w (by simp)
  simp only [List.map_cons,List.sum_cons,List.length_cons,Nat.mul_add,Nat.mul_one];exact li2 (.n (w.length) (.n ((List.map List.length ws).sum) (.n (m * ws.length) (.n m .o)))) (nat_lit 0x1f7d94669519236668d9964) (show(List.map List.length ws).sum≤m * ws.length by assumption) this
theorem m_join {ws:List (List Nat)} (h:∀ w ∈ ws,w.length≤8) (hl:ws.length≤1000):mth .join (.str [32]) (.lst (ws.map .str))=some (.str (joinD [32] ws),.pl):=by
 have hs:=sum_len ws 8 h
 show((dStrs (ws.map .str)).bind fun ws=>if (ws.map List.length).sum + [32].length * ws.length≤100000 then some (D.str (joinD [32] ws),Kd.pl) else Option.none)=_
 rw [dStrs_map]
 show(if (ws.map List.length).sum + [32].length * ws.length≤100000 then some (D.str (joinD [32] ws),Kd.pl) else Option.none)=_
 simp only [List.length_singleton,Nat.one_mul]
 rw [if_pos (by exact li2 (.n ((List.map List.length ws).sum) (.n (ws.length) .o)) (nat_lit 0x7df65000a18805192365391022365020e0e4) hl hs)]
noncomputable def b_nl:List St:=forBody p_number_line.body[1]?
theorem p_nl:p_number_line=⟨3,[
 .asg 3 (.lst []),
 .forE 4 (.var 2) b_nl,
 .ret (.mth .join (.lit (.str [32])) (.var 3))]⟩:=rfl
theorem nl_loop (k:Nat):∀ (ws:List (List Nat)) (s f:Int) (acc:List (List Nat)) (σ:Sg),(s=0∨s=1)→0≤f→f + ws.length < 400→acc.length + 2 * ws.length≤1000→
  σ 0=some ⟨.int s,false⟩→σ 1=some ⟨.int f,false⟩→σ 3=some ⟨.lst (acc.map .str),true⟩→
  ∃ σ',forGo (fun d σ=>exs (callX tab k) b_nl (upd σ 4 ⟨d,false⟩)) (ws.map .str) σ=Ev.ok (.next,σ')∧σ' 3=some ⟨.lst ((acc ++ mks s f (decide (acc=[])) ws).map .str),true⟩:=by
 intro ws
 induction ws with
 | nil=>intro s f acc σ _ _ _ _ _ _ h3;exact⟨σ,rfl,by simpa [mks] using h3⟩
 | cons w ws ih=>
  intro s f acc σ hs g0 g1 ha h0 h1 h3
  simp only [List.length_cons] at g1 ha
  have hn:=@nxf_ok s f
  have hd:=dec_ok (n:=f.toNat) (by exact li2 (.n (f.toNat) (.z f (.n (ws.length) .o))) (nat_lit 0x1f7da4002418dd71b4008d740091c6245635a44005d0009051551401964) g1 (ltn (f)))
  have hf:fn1 .str (.int f)=some (.str (dec f.toNat)):=by rw [f_str,if_pos (by exact li2 (.z f (.n (ws.length) .o)) (nat_lit 0x1f7dc5d000010e2c01050a35a34005d00090515514019235a3400) g0 g1)]
  have l1:(dec f.toNat).length + 1≤big:=by unfold big;exact li1 (.n ((dec f.toNat).length) .o) (nat_lit 0x1f650000000001450063650163) hd.2.2
  have l3:(dec f.toNat).length + 3≤big:=by unfold big;exact li1 (.n ((dec f.toNat).length) .o) (nat_lit 0x1f6500000000014500e3650163) hd.2.2
  have ce:cop .eq (.lst (acc.map .str)) (.lst [])=some (decide (acc=[])):=c_eqls acc []
  have lb:acc.length < big:=by unfold big;exact li1 (.n (acc.length) (.n (ws.length) .o)) (nat_lit 0x7da40000000006365020e0d14d14019100a3) ha
  have lb1:acc.length + 1 < big:=by unfold big;exact li1 (.n (acc.length) (.n (ws.length) .o)) (nat_lit 0x1f69000000000145006365020e0d14d14019100a3) ha
  obtain⟨dd,hdd⟩:∃ dd,dec f.toNat=dd:=⟨_,rfl⟩
  rw [hdd] at hf l1 l3
  have step:∃ σ1,exs (callX tab k) b_nl (upd σ 4 ⟨.str w,false⟩)=Ev.ok (.next,σ1)∧σ1 0=some ⟨.int (1 - s),false⟩∧σ1 1=some ⟨.int (nxf s f),false⟩∧
    σ1 3=some ⟨.lst ((acc ++ ((if s=0 then [dd ++ [46]] else if decide (acc=[])=true then [dd ++ [46,46,46]] else []) ++ [w])).map .str),true⟩:=by
   rcases hs with e | e
   ·subst e
    refine⟨upd (upd (upd (upd σ 4 ⟨.str w,false⟩) 3 ⟨.lst (acc.map .str ++ [.str (dd ++ [46])]),true⟩) 3 ⟨.lst (acc.map .str ++ [.str (dd ++ [46])] ++ [.str w]),true⟩) 0 ⟨.int 1,false⟩,?_,by simp [upd],by simp [upd,h1,nxf],by simp [upd]⟩
    have hh:=fun r:Fl×Sg=>ai h0 (ai rt (ai h3 (ai h1 (ai hf (ai (@v_adds (dd) ([46]) (by omega)) (ai (show(List.map D.str acc).length < big from(by simp [b_nl,forBody,p_number_line,h0,h1,h3,hf,l1,ce,lb,lb1])) (ai (show(List.map D.str acc ++ [D.str (dd ++ [46])]).length < big from(by simp [b_nl,forBody,p_number_line,h0,h1,h3,hf,l1,ce,lb,lb1])) (ai h0 (ai rf (ai h0 (Eq.refl r)))))))))))
    exact run_eq [.r 0 _,.b true,.r 3 _,.r 1 _,.v _,.d _ _,.r 0 _,.b false,.r 0 _] (hh _)
   ·subst e
    by_cases hA:acc=[]
    ·refine⟨upd (upd (upd (upd (upd σ 4 ⟨.str w,false⟩) 3 ⟨.lst (acc.map .str ++ [.str (dd ++ [46,46,46])]),true⟩) 3 ⟨.lst (acc.map .str ++ [.str (dd ++ [46,46,46])] ++ [.str w]),true⟩) 1 ⟨.int (f + 1),false⟩) 0 ⟨.int 0,false⟩,?_,by simp [upd],by simp [upd,h1,nxf],by simp [upd,hA]⟩
     subst hA
     have hb0:0 < big:=by unfold big;exact li0 .o (nat_lit 0x690000000001400)
     have hb1:1 < big:=by unfold big;exact li0 .o (nat_lit 0x690000000001401)
     have ce0:cop .eq (.lst []) (.lst [])=some true:=rfl
     rw [List.map_nil] at h3
     have hh:=fun r:Fl×Sg=>ai h0 (ai rf (ai h3 (ai ce0 (ai rt (ai h3 (ai h1 (ai hf (ai (@v_adds (dd) ([46,46,46]) (by omega)) (ai hb0 (ai hb1 (ai h0 (ai rt (ai h1 (ai h0 (Eq.refl r)))))))))))))))
     exact run_eq [.r 0 _,.b false,.r 3 _,.b true,.b true,.r 3 _,.r 1 _,.v _,.d _ _,.r 0 _,.b true,.r 1 _,.r 0 _] (hh _)
    ·refine⟨upd (upd (upd (upd σ 4 ⟨.str w,false⟩) 3 ⟨.lst (acc.map .str ++ [.str w]),true⟩) 1 ⟨.int (f + 1),false⟩) 0 ⟨.int 0,false⟩,?_,by simp [upd],by simp [upd,h1,nxf],by simp [upd,hA]⟩
     have hh:=fun r:Fl×Sg=>ai h0 (ai rf (ai h3 (ai ce (ai (asb_f hA) (ai h3 (ai (show(List.map D.str acc).length < big from(by simp [b_nl,forBody,p_number_line,h0,h1,h3,hf,l1,ce,lb,hA])) (ai h0 (ai rt (ai h1 (ai h0 (Eq.refl r)))))))))))
     exact run_eq [.r 0 _,.b false,.r 3 _,.b _,.b false,.r 3 _,.r 0 _,.b true,.r 1 _,.r 0 _] (hh _)
  obtain⟨σ1,x,y0,y1,y3⟩:=step
  obtain⟨σ',a,b⟩:=ih (1 - s) (nxf s f) _ σ1 (by exact li1 (.z s .o) (nat_lit 0x1f7584014a34016100128d005d610063610023) hs) (by exact li2 (.z (nxf s f) (.z f .o)) (nat_lit 0x1f7d68d00168e45a4400) g0 hn.1) (by exact li2 (.z (nxf s f) (.n (ws.length) (.z f .o))) (nat_lit 0x1f7d74002414559235914019635d0009051551401925) g1 hn.2) (by
   rw [List.length_append,List.length_append,List.length_singleton]
   have:(if s=0 then [dd ++ [46]] else if decide (acc=[])=true then [dd ++ [46,46,46]] else []).length≤1:=by split;simp;split <;> simp
   exact li2 (.n (acc.length) (.n ((if s=0 then [dd ++ [46]] else if decide (acc=[])=true then [dd ++ [46,46,46]] else []).length) (.n (ws.length) .o))) (nat_lit 0x7df65020e0d14e540245140192365006465020e0d14d14019500a3) ha this) y0 y1 y3
  refine⟨σ',?_,?_⟩
  ·rw [List.map_cons,forGo_cons,x];exact a
  ·rw [b,mks,hdd]
   simp
end Mine

namespace Mine
theorem s_number_line (k:Nat) {s f:Int} (ws:List (List Nat)) (hs:s=0∨s=1) (f0:0≤f) (f1:f < 300) (hl:ws.length≤50) (hw:∀ w ∈ ws,w.length≤5):
  callX tab (k+1) f_number_line [.int s,.int f,.lst (ws.map .str)]=Ev.ok (.str (joinD [32] (mks s f true ws)),.pl):=by
 have hm:=mks_len ws s f true hw hs f0 (by exact li2 (.z f (.n (ws.length) .o)) (nat_lit 0x7df5d00090515648d94020e45d0302063) f1 hl)
 have hj:=m_join hm.2 (by exact li2 (.n ((mks s f true ws).length) (.n (ws.length) .o)) (nat_lit 0x1f7d94083838d94e44028d94020e4) hl hm.1)
 have hi:items (.lst (ws.map .str))=some (ws.map .str):=items_lst (by simp;exact li1 (.n (ws.length) .o) (nat_lit 0x7d94002862018d94020e3) hl)
 have hl:=nl_loop k ws s f [] (upd (start 3 [.int s,.int f,.lst (ws.map .str)]) 3 ⟨.lst [],true⟩) hs f0 (by exact li2 (.z f (.n (ws.length) .o)) (nat_lit 0x7df5d00090515648d94020e45d0302063) f1 hl) (by simp;exact li1 (.n (ws.length) .o) (nat_lit 0x1f65020e0d38d00994020e3) hl) rfl rfl rfl
 obtain⟨σ',a,b⟩:=hl
 have b':σ' 3=some ⟨.lst ((mks s f true ws).map .str),true⟩:=by simpa using b
 show runF (callX tab k) p_number_line [_,_,_]=_
 generalize (ws.map D.str)=W at *
 generalize (mks s f true ws).map D.str=M at *
 have hh:=fun r:Ev (D×Kd)=>ai hi (ai a (ai (frz_at b') (ai hj (Eq.refl r))))
 exact fun_eq [.l _,.f _ _,.r 3 _,.d _ _] rfl (hh _)
end Mine

namespace Mine
noncomputable def go (w h q dx dy:Int):Int:=if 0≤q % w + dx∧q % w + dx < w∧0≤q / w + dy∧q / w + dy < h then (q / w + dy) * w + (q % w + dx) else -1
theorem s_law_go (k:Nat) {w h q dx dy:Int} (s:Shp w h):callX tab (k+1) f_law_go [.tup [.int w,.int h],.int q,.tup [.int dx,.int dy]]=Ev.ok (.int (go w h q dx dy),.pl):=by
 have s0:∀ a b:Int,sub (.tup [.int a,.int b]) (.int 0)=some (.int a):=fun _ _=>rfl
 have s1:∀ a b:Int,sub (.tup [.int a,.int b]) (.int 1)=some (.int b):=fun _ _=>rfl
 have w0:0 < w:=by unfold Shp at s;exact li1 (.z w (.z h .o)) (nat_lit 0x7d78d001d75d7184049184068dc6100e46101e37184059184058dc610124610123) s
 have hl:=shp_log s
 have hwa:=shp_abs s
 obtain⟨x,hx⟩:∃ x,q % w + dx=x:=⟨_,rfl⟩
 obtain⟨y,hy⟩:∃ y,q / w + dy=y:=⟨_,rfl⟩
 show runF (callX tab k) p_law_go [_,_,_]=_
 unfold go
 rw [hx,hy]
 by_cases c1:0≤x
 ·by_cases c2:x < w
  ·by_cases c3:0≤y
   ·by_cases c4:y < h
    ·have ya:y.natAbs < 4294967296:=by unfold Shp at s;exact li4 (.n (y.natAbs) (.z w (.z h (.z y .o)))) (nat_lit 0x7df7df69000000000000006375c6149958d740099c6265635a64005e599699001d75d71840495840691c6100e56101e471840595840591c610125610124) s c3 c4 (lab (y))
     have hh:=fun r:Ev (D×Kd)=>ai (@s0 (w) (h)) (ai (@v_fmod (q) (w) w0) (ai (@s0 (dx) (dy)) (ai (@s0 (w) (h)) (ai (@v_fdiv (q) (w) w0 hl) (ai (@s1 (dx) (dy)) (ai (asb_t (show 0≤q % w + dx from(li2 (.z (q % w) (.z dx (.z x .o))) (nat_lit 0x1f7d64648d0016950018951923) hx c1))) (ai (@s0 (w) (h)) (ai (asb_t (show q % w + dx < w from(li2 (.z (q % w) (.z dx (.z w (.z x .o)))) (nat_lit 0x1f7d79519235e5998991923) hx c2))) (ai (asb_t (show 0≤q / w + dy from(li2 (.z (q / w) (.z dy (.z y .o))) (nat_lit 0x1f7d64648d0016950018951923) hy c3))) (ai (@s1 (w) (h)) (ai (asb_t (show q / w + dy < h from(li2 (.z (q / w) (.z dy (.z h (.z y .o)))) (nat_lit 0x1f7d79519235e5998991923) hy c4))) (ai (@s0 (w) (h)) (ai (show bop Bop.mul (D.int (q / w + dy)) (D.int w)=some (D.int (y * w),Kd.pl) from by rw [← hy];exact(@v_mul (q / w + dy) (w) (li4 (.n ((q / w + dy).natAbs) (.z (q / w) (.z dy (.z y (.n (y.natAbs) .o))))) (nat_lit 0x1f7df7da4000000000000018dd7185265675d00267189959d699001d7185119645635d00119647184659158d646591001a4000000000000019d8991964) hy ya (lab (q / w + dy)) (lab (y))) hwa)) (Eq.refl r))))))))))))))
     exact Eq.trans (fun_eq (r:=(D.int (y * w + (q % w + dx)),Kd.pl)) [.v _,.d _ _,.v _,.v _,.d _ _,.v _,.b true,.v _,.b true,.b true,.v _,.b true,.v _,.d _ _] rfl (hh _)) (by simp [p_law_go,s0,s1,w0,hl,hwa,hx,hy,c1,c2,c3,c4,ya])
    ·have hh:=fun r:Ev (D×Kd)=>ai (@s0 (w) (h)) (ai (@v_fmod (q) (w) w0) (ai (@s0 (dx) (dy)) (ai (@s0 (w) (h)) (ai (@v_fdiv (q) (w) w0 hl) (ai (@s1 (dx) (dy)) (ai (asb_t (show 0≤q % w + dx from(li2 (.z (q % w) (.z dx (.z x .o))) (nat_lit 0x1f7d64648d0016950018951923) hx c1))) (ai (@s0 (w) (h)) (ai (asb_t (show q % w + dx < w from(li2 (.z (q % w) (.z dx (.z w (.z x .o)))) (nat_lit 0x1f7d79519235e5998991923) hx c2))) (ai (asb_t (show 0≤q / w + dy from(li2 (.z (q / w) (.z dy (.z y .o))) (nat_lit 0x1f7d64648d0016950018951923) hy c3))) (ai (@s1 (w) (h)) (ai (asb_f (show ¬ (q / w + dy < h) from(li2 (.z (q / w) (.z dy (.z h (.z y .o)))) (nat_lit 0x1f7de5e54648de5e5998991923) hy c4))) (Eq.refl r))))))))))))
     exact Eq.trans (fun_eq (r:=(D.int (-1),Kd.pl)) [.v _,.d _ _,.v _,.v _,.d _ _,.v _,.b true,.v _,.b true,.b true,.v _,.b false] rfl (hh _)) (by simp [p_law_go,s0,s1,w0,hl,hwa,hx,hy,c1,c2,c3,c4])
   ·have hh:=fun r:Ev (D×Kd)=>ai (@s0 (w) (h)) (ai (@v_fmod (q) (w) w0) (ai (@s0 (dx) (dy)) (ai (@s0 (w) (h)) (ai (@v_fdiv (q) (w) w0 hl) (ai (@s1 (dx) (dy)) (ai (asb_t (show 0≤q % w + dx from(li2 (.z (q % w) (.z dx (.z x .o))) (nat_lit 0x1f7d64648d0016950018951923) hx c1))) (ai (@s0 (w) (h)) (ai (asb_t (show q % w + dx < w from(li2 (.z (q % w) (.z dx (.z w (.z x .o)))) (nat_lit 0x1f7d79519235e5998991923) hx c2))) (ai (asb_f (show ¬ (0≤q / w + dy) from(li2 (.z (q / w) (.z dy (.z y .o))) (nat_lit 0x1f7de591923400796950018951923) hy c3))) (ai rf (Eq.refl r)))))))))))
    exact Eq.trans (fun_eq (r:=(D.int (-1),Kd.pl)) [.v _,.d _ _,.v _,.v _,.d _ _,.v _,.b true,.v _,.b true,.b false,.b false] rfl (hh _)) (by simp [p_law_go,s0,s1,w0,hl,hwa,hx,hy,c1,c2,c3])
  ·have hh:=fun r:Ev (D×Kd)=>ai (@s0 (w) (h)) (ai (@v_fmod (q) (w) w0) (ai (@s0 (dx) (dy)) (ai (@s0 (w) (h)) (ai (@v_fdiv (q) (w) w0 hl) (ai (@s1 (dx) (dy)) (ai (asb_t (show 0≤q % w + dx from(li2 (.z (q % w) (.z dx (.z x .o))) (nat_lit 0x1f7d64648d0016950018951923) hx c1))) (ai (@s0 (w) (h)) (ai (asb_f (show ¬ (q % w + dx < w) from(li2 (.z (q % w) (.z dx (.z w (.z x .o)))) (nat_lit 0x1f7de5e54648de5e5998991923) hx c2))) (ai rf (Eq.refl r))))))))))
   exact Eq.trans (fun_eq (r:=(D.int (-1),Kd.pl)) [.v _,.d _ _,.v _,.v _,.d _ _,.v _,.b true,.v _,.b false,.b false] rfl (hh _)) (by simp [p_law_go,s0,s1,w0,hl,hwa,hx,hy,c1,c2])
 ·have hh:=fun r:Ev (D×Kd)=>ai (@s0 (w) (h)) (ai (@v_fmod (q) (w) w0) (ai (@s0 (dx) (dy)) (ai (@s0 (w) (h)) (ai (@v_fdiv (q) (w) w0 hl) (ai (@s1 (dx) (dy)) (ai (asb_f (show ¬ (0≤q % w + dx) from(li2 (.z (q % w) (.z dx (.z x .o))) (nat_lit 0x1f7de591923400796950018951923) hx c1))) (ai rf (ai rf (Eq.refl r)))))))))
  exact Eq.trans (fun_eq (r:=(D.int (-1),Kd.pl)) [.v _,.d _ _,.v _,.v _,.d _ _,.v _,.b false,.b false,.b false] rfl (hh _)) (by simp [p_law_go,s0,s1,w0,hl,hwa,hx,hy,c1])
theorem go_range {w h q dx dy:Int} (s:Shp w h):-1≤go w h q dx dy∧go w h q dx dy < w * h:=by
 unfold go
 split
 ·rename_i c
  rcases s with ⟨e,e'⟩ | ⟨e,e'⟩ | ⟨e,e'⟩ | ⟨e,e'⟩ <;> subst e <;> subst e';exact li4 (.z (q / 4) (.z dy (.z (q % 4) (.z dx .o)))) (nat_lit 0x1f7df7dc5d34044044519a54d01119235914669534044648d44015d01119235919234005d01119a55919a5400) c.1 c.2.1 c.2.2.1 c.2.2.2;exact li4 (.z (q / 5) (.z dy (.z (q % 5) (.z dx .o)))) (nat_lit 0x1f7df7dc5d34054054519a54d01519235914669534054648d44015d01519235919234005d01519a55919a5400) c.1 c.2.1 c.2.2.1 c.2.2.2;exact li4 (.z (q / 7) (.z dy (.z (q % 7) (.z dx .o)))) (nat_lit 0x1f7df7dc5d34034074519a54d01d19235914669534074648d44015d00d19235919234005d01d19a55919a5400) c.1 c.2.1 c.2.2.1 c.2.2.2;exact li4 (.z (q / 6) (.z dy (.z (q % 6) (.z dx .o)))) (nat_lit 0x1f7df7dc5d34044064519a54d01919235914669534064648d44015d01119235919234005d01919a55919a5400) c.1 c.2.1 c.2.2.1 c.2.2.2
 ·rcases s with ⟨e,e'⟩ | ⟨e,e'⟩ | ⟨e,e'⟩ | ⟨e,e'⟩ <;> subst e <;> subst e';exact li0 .o (nat_lit 0x1c5d3404404510056510054401);exact li0 .o (nat_lit 0x1c5d3405405510056510054401);exact li0 .o (nat_lit 0x1c5d3403407510056510054401);exact li0 .o (nat_lit 0x1c5d3404406510056510054401)
noncomputable def left (w h dx dy q:Int):Nat:=if dx=1 then (w - q % w).toNat else if dx=-1 then (q % w + 1).toNat else if dy=1 then (h - q / w).toNat else (q / w + 1).toNat
noncomputable def Road (dx dy:Int):Prop:=(dx=1∨dx=-1∨dx=0)∧(dy=1∨dy=-1∨dy=0)∧¬ (dx=0∧dy=0)
theorem left_le {w h dx dy q:Int} (s:Shp w h) (q0:0≤q) (q1:q < w * h):left w h dx dy q≤7:=by
 obtain⟨a0,a1,b0,b1,w0,w1,h1,hp,hs⟩:=on_board s q0 q1
 unfold left;split;exact li3 (.n ((w - q % w).toNat) (.z (q % w) (.z w .o))) (nat_lit 0x7df7d94078dd71b4008d74004a495c6129255635929254005901e55a4400) a0 w1 (ltn (w - q % w));split;exact li3 (.n ((q % w + 1).toNat) (.z (q % w) (.z w .o))) (nat_lit 0x7df7d94078dd71b4008d7400450064718450064563591401910016407957964) a1 w1 (ltn (q % w + 1));split;exact li3 (.n ((h - q / w).toNat) (.z (q / w) (.z h .o))) (nat_lit 0x7df7d94078dd71b4008d74004a495c6129255635929254005901655a4400) b0 h1 (ltn (h - q / w));exact li3 (.n ((q / w + 1).toNat) (.z (q / w) (.z h .o))) (nat_lit 0x7df7d94078dd71b4008d7400450064718450064563591401910016405957964) b1 h1 (ltn (q / w + 1))
theorem left_lt {w h dx dy q:Int} (s:Shp w h) (r:Road dx dy) (q0:0≤q) (q1:q < w * h) (g:0≤go w h q dx dy):left w h dx dy (go w h q dx dy) < left w h dx dy q:=by
 obtain⟨a0,a1,b0,b1,_⟩:=on_board s q0 q1
 obtain⟨r1,r2,r3⟩:=r
 unfold go at *
 split at g
 ·rename_i c
  rw [if_pos c]
  obtain⟨c1,c2,c3,c4⟩:=c
  have e:=(sq_iff c1 c2 (y:=q / w + dy)).2 rfl
  generalize (q / w + dy) * w + (q % w + dx)=z at *
  unfold left
  rw [e.1,e.2]
  by_cases d1:dx=1
  ·rw [if_pos d1,if_pos d1];exact li4 (.n ((w - (q % w + dx)).toNat) (.n ((w - q % w).toNat) (.z (q % w) (.z dx (.z w .o))))) (nat_lit 0x7df7df6a48dd71b4009174004a59dc61296756459296740075c6d00235d00124669677184919a59d58d64919a59d00184019979d19a5) c2 d1 (ltn (w - (q % w + dx))) (ltn (w - q % w))
  ·rw [if_neg d1,if_neg d1]
   by_cases d2:dx=-1
   ·rw [if_pos d2,if_pos d2];exact li4 (.n ((q % w + dx + 1).toNat) (.n ((q % w + 1).toNat) (.z (q % w) (.z dx .o)))) (nat_lit 0x7df7df6a48dd71b40091740045006571845006556459140195001d71b4008d74004500519a57184500519a55635914014669500185100665919a5400) c1 d2 (ltn (q % w + dx + 1)) (ltn (q % w + 1))
   ·rw [if_neg d2,if_neg d2]
    by_cases d3:dy=1
    ·rw [if_pos d3,if_pos d3];exact li4 (.n ((h - (q / w + dy)).toNat) (.n ((h - q / w).toNat) (.z (q / w) (.z dy (.z h .o))))) (nat_lit 0x7df7df6a48dd71b4009174004a59dc61296756459296740075c6d00235d00124669677184919a59d58d64919a59d00184019979d19a5) c4 d3 (ltn (h - (q / w + dy))) (ltn (h - q / w))
    ·rw [if_neg d3,if_neg d3];exact li9 (.n ((q / w + dy + 1).toNat) (.n ((q / w + 1).toNat) (.z (q / w) (.z dx (.z dy .o))))) (nat_lit 0x7df7df7df7df7da92375c6d00245d001140195c61140195591645006540075c6d00235d001140146795c6114014679558d64500519e54007984019de61440199e6100665919e540079c61002761002675d6100276144019d84019dd758400998510066610066) r1 r2 r3 c3 d1 d2 d3 (ltn (q / w + dy + 1)) (ltn (q / w + 1))
 ·exact li1 (.n (left w h dx dy (if 0≤q % w + dx∧q % w + dx < w∧0≤q / w + dy∧q / w + dy < h then (q / w + dy) * w + (q % w + dx) else -1)) (.n (left w h dx dy q) .o)) (nat_lit 0x7da923594401400) g
end Mine

namespace Mine
noncomputable def whBody:List St→List St
 | _ :: .whil _ b :: _=>b
 | _=>[]
noncomputable def whCond:List St→X
 | _ :: .whil c _ :: _=>c
 | _=>.non
noncomputable def b_se:List St:=forBody p_law_seen.body[7]?
noncomputable def b_sw:List St:=whBody b_se
noncomputable def c_sw:X:=whCond b_se
theorem b_se_eq:b_se=[
  .asg 8 (.call f_law_go [(.var 0),(.var 2),(.var 7)]),
  .whil c_sw b_sw]:=rfl
theorem c_345 (K:Int):cop .isin (.int K) (.tup [.int 3,.int 4,.int 5])=some (decide (K=3∨K=4∨K=5)):=by
 show(if eqOk 8 (.int K) && [D.int 3,.int 4,.int 5].all (eqOk 8) then some ([D.int 3,.int 4,.int 5].any fun x=>deq x (.int K)) else Option.none)=_
 have:([D.int 3,.int 4,.int 5].any fun x=>deq x (.int K))=decide (K=3∨K=4∨K=5):=by
  rw [Bool.eq_iff_iff];simp [deq];exact li0 (.z K .o) (nat_lit 0x2075d6101636101236100e375d623405623404623403)
 rw [this];rfl
structure SW (σ:Sg) (w h:Int) (cs:List Int) (q K:Int) (out:List Int):Prop where
 a0:σ 0=some ⟨.tup [.int w,.int h],false⟩
 a1:σ 1=some ⟨.lst (cs.map .int),false⟩
 a2:σ 2=some ⟨.int q,false⟩
 a3:σ 3=some ⟨.int K,false⟩
 a6:σ 6=some ⟨.lst (out.map .int),true⟩
 rg:∀ x ∈ out,0≤x∧x < w * h
noncomputable def ms (w h dx dy to:Int):Nat:=if to < 0 then 0 else left w h dx dy to + 1
theorem sw_loop (k:Nat) {w h:Int} (s:Shp w h) {cs:List Int} (hl:(cs.length:Int)=w * h) {q K dx dy:Int} (hr:(K=3∨K=4∨K=5)→Road dx dy):∀ (n:Nat) (to:Int) (out:List Int) (σ:Sg),SW σ w h cs q K out→σ 7=some ⟨.tup [.int dx,.int dy],false⟩→σ 8=some ⟨.int to,false⟩→-1≤to→to < w * h→ms w h dx dy to < n→out.length + n≤1000→
  ∃ σ' out',whileGo (fun σ=>(ev (callX tab (k+1)) c_sw σ).bind fun x=>Ev.of (asB x.1)) (fun σ=>exs (callX tab (k+1)) b_sw σ) n σ=Ev.ok (.next,σ')∧SW σ' w h cs q K out'∧out'.length≤out.length + ms w h dx dy to:=by
 intro n
 induction n with
 | zero=>intro to out σ _ _ _ _ _ h _;omega
 | succ n ih=>
  intro to out σ hS h7 h8 t0 t1 hm hln
  obtain⟨a0,a1,a2,a3,a6,rg⟩:=hS
  rw [whileGo_s]
  by_cases hneg:to < 0
  ·have hge:¬ (0≤to):=by exact li1 (.z to .o) (nat_lit 0x7de5a34005d0023) hneg
   have:(ev (callX tab (k+1)) c_sw σ).bind (fun x=>Ev.of (asB x.1))=Ev.ok false:=by
    simp [c_ge,asB_b,e_lit,e_var,e_cmp,Ev.bind_ok,Ev.of_some,c_sw,whCond,b_se,forBody,p_law_seen,h8,hge]
   rw [this]
   exact⟨σ,out,rfl,⟨a0,a1,a2,a3,a6,rg⟩,by exact li0 (.n (out.length) (.n (ms w h dx dy to) .o)) (nat_lit 424036579)⟩
  ·have hge:0≤to:=by exact li1 (.z to .o) (nat_lit 0x7d68d001e5d0023) hneg
   have:(ev (callX tab (k+1)) c_sw σ).bind (fun x=>Ev.of (asB x.1))=Ev.ok true:=by
    simp [c_ge,asB_b,e_lit,e_var,e_cmp,Ev.bind_ok,Ev.of_some,c_sw,whCond,b_se,forBody,p_law_seen,h8,hge]
   rw [this,Ev.bind_ok,if_pos rfl]
   have hb:out.length < big:=by unfold big;exact li1 (.n (out.length) (.n n .o)) (nat_lit 0x1f6900000000018d9408383451401923) hln
   have hsz:w * h≤25:=by rcases s with ⟨e,e'⟩ | ⟨e,e'⟩ | ⟨e,e'⟩ | ⟨e,e'⟩ <;> subst e <;> subst e';exact li0 .o (nat_lit 6263438103823364);exact li0 .o (nat_lit 6263438103827461);exact li0 .o (nat_lit 6263438103819271);exact li0 .o (nat_lit 6263438103823366)
   have es:=sub_ints (cs:=cs) hge (by exact li2 (.z to (.n (cs.length) (.z (w * h) .o))) (nat_lit 0x1f7d75648d7963625564) hl t1) (by exact li2 (.n (cs.length) (.z (w * h) .o)) (nat_lit 0x7df6501068d6409064624563) hl hsz)
   have eg:=s_law_go k (w:=w) (h:=h) (q:=to) (dx:=dx) (dy:=dy) s
   have gr:=@go_range w h to dx dy s
   have hap:out.map D.int ++ [D.int to]=(out ++ [to]).map D.int:=by simp
   have rg':∀ x ∈ out ++ [to],0≤x∧x < w * h:=by
    intro x hx;rw [List.mem_append,List.mem_singleton] at hx;rcases hx with hx | hx
    ·exact rg x hx
    ·subst hx;exact⟨hge,t1⟩
   by_cases hc:(K=3∨K=4∨K=5)∧cv cs to=0
   ·have hst:exs (callX tab (k+1)) b_sw σ=Ev.ok (.next,upd (upd σ 6 ⟨.lst (out.map .int ++ [.int to]),true⟩) 8 ⟨.int (go w h to dx dy),false⟩):=by
     generalize hN:out.map D.int=N at *
     generalize hM:cs.map D.int=M at *
     have hb':N.length < big:=by rw [← hN];simpa using hb
     have hh:=fun r:Fl×Sg=>ai a6 (ai h8 (ai hb' (ai a3 (ai (@c_345 (K)) (ai (asb_t hc.1) (ai a1 (ai h8 (ai (show sub (D.lst M) (D.int to)=some (D.int 0) from by rw [← hc.2];exact es) (ai rt (ai a0 (ai h8 (ai h7 (ai eg (Eq.refl r))))))))))))))
     exact run_eq [.r 6 _,.r 8 _,.r 3 _,.b _,.b true,.r 1 _,.r 8 _,.v _,.b true,.r 0 _,.r 8 _,.r 7 _,.d _ _] (hh _)
    rw [hst,Ev.bind_ok]
    have hms:ms w h dx dy (go w h to dx dy) < ms w h dx dy to:=by
     unfold ms;rw [if_neg hneg]
     split
     ·exact li0 (.n (left w h dx dy to) .o) (nat_lit 1805228848128)
     ·rename_i hg
      have:=left_lt s (hr hc.1) hge t1 (by exact li1 (.z (go w h to dx dy) .o) (nat_lit 0x7d68d001e5d0023) hg)
      exact li1 (.n (left w h dx dy (go w h to dx dy)) (.n (left w h dx dy to) .o)) (nat_lit 0x1f6914019114018da923) this
    obtain⟨σ',out',x,y,z⟩:=ih (go w h to dx dy) (out ++ [to]) (upd (upd σ 6 ⟨.lst (out.map .int ++ [.int to]),true⟩) 8 ⟨.int (go w h to dx dy),false⟩) ⟨by simpa [upd] using a0,by simpa [upd] using a1,by simpa [upd] using a2,by simpa [upd] using a3,by simp [upd],rg'⟩ (by simpa [upd] using h7) (by simp [upd]) gr.1 gr.2 (by exact li2 (.n (ms w h dx dy (go w h to dx dy)) (.n n (.n (ms w h dx dy to) .o))) (nat_lit 0x7df6a48da963691401925) hm hms) (by simp;exact li1 (.n (out.length) (.n n .o)) (nat_lit 0x1f65020e0d19114018d9408383451401923) hln)
    exact⟨σ',out',x,y,by rw [List.length_append,List.length_singleton] at z;exact li2 (.n (out'.length) (.n (out.length) (.n (ms w h dx dy to) (.n (ms w h dx dy (go w h to dx dy)) .o)))) (nat_lit 0x7df6519648d94664500648da966) hms z⟩
   ·have hst:exs (callX tab (k+1)) b_sw σ=Ev.ok (.next,upd (upd σ 6 ⟨.lst (out.map .int ++ [.int to]),true⟩) 8 ⟨.int (-1),false⟩):=by
     generalize hN:out.map D.int=N at *
     generalize hM:cs.map D.int=M at *
     have hb':N.length < big:=by rw [← hN];simpa using hb
     by_cases hk:K=3∨K=4∨K=5
     ·have hz:¬ cv cs to=0:=fun x=>hc ⟨hk,x⟩
      have hh:=fun r:Fl×Sg=>ai a6 (ai h8 (ai hb' (ai a3 (ai (@c_345 (K)) (ai (asb_t hk) (ai a1 (ai h8 (ai es (ai (asb_f hz) (Eq.refl r))))))))))
      exact run_eq [.r 6 _,.r 8 _,.r 3 _,.b _,.b true,.r 1 _,.r 8 _,.v _,.b false] (hh _)
     ·have hh:=fun r:Fl×Sg=>ai a6 (ai h8 (ai hb' (ai a3 (ai (@c_345 (K)) (ai (asb_f hk) (ai rf (Eq.refl r)))))))
      exact run_eq [.r 6 _,.r 8 _,.r 3 _,.b _,.b false,.b false] (hh _)
    rw [hst,Ev.bind_ok]
    have hms:ms w h dx dy (-1)=0:=rfl
    have hms2:0 < ms w h dx dy to:=by unfold ms;rw [if_neg hneg];exact li0 (.n (left w h dx dy to) .o) (nat_lit 1805228848128)
    obtain⟨σ',out',x,y,z⟩:=ih (-1) (out ++ [to]) (upd (upd σ 6 ⟨.lst (out.map .int ++ [.int to]),true⟩) 8 ⟨.int (-1),false⟩) ⟨by simpa [upd] using a0,by simpa [upd] using a1,by simpa [upd] using a2,by simpa [upd] using a3,by simp [upd],rg'⟩ (by simpa [upd] using h7) (by simp [upd]) (by exact li0 .o (nat_lit 1533572105217)) (by exact li1 (.z (w * h) (.n (cs.length) .o)) (nat_lit 0x7d78d4401623564) hl) (by exact li3 (.n (ms w h dx dy (-1)) (.n n (.n (ms w h dx dy to) .o))) (nat_lit 0x7df7da9236a54006d0023691401925) hm hms hms2) (by simp;exact li1 (.n (out.length) (.n n .o)) (nat_lit 0x1f65020e0d19114018d9408383451401923) hln)
    exact⟨σ',out',x,y,by rw [List.length_append,List.length_singleton] at z;exact li3 (.n (out'.length) (.n (out.length) (.n (ms w h dx dy to) (.n (ms w h dx dy (-1)) .o)))) (nat_lit 0x7df7d94659236519914019236a54006d0026) hms hms2 z⟩
end Mine

namespace Mine
theorem ms_le {w h dx dy to:Int} (s:Shp w h) (t0:-1≤to) (t1:to < w * h):ms w h dx dy to≤8:=by
 unfold ms;split
 ·exact li0 .o (nat_lit 423658496)
 ·have:=left_le (dx:=dx) (dy:=dy) s (by exact li1 (.z to .o) (nat_lit 0x7d68d001e5d0023) (show ¬to < 0 by assumption)) t1;exact li1 (.n (left w h dx dy to) .o) (nat_lit 0x7d94084500636501e3) this
noncomputable def rdD (r:Int×Int):D:=.tup [.int r.1,.int r.2]
theorem se_loop (k:Nat) {w h:Int} (s:Shp w h) {cs:List Int} (hl:(cs.length:Int)=w * h) {q K:Int}:∀ (rs:List (Int×Int)) (out:List Int) (σ:Sg),(∀ r ∈ rs,(K=3∨K=4∨K=5)→Road r.1 r.2)→SW σ w h cs q K out→out.length + 8 * rs.length≤500→
  ∃ σ' out',forGo (fun d σ=>exs (callX tab (k+1)) b_se (upd σ 7 ⟨d,false⟩)) (rs.map rdD) σ=Ev.ok (.next,σ')∧SW σ' w h cs q K out'∧out'.length≤out.length + 8 * rs.length:=by
 intro rs
 induction rs with
 | nil=>intro out σ _ hS _;exact⟨σ,out,rfl,hS,by simp⟩
 | cons r rs ih=>
  intro out σ hr hS hln
  simp only [List.length_cons] at hln ⊢
  have gr:=@go_range w h q r.1 r.2 s
  have hm:=ms_le (dx:=r.1) (dy:=r.2) s gr.1 gr.2
  have eg:=s_law_go k (w:=w) (h:=h) (q:=q) (dx:=r.1) (dy:=r.2) s
  obtain⟨a0,a1,a2,a3,a6,rg⟩:=hS
  obtain⟨σ1,out1,x,y,z⟩:=sw_loop k s hl (K:=K) (q:=q) (hr r (by simp)) 100 (go w h q r.1 r.2) out (upd (upd σ 7 ⟨rdD r,false⟩) 8 ⟨.int (go w h q r.1 r.2),false⟩)
   ⟨by simpa [upd] using a0,by simpa [upd] using a1,by simpa [upd] using a2,by simpa [upd] using a3,by simpa [upd] using a6,rg⟩ (by simp [upd,rdD]) (by simp [upd]) gr.1 gr.2 (by exact li1 (.n (ms w h r.fst r.snd (go w h q r.fst r.snd)) .o) (nat_lit 0x7da4041a3650223) hm) (by exact li1 (.n (out.length) (.n (rs.length) .o)) (nat_lit 0x1f65020e0d14041a365010f0514d1401910223) hln)
  have hst:exs (callX tab (k+1)) b_se (upd σ 7 ⟨rdD r,false⟩)=Ev.ok (.next,σ1):=by
   rw [b_se_eq]
   have eg':callX tab (k+1) f_law_go [.tup [.int w,.int h],.int q,rdD r]=Ev.ok (.int (go w h q r.1 r.2),.pl):=eg
   have hh:=fun r:Fl×Sg=>ai a0 (ai a2 (ai eg' (ai x (Eq.refl r))))
   exact run_eq [.r 0 _,.r 2 _,.d _ _,.f _ _] (hh _)
  obtain⟨σ',out',x',y',z'⟩:=ih out1 σ1 (fun r' h'=>hr r' (by simp [h'])) y (by exact li3 (.n (out1.length) (.n (rs.length) (.n (out.length) (.n (ms w h r.fst r.snd (go w h q r.fst r.snd)) .o)))) (nat_lit 0x1f7df65010f0514e44088d946696365022665010f0514d1401910225) hln hm z)
  refine⟨σ',out',?_,y',by exact li3 (.n (out'.length) (.n (out.length) (.n (rs.length) (.n (ms w h r.fst r.snd (go w h q r.fst r.snd)) (.n (out1.length) .o))))) (nat_lit 0x1f7df6514d14019502248d94539502278d9466927650226) hm z z'⟩
  rw [List.map_cons,forGo_cons,hst];exact x'
end Mine

namespace Mine
theorem p_se:p_law_seen=⟨3,p_law_seen.body.take 7 ++ [.forE 7 (.var 4) b_se,.ret (.var 6)]⟩:=rfl
noncomputable def Board (w h:Int) (cs:List Int):Prop:=Shp w h∧(cs.length:Int)=w * h∧∀ q,0≤q→q < w * h→(cv cs q=0∨Code (cv cs q))∧(cv cs q % 8=1→0 < q / w∧q / w < h - 1)
theorem exs_app (Φ:Nat→List D→Ev (D×Kd)) (a b:List St) (σ:Sg):exs Φ (a ++ b) σ=(exs Φ a σ).bind fun x=>match x.1 with
  | .next=>exs Φ b x.2
  | _=>Ev.ok x:=by
 induction a generalizing σ with
 | nil=>rfl
 | cons s r ih=>
  show(ex Φ s σ).bind _=((ex Φ s σ).bind _).bind _
  cases h:ex Φ s σ with
  | none=>rfl
  | some o=>cases o with
   | bad=>rfl
   | ok x=>
    obtain⟨fl,σ1⟩:=x
    cases fl with
    | next=>show exs Φ (r ++ b) σ1=_;rw [ih];rfl
    | cont=>rfl
    | ret d k=>rfl
end Mine

namespace Mine
noncomputable def roadB (r:Int×Int):Bool:=decide ((r.1=1∨r.1=-1∨r.1=0)∧(r.2=1∨r.2=-1∨r.2=0)∧¬ (r.1=0∧r.2=0))
theorem roads_ok {rs:List (Int×Int)} {K:Int} (h:rs.all roadB=true):∀ r ∈ rs,(K=3∨K=4∨K=5)→Road r.1 r.2:=fun r hr _=>show(r.1=1∨r.1=-1∨r.1=0)∧(r.2=1∨r.2=-1∨r.2=0)∧¬ (r.1=0∧r.2=0) from of_decide_eq_true (List.all_eq_true.1 h r hr)
theorem s_law_seen (k:Nat) {w h:Int} {cs:List Int} (B:Board w h cs) {q:Int} (q0:0≤q) (q1:q < w * h) (hc:Code (cv cs q)):
  ∃ out:List Int,callX tab (k+2) f_law_seen [.tup [.int w,.int h],.lst (cs.map .int),.int q]=Ev.ok (.lst (out.map .int),.fr)∧(∀ x ∈ out,0≤x∧x < w * h)∧out.length≤64∧(cv cs q % 8=1→out.length≤16):=by
 obtain⟨s,hl,hB⟩:=B
 have hsz:w * h≤25:=by rcases s with ⟨e,e'⟩ | ⟨e,e'⟩ | ⟨e,e'⟩ | ⟨e,e'⟩ <;> subst e <;> subst e';exact li0 .o (nat_lit 6263438103823364);exact li0 .o (nat_lit 6263438103827461);exact li0 .o (nat_lit 6263438103819271);exact li0 .o (nat_lit 6263438103823366)
 have es:=sub_ints (cs:=cs) q0 (by exact li2 (.z q (.n (cs.length) (.z (w * h) .o))) (nat_lit 0x1f7d75648d8955917963) q1 hl) (by exact li2 (.n (cs.length) (.z (w * h) .o)) (nat_lit 0x7df6501068d6409064624563) hl hsz)
 have hk:=kd hc
 obtain⟨c,hcc⟩:∃ c,cv cs q=c:=⟨_,rfl⟩
 rw [hcc] at es hk hc
 have fin:∀ (rs:List (Int×Int)) (K:Int) (σ:Sg) (b:Bool),(∀ r ∈ rs,(K=3∨K=4∨K=5)→Road r.1 r.2)→rs.length≤8→(cv cs q % 8=1→rs.length≤2)→SW σ w h cs q K []→σ 4=some ⟨.lst (rs.map rdD),b⟩→
   exs (callX tab (k+1)) (p_law_seen.body.take 7) (start 3 [.tup [.int w,.int h],.lst (cs.map .int),.int q])=Ev.ok (.next,σ)→
   ∃ out:List Int,callX tab (k+2) f_law_seen [.tup [.int w,.int h],.lst (cs.map .int),.int q]=Ev.ok (.lst (out.map .int),.fr)∧(∀ x ∈ out,0≤x∧x < w * h)∧out.length≤64∧(cv cs q % 8=1→out.length≤16):=by
  intro rs K σ b hr hrl hr2 hS h4 h1
  have hit:items (.lst (rs.map rdD))=some (rs.map rdD):=items_lst (by simp;exact li1 (.n (rs.length) .o) (nat_lit 0x1f65000a188063650223) hrl)
  have h2:∃ σf,SW σf w h cs q K []∧ex (callX tab (k+1)) (.forE 7 (.var 4) b_se) σ=forGo (fun d σ=>exs (callX tab (k+1)) b_se (upd σ 7 ⟨d,false⟩)) (rs.map rdD) σf:=by
   obtain⟨a0,a1,a2,a3,a6,rg⟩:=hS
   cases b with
   | true=>exact⟨frz1 σ 4,⟨by simpa [frz1] using a0,by simpa [frz1] using a1,by simpa [frz1] using a2,by simpa [frz1] using a3,by simpa [frz1] using a6,rg⟩,by simp [h_bo,e_var,x_forE,h4,hit,Ev.bind_ok,Ev.of_some]⟩
   | false=>exact⟨σ,⟨a0,a1,a2,a3,a6,rg⟩,by simp [h_pl,e_var,x_forE,h4,hit,Ev.bind_ok,Ev.of_some]⟩
  obtain⟨σf,hSf,h2⟩:=h2
  obtain⟨σ',out,x,y,z⟩:=se_loop k s hl rs [] σf hr hSf (by simp;exact li1 (.n (rs.length) .o) (nat_lit 0x7d94043c14e3408650223) hrl)
  refine⟨out,?_,y.rg,by simp at z;exact li2 (.n (out.length) (.n (rs.length) .o)) (nat_lit 0x1f7d9400123653910223650224) hrl z,fun e=>by have:=hr2 e;simp at z;exact li2 (.n (out.length) (.n (rs.length) .o)) (nat_lit 0x1f7d94000636539102236500a4) this z⟩
  show runF (callX tab (k+1)) p_law_seen [_,_,_]=_
  rw [p_se]
  simp only [runF,List.length_cons,List.length_nil,if_true,exs_app,h1,Ev.bind_ok]
  simp only [s_cons,h2,x,Ev.bind_ok]
  simp [x_ret,s_nil,y.a6,Ev.bind_ok]
 generalize hN:cs.map D.int=N at *
 have l8:=lg8
 have hi:∀ l:List D,l.length≤100→items (.lst l)=some l:=fun l h=>items_lst (by exact li1 (.n (l.length) .o) (nat_lit 0x7d94002862018d94041a3) h)
 have hm:c % 8=1∨c % 8=2∨c % 8=3∨c % 8=4∨c % 8=5∨c % 8=6:=by exact li2 (.z (c % 8) .o) (nat_lit 0x1f7dd75d75d6101a36101636101236100e36100a36100635901a35a3401) hk.1 hk.2
 have ca:(c / 8).natAbs < 4294967296:=by unfold Code at hc;exact li4 (.n ((c / 8).natAbs) (.z c (.z (c / 8) .o))) (nat_lit 0x7df7df6900000000000000635d14084e540891691395021d7185255635d00257189558d695001d71640e91691025c5901a45a4401) hc (lab (c / 8)) (ldi (c) (8)).1 (ldi (c) (8)).2
 rcases hm with m | m | m | m | m | m
 ·refine fin [(1,1 - c / 8 * 2),(-1,1 - c / 8 * 2)] 1 (upd (upd (upd (upd (upd (start 3 [.tup [.int w,.int h],.lst N,.int q]) 3 ⟨.int 1,false⟩) 4 ⟨g_law_roads,false⟩) 5 ⟨.int (1 - c / 8 * 2),false⟩) 4 ⟨.lst [.tup [.int 1,.int (1 - c / 8 * 2)],.tup [.int (-1),.int (1 - c / 8 * 2)]],true⟩) 6 ⟨.lst [],true⟩) true (by simp) (by simp) (by simp) ⟨rfl,by rw [hN];rfl,rfl,rfl,rfl,by simp⟩ rfl ?_
  have d8:bop .fmod (.int c) (.int 8)=some (.int 1,.pl):=by rw [v_fmod (by decide),m]
  have d9:bop .fdiv (.int c) (.int 8)=some (.int (c / 8),.pl):=v_fdiv (by decide) l8
  have d7:bop .mul (.int (c / 8)) (.int 2)=some (.int (c / 8 * 2),.pl):=v_mul ca (by decide)
  clear m
  have hh:=fun r:Fl×Sg=>ai es (ai d8 (ai rt (ai es (ai d9 (ai d7 (ai rf (ai rf (ai rf (Eq.refl r)))))))))
  exact run_eq [.v _,.d _ _,.b true,.v _,.d _ _,.d _ _,.b false,.b false,.b false] (hh _)
 ·refine fin [(1,2),(2,1),(2,-1),(1,-2),(-1,-2),(-2,-1),(-2,1),(-1,2)] 2 (upd (upd (upd (upd (start 3 [.tup [.int w,.int h],.lst N,.int q]) 3 ⟨.int 2,false⟩) 4 ⟨g_law_roads,false⟩) 4 ⟨g_law_jumps,false⟩) 6 ⟨.lst [],true⟩) false (fun _ _ e=>absurd e (by decide)) (by simp) (fun e=>by omega) ⟨rfl,by rw [hN];rfl,rfl,rfl,rfl,by simp⟩ rfl ?_
  have d8:bop .fmod (.int c) (.int 8)=some (.int 2,.pl):=by rw [v_fmod (by decide),m]
  clear m
  have hh:=fun r:Fl×Sg=>ai es (ai d8 (ai rf (ai rt (ai rf (ai rf (Eq.refl r))))))
  exact run_eq [.v _,.d _ _,.b false,.b true,.b false,.b false] (hh _)
 ·refine fin [(1,1),(1,-1),(-1,-1),(-1,1)] 3 (upd (upd (upd (upd (start 3 [.tup [.int w,.int h],.lst N,.int q]) 3 ⟨.int 3,false⟩) 4 ⟨g_law_roads,false⟩) 4 ⟨(.lst [.tup [.int (1),.int (1)],.tup [.int (1),.int (-1)],.tup [.int (-1),.int (-1)],.tup [.int (-1),.int (1)]]),true⟩) 6 ⟨.lst [],true⟩) true (roads_ok rfl) (by simp) (fun e=>by omega) ⟨rfl,by rw [hN];rfl,rfl,rfl,rfl,by simp⟩ rfl ?_
  have d8:bop .fmod (.int c) (.int 8)=some (.int 3,.pl):=by rw [v_fmod (by decide),m]
  clear m
  have hh:=fun r:Fl×Sg=>ai es (ai d8 (ai rf (ai rf (ai rt (ai (Eq.refl (some ((D.lst [D.tup [D.int 1,D.int 1],D.tup [D.int 1,D.int (-1)],D.tup [D.int (-1),D.int (-1)],D.tup [D.int (-1),D.int 1]],Kd.fr):D×Kd))) (ai rf (Eq.refl r)))))))
  exact run_eq [.v _,.d _ _,.b false,.b false,.b true,.d _ _,.b false] (hh _)
 ·refine fin [(0,1),(1,0),(0,-1),(-1,0)] 4 (upd (upd (upd (upd (start 3 [.tup [.int w,.int h],.lst N,.int q]) 3 ⟨.int 4,false⟩) 4 ⟨g_law_roads,false⟩) 4 ⟨(.lst [.tup [.int (0),.int (1)],.tup [.int (1),.int (0)],.tup [.int (0),.int (-1)],.tup [.int (-1),.int (0)]]),true⟩) 6 ⟨.lst [],true⟩) true (roads_ok rfl) (by simp) (fun e=>by omega) ⟨rfl,by rw [hN];rfl,rfl,rfl,rfl,by simp⟩ rfl ?_
  have d8:bop .fmod (.int c) (.int 8)=some (.int 4,.pl):=by rw [v_fmod (by decide),m]
  clear m
  have hh:=fun r:Fl×Sg=>ai es (ai d8 (ai rf (ai rf (ai rf (ai rt (ai (Eq.refl (some ((D.lst [D.tup [D.int 0,D.int 1],D.tup [D.int 1,D.int 0],D.tup [D.int 0,D.int (-1)],D.tup [D.int (-1),D.int 0]],Kd.fr):D×Kd))) (Eq.refl r)))))))
  exact run_eq [.v _,.d _ _,.b false,.b false,.b false,.b true,.d _ _] (hh _)
 ·refine fin [(0,1),(1,0),(0,-1),(-1,0),(1,1),(1,-1),(-1,-1),(-1,1)] 5 (upd (upd (upd (start 3 [.tup [.int w,.int h],.lst N,.int q]) 3 ⟨.int 5,false⟩) 4 ⟨g_law_roads,false⟩) 6 ⟨.lst [],true⟩) false (roads_ok rfl) (by simp) (fun e=>by omega) ⟨rfl,by rw [hN];rfl,rfl,rfl,rfl,by simp⟩ rfl ?_
  have d8:bop .fmod (.int c) (.int 8)=some (.int 5,.pl):=by rw [v_fmod (by decide),m]
  clear m
  have hh:=fun r:Fl×Sg=>ai es (ai d8 (ai rf (ai rf (ai rf (ai rf (Eq.refl r))))))
  exact run_eq [.v _,.d _ _,.b false,.b false,.b false,.b false] (hh _)
 ·refine fin [(0,1),(1,0),(0,-1),(-1,0),(1,1),(1,-1),(-1,-1),(-1,1)] 6 (upd (upd (upd (start 3 [.tup [.int w,.int h],.lst N,.int q]) 3 ⟨.int 6,false⟩) 4 ⟨g_law_roads,false⟩) 6 ⟨.lst [],true⟩) false (roads_ok rfl) (by simp) (fun e=>by omega) ⟨rfl,by rw [hN];rfl,rfl,rfl,rfl,by simp⟩ rfl ?_
  have d8:bop .fmod (.int c) (.int 8)=some (.int 6,.pl):=by rw [v_fmod (by decide),m]
  clear m
  have hh:=fun r:Fl×Sg=>ai es (ai d8 (ai rf (ai rf (ai rf (ai rf (Eq.refl r))))))
  exact run_eq [.v _,.d _ _,.b false,.b false,.b false,.b false] (hh _)
end Mine

namespace Mine
theorem sum_slc (cs:List Int) {a b:Int} (h0:0≤a) (h1:0≤b) (h2:a≤1000) (h3:b≤1000) (hw:cs.length≤1000):∃ l r,slc (.lst (cs.map .int)) (.int a) (.int b)=some (.lst l,.fr)∧fn1 .sum (.lst l)=some (.int r):=by
 have g1:-1000000000 < a∧a < 1000000000:=by exact li2 (.z a .o) (nat_lit 0x7df71740000a30a24b0e35e351000028c2892c359020e0e35a3400) h0 h2
 have g2:¬ a < 0:=by exact li1 (.z a .o) (nat_lit 0x7de5d00235a3400) h0
 have g3:-1000000000 < b∧b < 1000000000:=by exact li2 (.z b .o) (nat_lit 0x7df71740000a30a24b0e35e351000028c2892c359020e0e35a3400) h1 h3
 have g4:¬ b < 0:=by exact li1 (.z b .o) (nat_lit 0x7de5d00235a3400) h1
 have g5:(cs.map D.int).length≤big:=by simp;unfold big;exact li1 (.n (cs.length) .o) (nat_lit 0x7d940000000006365020e0e3) hw
 have e:∀ x y,cut (cs.map D.int) x y=(cut cs x y).map D.int:=by intro x y;unfold cut;rw [← List.map_take,← List.map_drop]
 refine⟨(cut cs (min a.toNat (cs.map D.int).length) (min b.toNat (cs.map D.int).length)).map D.int,(cut cs (min a.toNat (cs.map D.int).length) (min b.toNat (cs.map D.int).length)).sum,?_,?_⟩
 ·simp only [slc_l,clip_i,if_pos g1,if_pos g3,if_neg g2,if_neg g4,if_pos g5,Option.bind_some,e]
 ·rw [f_sum,dInts_map];rfl
theorem MvOk.mk' {w h:Int} {cs:List Int} (B:Board w h cs) {o t s p:Int} (o0:0≤o) (o1:o < w * h) (t0:0≤t) (t1:t < w * h) (sp:(s=0∧p=0)∨(s=1∧2≤p∧p≤5)∨(s=2∧p=0)∨(s=3∧p=0)) (c:Code (cv cs o)):MvOk (w * h) cs ⟨o,t,s,p⟩:=
 ⟨o0,o1,t0,t1,(on_board B.1 o0 o1).2.2.2.2.2.2.2.2,B.2.1,sp,c⟩
end Mine

namespace Mine
noncomputable def b_ct:List St:=forBody p_law_castlings.body[3]?
structure CT (σ:Sg) (w h:Int) (cs:List Int) (sd king:Int) (ms:List Mv):Prop where
 a0:σ 0=some ⟨.tup [.int w,.int h],false⟩
 a1:σ 1=some ⟨.lst (cs.map .int),false⟩
 a2:σ 2=some ⟨.int sd,false⟩
 a3:σ 3=some ⟨.lst (ms.map Mv.d),true⟩
 a5:σ 5=some ⟨.int king,false⟩
 ok:∀ m ∈ ms,MvOk (w * h) cs m
theorem ct_step (k:Nat) {w h:Int} {cs:List Int} (B:Board w h cs) {sd king way corner:Int} (hs:sd=0∨sd=1) (k0:0≤king) (k1:king < w * h) (c0:0≤corner) (c1:corner < w * h) (hw:way=1∨way=-1) {ms:List Mv} {σ:Sg} (hm:ms.length≤10) (H:CT σ w h cs sd king ms):
  ∃ σ' ms',exs (callX tab k) b_ct (upd (upd σ 6 ⟨.int way,false⟩) 7 ⟨.int corner,false⟩)=Ev.ok (.next,σ')∧CT σ' w h cs sd king ms'∧ms'.length≤ms.length + 1:=by
 obtain⟨a0,a1,a2,a3,a5,ok⟩:=H
 have hsz:w * h≤25:=(on_board B.1 k0 k1).2.2.2.2.2.2.2.2
 have hl:=B.2.1
 have e1:=sub_ints (cs:=cs) k0 (by exact li2 (.z king (.n (cs.length) (.z (w * h) .o))) (nat_lit 0x1f7d75648d8955917963) k1 hl) (by exact li2 (.n (cs.length) (.z (w * h) .o)) (nat_lit 0x7df6501068d89158d6409064) hsz hl)
 have e2:=sub_ints (cs:=cs) c0 (by exact li2 (.z corner (.n (cs.length) (.z (w * h) .o))) (nat_lit 0x1f7d75648d8955917963) c1 hl) (by exact li2 (.n (cs.length) (.z (w * h) .o)) (nat_lit 0x7df6501068d89158d6409064) hsz hl)
 obtain⟨goal,hg⟩:∃ g,king + 2 * way=g:=⟨_,rfl⟩
 have n1:way.natAbs < 4294967296:=by exact li2 (.n (way.natAbs) (.z way .o)) (nat_lit 0x7df69000000000000006375c6149158d740091c6245635a4400758510064610064) hw (lab (way))
 have n2:(corner - goal).natAbs < 4294967296:=by exact li8 (.n ((corner - goal).natAbs) (.z king (.z (w * h) (.z corner (.z way (.z goal .o)))))) (nat_lit 0x1f7df7df7df7da4000000000000018dd718512a265635d0012a267184a89958d64a8990018a114e74029164090657585100676100675e59969900179645a4400) k0 k1 c0 c1 hw hsz hg (lab (corner - goal))
 have n3:sd.natAbs < 4294967296:=by exact li2 (.n (sd.natAbs) (.z sd .o)) (nat_lit 0x1f7da4000000000000018dd7185245635d00247189158d691001d610064610024) hs (lab (sd))
 have e3:bop .mul (.int 2) (.int way)=some (.int (2 * way),.pl):=by rw [b_mul,if_pos ⟨by decide,n1⟩]
 have e4:bop .mul (.int (corner - goal)) (.int way)=some (.int ((corner - goal) * way),.pl):=by rw [b_mul,if_pos ⟨n2,n1⟩]
 obtain⟨P,hP⟩:∃ P,(corner - goal) * way=P:=⟨_,rfl⟩
 rw [hP] at e4
 obtain⟨l,r,s1,s2⟩:=sum_slc cs (a:=(if corner < king then corner else king) + 1) (b:=if king < corner then corner else king) (by split;exact li1 (.z corner .o) (nat_lit 0x7d64500634005a3400) c0;exact li1 (.z king .o) (nat_lit 0x7d64500634005a3400) k0) (by split;exact li1 (.z corner .o) (nat_lit 8824903668741120) c0;exact li1 (.z king .o) (nat_lit 8824903668741120) k0) (by split;exact li2 (.z corner (.z (w * h) .o)) (nat_lit 0x1f7d6408383450063590241917923) c1 hsz;exact li2 (.z king (.z (w * h) .o)) (nat_lit 0x1f7d6408383450063590241917923) k1 hsz) (by split;exact li2 (.z corner (.z (w * h) .o)) (nat_lit 0x7df59020e0e3590241917923) c1 hsz;exact li2 (.z king (.z (w * h) .o)) (nat_lit 0x7df59020e0e3590241917923) k1 hsz) (by exact li2 (.n (cs.length) (.z (w * h) .o)) (nat_lit 0x1f7d94083838d89158d6409064) hsz hl)
 have hb:(ms.map Mv.d).length < big:=by simp;unfold big;exact li1 (.n (ms.length) .o) (nat_lit 0x7da4000000000636502a3) hm
 obtain⟨σ8,h8⟩:∃ σ8,upd (upd (upd σ 6 ⟨.int way,false⟩) 7 ⟨.int corner,false⟩) 8 ⟨.int goal,false⟩=σ8:=⟨_,rfl⟩
 have keep:CT σ8 w h cs sd king ms:=by
  rw [← h8];exact⟨by simpa [upd] using a0,by simpa [upd] using a1,by simpa [upd] using a2,by simpa [upd] using a3,by simpa [upd] using a5,ok⟩
 by_cases q1:cv cs king=8 * sd + 6
 ·by_cases q2:cv cs corner=8 * sd + 4
  ·by_cases q3:0 < P
   ·by_cases q4:r=0
    ·have gr:0≤goal∧goal < w * h:=by
      rcases hw with e | e <;> subst e;exact li5 (.z goal (.z (w * h) (.z king (.z corner (.z P .o))))) (nat_lit 0x1f7df7df7179235a34006274d00528e66234534014029579d00179265a5400) k0 c1 q3 hg hP;exact li5 (.z goal (.z (w * h) (.z king (.z corner (.z P .o))))) (nat_lit 0x1f7df7df7179235a34006274d44014a39988d14d44014029579d0016990017925) k1 c0 q3 hg hP
     have okm:MvOk (w * h) cs ⟨king,goal,3,0⟩:=MvOk.mk' B k0 k1 gr.1 gr.2 (by exact li0 .o (nat_lit 0x1d75d7184004006100d00dc61001001840240371c5901500164004026100500dc610010018400403)) (by unfold Code;exact li2 (.z (cv cs king) (.z sd .o)) (nat_lit 0x1f7dd71640e8d68d025c5901a35a34016114064e44088dd610064610024) hs q1)
     refine⟨upd σ8 3 ⟨.lst (ms.map Mv.d ++ [Mv.d ⟨king,goal,3,0⟩]),true⟩,ms ++ [⟨king,goal,3,0⟩],?_,⟨?_,?_,?_,?_,?_,?_⟩,by simp⟩
     ·rw [← h8]
      generalize ms.map Mv.d=N at *
      generalize cs.map D.int=M at *
      have hh:=fun r:Fl×Sg=>ai a5 (ai e3 (ai a1 (ai a5 (ai e1 (ai a2 (ai (@v_mul (8) (sd) (by decide) n3) (ai (asb_t q1) (ai a1 (ai e2 (ai a2 (ai (@v_mul (8) (sd) (by decide) n3) (ai (asb_t q2) (ai (@v_mul (corner - (king + 2 * way)) (way) (li7 (.n ((corner - (king + 2 * way)).natAbs) (.z corner (.z (w * h) (.z king (.z way (.z goal .o)))))) (nat_lit 0x7df7df7df7da4000000000000018dd7185124539d00a69158d74004914e74029a47184914e74029a45635924539d00a69100179685a84006284539d00a65902419579645a4400) c0 c1 hsz hg gr.1 gr.2 (lab (corner - (king + 2 * way)))) n1) (ai (asb_t (show 0 < (corner - (king + 2 * way)) * way from(by (simp [b_ct,forBody,p_law_castlings,a0,a1,a2,a3,a5,e1,e2,e3,e4,hg,n3,q1,q2,q3,q4,s1,s2,hb,Mv.d];omega)))) (ai a1 (ai a5 (ai (@f_min (king) (corner)) (ai a5 (ai (@f_max (king) (corner)) (ai s1 (ai s2 (ai (asb_t q4) (ai a3 (ai a5 (ai hb (Eq.refl r))))))))))))))))))))))))))
      exact Eq.trans (run_eq (r:=(Fl.next,upd (upd (upd (upd σ 6 { d:=D.int way,own:=false }) 7 { d:=D.int corner,own:=false }) 8 { d:=D.int (king + 2 * way),own:=false }) 3 { d:=D.lst (N ++ [D.tup [D.int king,D.int (king + 2 * way),D.int 3,D.int 0]]),own:=true })) [.r 5 _,.d _ _,.r 1 _,.r 5 _,.v _,.r 2 _,.d _ _,.b true,.r 1 _,.v _,.r 2 _,.d _ _,.b true,.d _ _,.b true,.r 1 _,.r 5 _,.v _,.r 5 _,.v _,.d _ _,.v _,.b true,.r 3 _,.r 5 _] (hh _)) (by simp [b_ct,forBody,p_law_castlings,a0,a1,a2,a3,a5,e1,e2,e3,e4,hg,n3,q1,q2,q3,q4,s1,s2,hb,Mv.d])
     ·simpa [upd] using keep.a0
     ·simpa [upd] using keep.a1
     ·simpa [upd] using keep.a2
     ·simp [upd]
     ·simpa [upd] using keep.a5
     ·intro m hmm;rw [List.mem_append,List.mem_singleton] at hmm;rcases hmm with x | x
      ·exact ok m x
      ·rw [x];exact okm
    ·refine⟨σ8,ms,?_,keep,by exact li0 (.n (ms.length) .o) (nat_lit 27132958947)⟩
     rw [← h8]
     generalize ms.map Mv.d=N at *
     generalize cs.map D.int=M at *
     have hh:=fun r:Fl×Sg=>ai a5 (ai e3 (ai a1 (ai a5 (ai e1 (ai a2 (ai (@v_mul (8) (sd) (by decide) n3) (ai (asb_t q1) (ai a1 (ai e2 (ai a2 (ai (@v_mul (8) (sd) (by decide) n3) (ai (asb_t q2) (ai (@v_mul (corner - (king + 2 * way)) (way) (li4 (.n ((corner - (king + 2 * way)).natAbs) (.z king (.z way (.z goal (.n ((corner - goal).natAbs) (.z corner .o)))))) (nat_lit 0x7df7df69000000000000006375c6144a6a159d74004a6a1c6129a85675929a840075c6144914e54029285635d00124539500a4a1c6124539500a4a158d64914e54029284006900000000000000676264539500a4) hg n2 (lab (corner - (king + 2 * way))) (lab (corner - goal))) n1) (ai (asb_t (show 0 < (corner - (king + 2 * way)) * way from(by (simp [b_ct,forBody,p_law_castlings,a0,a1,a2,a3,a5,e1,e2,e3,e4,hg,n3,q1,q2,q3,q4,s1,s2];omega)))) (ai a1 (ai a5 (ai (@f_min (king) (corner)) (ai a5 (ai (@f_max (king) (corner)) (ai s1 (ai s2 (ai (asb_f q4) (Eq.refl r)))))))))))))))))))))))
     exact Eq.trans (run_eq (r:=(Fl.next,upd (upd (upd σ 6 { d:=D.int way,own:=false }) 7 { d:=D.int corner,own:=false }) 8 { d:=D.int (king + 2 * way),own:=false })) [.r 5 _,.d _ _,.r 1 _,.r 5 _,.v _,.r 2 _,.d _ _,.b true,.r 1 _,.v _,.r 2 _,.d _ _,.b true,.d _ _,.b true,.r 1 _,.r 5 _,.v _,.r 5 _,.v _,.d _ _,.v _,.b false] (hh _)) (by rw [hg])
   ·refine⟨σ8,ms,?_,keep,by exact li0 (.n (ms.length) .o) (nat_lit 27132958947)⟩
    rw [← h8]
    generalize cs.map D.int=M at *
    have hh:=fun r:Fl×Sg=>ai a5 (ai e3 (ai a1 (ai a5 (ai e1 (ai a2 (ai (@v_mul (8) (sd) (by decide) n3) (ai (asb_t q1) (ai a1 (ai e2 (ai a2 (ai (@v_mul (8) (sd) (by decide) n3) (ai (asb_t q2) (ai (@v_mul (corner - (king + 2 * way)) (way) (li4 (.n ((corner - (king + 2 * way)).natAbs) (.z king (.z way (.z goal (.n ((corner - goal).natAbs) (.z corner .o)))))) (nat_lit 0x7df7df69000000000000006375c6144a6a159d74004a6a1c6129a85675929a840075c6144914e54029285635d00124539500a4a1c6124539500a4a158d64914e54029284006900000000000000676264539500a4) hg n2 (lab (corner - (king + 2 * way))) (lab (corner - goal))) n1) (ai (asb_f (show ¬0 < (corner - (king + 2 * way)) * way from(by (simp [b_ct,forBody,p_law_castlings,a0,a1,a2,a3,a5,e1,e2,e3,e4,hg,n3,q1,q2,q3];omega)))) (Eq.refl r)))))))))))))))
    exact Eq.trans (run_eq (r:=(Fl.next,upd (upd (upd σ 6 { d:=D.int way,own:=false }) 7 { d:=D.int corner,own:=false }) 8 { d:=D.int (king + 2 * way),own:=false })) [.r 5 _,.d _ _,.r 1 _,.r 5 _,.v _,.r 2 _,.d _ _,.b true,.r 1 _,.v _,.r 2 _,.d _ _,.b true,.d _ _,.b false] (hh _)) (by rw [hg])
  ·refine⟨σ8,ms,?_,keep,by exact li0 (.n (ms.length) .o) (nat_lit 27132958947)⟩
   rw [← h8]
   generalize cs.map D.int=M at *
   have hh:=fun r:Fl×Sg=>ai a5 (ai e3 (ai a1 (ai a5 (ai e1 (ai a2 (ai (@v_mul (8) (sd) (by decide) n3) (ai (asb_t q1) (ai a1 (ai e2 (ai a2 (ai (@v_mul (8) (sd) (by decide) n3) (ai (asb_f q2) (ai rf (Eq.refl r))))))))))))))
   exact Eq.trans (run_eq (r:=(Fl.next,upd (upd (upd σ 6 { d:=D.int way,own:=false }) 7 { d:=D.int corner,own:=false }) 8 { d:=D.int (king + 2 * way),own:=false })) [.r 5 _,.d _ _,.r 1 _,.r 5 _,.v _,.r 2 _,.d _ _,.b true,.r 1 _,.v _,.r 2 _,.d _ _,.b false,.b false] (hh _)) (by rw [hg])
 ·refine⟨σ8,ms,?_,keep,by exact li0 (.n (ms.length) .o) (nat_lit 27132958947)⟩
  rw [← h8]
  generalize cs.map D.int=M at *
  have hh:=fun r:Fl×Sg=>ai a5 (ai e3 (ai a1 (ai a5 (ai e1 (ai a2 (ai (@v_mul (8) (sd) (by decide) n3) (ai (asb_f q1) (ai rf (Eq.refl r)))))))))
  exact Eq.trans (run_eq (r:=(Fl.next,upd (upd (upd σ 6 { d:=D.int way,own:=false }) 7 { d:=D.int corner,own:=false }) 8 { d:=D.int (king + 2 * way),own:=false })) [.r 5 _,.d _ _,.r 1 _,.r 5 _,.v _,.r 2 _,.d _ _,.b false,.b false] (hh _)) (by rw [hg])
end Mine

namespace Mine
theorem p_ct:p_law_castlings=⟨3,[
 .asg 3 (.lst []),
 .asg 4 (.bin .mul (.var 2) (.bin .sub (.fn1 .len (.var 1)) (.idx (.var 0) (.lit (.int 0))))),
 .asg 5 (.bin .add (.var 4) (.bin .fdiv (.idx (.var 0) (.lit (.int 0))) (.lit (.int 2)))),
 .forT [6,7] (.tup [(.tup [(.lit (.int 1)),(.bin .sub (.bin .add (.var 4) (.idx (.var 0) (.lit (.int 0)))) (.lit (.int 1)))]),(.tup [(.neg (.lit (.int 1))),(.var 4)])]) b_ct,
 .ret (.var 3)]⟩:=rfl
theorem s_law_castlings (k:Nat) {w h:Int} {cs:List Int} (B:Board w h cs) {sd:Int} (hs:sd=0∨sd=1):
  ∃ ms:List Mv,callX tab (k+1) f_law_castlings [.tup [.int w,.int h],.lst (cs.map .int),.int sd]=Ev.ok (.lst (ms.map Mv.d),.fr)∧(∀ m ∈ ms,MvOk (w * h) cs m)∧ms.length≤2:=by
 obtain⟨s,hl,hB⟩:=id B
 obtain⟨n,hn⟩:∃ n,w * h=n:=⟨_,rfl⟩
 have hsz:n≤25∧w≤n∧0 < w∧w≤7:=by rw [← hn];rcases s with ⟨e,e'⟩ | ⟨e,e'⟩ | ⟨e,e'⟩ | ⟨e,e'⟩ <;> subst e <;> subst e';exact li0 .o (nat_lit 0x71c7164074045d01100164d0110110116409053404404);exact li0 .o (nat_lit 0x71c7164074055d01500164d0150150156409053405405);exact li0 .o (nat_lit 0x71c7164074075d01d00164d00d01d01d6409053403407);exact li0 .o (nat_lit 0x71c7164074065d01900164d0110190196409053404406)
 obtain⟨home,hh⟩:∃ home,sd * (n - w)=home:=⟨_,rfl⟩
 have hho:0≤home∧home + w≤n:=by
  rw [← hh];rcases hs with e | e <;> subst e;exact li1 (.z n (.z w .o)) (nat_lit 0x7dc5a34644d29234005934a48d00100168e4) hsz.2.1;exact li1 (.z n (.z w .o)) (nat_lit 0x7dc5a34644d29234015934a48d00500168e4) hsz.2.1
 have e1:bop .mul (.int sd) (.int (n - w))=some (.int home,.pl):=by rw [b_mul,if_pos ⟨by exact li2 (.n (sd.natAbs) (.z sd .o)) (nat_lit 0x1f7da4000000000000018dd7185245635d00247189158d691001d610064610024) hs (lab (sd)),by exact li4 (.n ((n - w).natAbs) (.z n (.z w .o))) (nat_lit 0x7df7df69000000000000006375c6144a59158d74004a591c6129645635929644005e54005a4956409064) hsz.1 hsz.2.1 hsz.2.2.1 (lab (n - w))⟩,hh]
 have hfl:fn1 .len (.lst (cs.map .int))=some (.int n):=by
  rw [f_lenl,if_pos (by simp only [List.length_map];unfold big;exact li3 (.n (cs.length) (.z (w * h) (.z n .o))) (nat_lit 0x7df7d9400000000063590241958964624563) hl hn hsz.1),List.length_map,hl,hn]
 have s0:∀ a b:Int,sub (.tup [.int a,.int b]) (.int 0)=some (.int a):=fun _ _=>rfl
 have g2:=lg2
 obtain⟨king,hk⟩:∃ king,home + w / 2=king:=⟨_,rfl⟩
 have hkb:0≤king∧king < n:=by exact li6 (.z king (.z n (.z w (.z home (.z (w / 2) .o))))) (nat_lit 0x1f7df7df7dc5e48d68d00174500939d00a55a54e74026234679969119665a64005e5400) hsz.2.2.1 hho.1 hho.2 hk (ldi (w) (2)).1 (ldi (w) (2)).2
 obtain⟨cor,hc⟩:∃ cor,home + w - 1=cor:=⟨_,rfl⟩
 obtain⟨σ0,hσ⟩:∃ σ0,upd (upd (upd (start 3 [.tup [.int w,.int h],.lst (cs.map .int),.int sd]) 3 ⟨.lst [],true⟩) 4 ⟨.int home,false⟩) 5 ⟨.int king,false⟩=σ0:=⟨_,rfl⟩
 have H0:CT σ0 w h cs sd king []:=by
  rw [← hσ];exact⟨rfl,rfl,rfl,rfl,rfl,by simp⟩
 obtain⟨σ1,m1,x1,H1,l1⟩:=ct_step k B (way:=1) (corner:=cor) hs hkb.1 (by exact li2 (.z king (.z (w * h) (.z n .o))) (nat_lit 0x1f7d79235e58d8964) hn hkb.2) (by exact li3 (.z cor (.z w (.z home .o))) (nat_lit 0x1f7df5a34006234900519255a54005e4400) hsz.2.2.1 hho.1 hc) (by exact li3 (.z cor (.z (w * h) (.z n (.z home (.z w .o))))) (nat_lit 0x7df7d79236234900519e65a5467998964) hn hho.2 hc) (by exact li0 .o (nat_lit 0x758510050058401401)) (by simp) H0
 obtain⟨σ2,m2,x2,H2,l2⟩:=ct_step k B (way:=-1) (corner:=home) hs hkb.1 (by exact li2 (.z king (.z (w * h) (.z n .o))) (nat_lit 0x1f7d79235e58d8964) hn hkb.2) (by exact li1 (.z home .o) (nat_lit 8824903668741120) hho.1) (by exact li3 (.z home (.z (w * h) (.z n (.z w .o)))) (nat_lit 0x7df7d79235a54668d7990018964) hn hsz.2.2.1 hho.2) (by exact li0 .o (nat_lit 0x758510054401610054401)) (by simp at l1;exact li1 (.n (m1.length) .o) (nat_lit 8836786283675747) l1) H1
 have z0:=H0.a0
 have z4:σ0 4=some ⟨.int home,false⟩:=by rw [← hσ];rfl
 refine⟨m2,?_,H2.ok,by simp at l1;exact li2 (.n (m2.length) (.n (m1.length) .o)) (nat_lit 0x7df6500a3650064651401923) l2 l1⟩
 have a3:=H2.a3
 have hi:∀ l:List D,l.length≤100→items (.tup l)=some l:=fun l hx=>by
  have:l.length≤big:=by unfold big;exact li1 (.n (l.length) .o) (nat_lit 0x1f6500000000018d94041a3) hx
  simp [items,this]
 show runF (callX tab k) p_law_castlings [_,_,_]=_
 generalize m2.map Mv.d=N at *
 generalize cs.map D.int=M at *
 simp [b_add,b_sub,b_fdiv,frz_pl,tr_pl,h_pl,ba_nil,ba_cons,e_lit,e_var,e_bin,e_neg,e_fn1,e_idx,e_tup,e_lst,e_nil,e_cons,x_asg,x_ret,x_forT,s_nil,s_cons,runF,start,Ev.bind_ok,Ev.of_some,upd,List.mapM_cons,p_ct,hfl,s0,e1,g2,hk,hc,hσ,hi,forGo_cons,forGo_nil,x1,x2,a3,z0,z4]
end Mine

namespace Mine
noncomputable def b_pg:List St:=forBody p_law_pawn_goals.body[1]?
noncomputable def t_pg:List St:=p_law_pawn_goals.body.drop 2
theorem p_pg:p_law_pawn_goals=⟨5,[
 .asg 5 (.lst []),
 .forE 6 (.call f_law_seen [(.var 0),(.var 1),(.var 2)]) b_pg] ++ t_pg⟩:=rfl
structure PG (σ:Sg) (w h:Int) (cs:List Int) (o sd ep:Int) (ms:List Mv):Prop where
 a0:σ 0=some ⟨.tup [.int w,.int h],false⟩
 a1:σ 1=some ⟨.lst (cs.map .int),false⟩
 a2:σ 2=some ⟨.int o,false⟩
 a3:σ 3=some ⟨.int sd,false⟩
 a4:σ 4=some ⟨.int ep,false⟩
 a5:σ 5=some ⟨.lst (ms.map Mv.d),true⟩
 ok:∀ m ∈ ms,MvOk (w * h) cs m
theorem mv_snoc {n:Int} {cs:List Int} {ms:List Mv} {x:Mv} (h:∀ m ∈ ms,MvOk n cs m) (hx:MvOk n cs x):∀ m ∈ ms ++ [x],MvOk n cs m:=by
 intro m hm;rw [List.mem_append,List.mem_singleton] at hm;rcases hm with y | y
 ·exact h m y
 ·rw [y];exact hx
theorem PG.add {σ:Sg} {w h:Int} {cs:List Int} {o sd ep:Int} {ms:List Mv} (H:PG σ w h cs o sd ep ms) {x:Mv} (hx:MvOk (w * h) cs x):PG (upd σ 5 ⟨.lst (ms.map Mv.d ++ [x.d]),true⟩) w h cs o sd ep (ms ++ [x]):=by
 obtain⟨a0,a1,a2,a3,a4,a5,ok⟩:=H
 exact⟨by simpa [upd] using a0,by simpa [upd] using a1,by simpa [upd] using a2,by simpa [upd] using a3,by simpa [upd] using a4,by simp [upd],mv_snoc ok hx⟩
theorem PG.up {σ:Sg} {w h:Int} {cs:List Int} {o sd ep:Int} {ms:List Mv} (H:PG σ w h cs o sd ep ms) (i:Nat) (hi:5 < i) (c:Cell):PG (upd σ i c) w h cs o sd ep ms:=by
 obtain⟨a0,a1,a2,a3,a4,a5,ok⟩:=H
 have e:∀ j,j≤5→upd σ i c j=σ j:=fun j hj=>upd_ne σ c (by simp;exact li2 (.n j (.n i .o)) (nat_lit 0x7df79b9236501636a4405) hi hj)
 exact⟨by rw [e 0 (by exact li0 .o (nat_lit 423646208))];exact a0,by rw [e 1 (by exact li0 .o (nat_lit 423646209))];exact a1,by rw [e 2 (by exact li0 .o (nat_lit 423646210))];exact a2,by rw [e 3 (by exact li0 .o (nat_lit 423646211))];exact a3,by rw [e 4 (by exact li0 .o (nat_lit 423646212))];exact a4,by rw [e 5 (by exact li0 .o (nat_lit 423646213))];exact a5,ok⟩
theorem pg_loop (k:Nat) {w h:Int} {cs:List Int} (B:Board w h cs) {o sd ep:Int} (o0:0≤o) (o1:o < w * h) (hc:Code (cv cs o)):∀ (ts:List Int) (ms:List Mv) (σ:Sg),(∀ x ∈ ts,0≤x∧x < w * h)→PG σ w h cs o sd ep ms→ms.length + ts.length≤200→
  ∃ (σ':Sg) (ms':List Mv),forGo (fun d σ=>exs (callX tab (k+1)) b_pg (upd σ 6 ⟨d,false⟩)) (ts.map .int) σ=Ev.ok (.next,σ')∧PG σ' w h cs o sd ep ms'∧ms'.length≤ms.length + ts.length:=by
 intro ts
 induction ts with
 | nil=>intro ms σ _ H _;exact⟨σ,ms,rfl,H,by simp⟩
 | cons t r ih=>
  intro ms σ hr H hln
  simp only [List.length_cons] at hln ⊢
  obtain⟨t0,t1⟩:=hr t (by simp)
  have hsz:w * h≤25:=(on_board B.1 o0 o1).2.2.2.2.2.2.2.2
  have hl:=B.2.1
  have es:=sub_ints (cs:=cs) t0 (by exact li2 (.z t (.n (cs.length) (.z (w * h) .o))) (nat_lit 0x1f7d75648d8955917963) t1 hl) (by exact li2 (.n (cs.length) (.z (w * h) .o)) (nat_lit 0x7df6501068d89158d6409064) hsz hl)
  have H':=H.up 6 (by exact li0 .o (nat_lit 440427525)) ⟨.int t,false⟩
  have l8:=lg8
  have hb:(ms.map Mv.d).length < big:=by simp;unfold big;exact li1 (.n (ms.length) (.n (r.length) .o)) (nat_lit 0x7da40000000006365020c451401923) hln
  obtain⟨a0,a1,a2,a3,a4,a5,ok⟩:=id H
  have stp:∃ (σ1:Sg) (m1:List Mv),exs (callX tab (k+1)) b_pg (upd σ 6 ⟨.int t,false⟩)=Ev.ok (.next,σ1)∧PG σ1 w h cs o sd ep m1∧m1.length≤ms.length + 1:=by
   by_cases q1:t=ep
   ·refine⟨_,ms ++ [⟨o,t,2,0⟩],?_,H'.add (MvOk.mk' B o0 o1 t0 t1 (by exact li0 .o (nat_lit 0x1d75d7184004006100d009c61001001840240271c59015001640040261005009c610010018400402)) hc),by simp⟩
    generalize ms.map Mv.d=N at *
    generalize cs.map D.int=M at *
    have hh:=fun r:Fl×Sg=>ai a4 (ai (asb_t q1) (ai a5 (ai a2 (ai hb (Eq.refl r)))))
    exact run_eq [.r 4 _,.b true,.r 5 _,.r 2 _] (hh _)
   ·by_cases q2:cv cs t=0
    ·refine⟨_,ms,?_,H',by exact li0 (.n (ms.length) .o) (nat_lit 27132958947)⟩
     generalize ms.map Mv.d=N at *
     generalize cs.map D.int=M at *
     have hh:=fun r:Fl×Sg=>ai a4 (ai (asb_f q1) (ai a1 (ai es (ai (asb_nt q2) (ai rf (Eq.refl r))))))
     exact run_eq [.r 4 _,.b false,.r 1 _,.v _,.b false,.b false] (hh _)
    ·by_cases q3:cv cs t / 8=sd
     ·refine⟨_,ms,?_,H',by exact li0 (.n (ms.length) .o) (nat_lit 27132958947)⟩
      generalize ms.map Mv.d=N at *
      generalize cs.map D.int=M at *
      have hh:=fun r:Fl×Sg=>ai a4 (ai (asb_f q1) (ai a1 (ai es (ai (asb_nf q2) (ai a1 (ai es (ai (@v_fdiv (cv cs t) (8) (by decide) (by decide)) (ai a3 (ai (asb_nt q3) (Eq.refl r))))))))))
      exact run_eq [.r 4 _,.b false,.r 1 _,.v _,.b true,.r 1 _,.v _,.d _ _,.r 3 _,.b false] (hh _)
     ·refine⟨_,ms ++ [⟨o,t,0,0⟩],?_,H'.add (MvOk.mk' B o0 o1 t0 t1 (by exact li0 .o (nat_lit 0x1d75d7184004006100d001c61001001840240071c59015001640040261005001c610010018400400)) hc),by simp⟩
      generalize ms.map Mv.d=N at *
      generalize cs.map D.int=M at *
      have hh:=fun r:Fl×Sg=>ai a4 (ai (asb_f q1) (ai a1 (ai es (ai (asb_nf q2) (ai a1 (ai es (ai (@v_fdiv (cv cs t) (8) (by decide) (by decide)) (ai a3 (ai (asb_nf q3) (ai a5 (ai a2 (ai hb (Eq.refl r)))))))))))))
      exact run_eq [.r 4 _,.b false,.r 1 _,.v _,.b true,.r 1 _,.v _,.d _ _,.r 3 _,.b true,.r 5 _,.r 2 _] (hh _)
  obtain⟨σ1,m1,x1,H1,l1⟩:=stp
  obtain⟨σ2,m2,x2,H2,l2⟩:=ih m1 σ1 (fun x hx=>hr x (by simp [hx])) H1 (by exact li2 (.n (m1.length) (.n (r.length) (.n (ms.length) .o))) (nat_lit 0x1f7d940831192365140196365020c451401925) hln l1)
  refine⟨σ2,m2,?_,H2,by exact li2 (.n (m2.length) (.n (ms.length) (.n (r.length) (.n (m1.length) .o)))) (nat_lit 0x1f7d94514019648d94659a3651401926) l1 l2⟩
  rw [List.map_cons,forGo_cons,x1];exact x2
theorem c_shape (w h:Int):cop .eq (.tup [.int w,.int h]) (.tup [.int 5,.int 5])=some (decide (w=5∧h=5)):=by
 have:deq (.tup [.int w,.int h]) (.tup [.int 5,.int 5])=decide (w=5∧h=5):=by
  rw [Bool.eq_iff_iff];simp [deq,deqs]
 show(if eqOk 8 (.tup [.int w,.int h]) && eqOk 8 (.tup [.int 5,.int 5]) then some (deq (.tup [.int w,.int h]) (.tup [.int 5,.int 5])) else Option.none)=_
 rw [this];rfl
theorem go_nn {w h q dx dy:Int} (c:0≤q % w + dx∧q % w + dx < w∧0≤q / w + dy∧q / w + dy < h):0≤go w h q dx dy:=by
 unfold go
 rw [if_pos c]
 exact Int.add_nonneg (Int.mul_nonneg c.2.2.1 (by exact li2 (.z w (.z (q % w) (.z dx .o))) (nat_lit 0x1f7d68d00178d1964591964400) c.1 c.2.1)) c.1
theorem pg_tail (k:Nat) {w h:Int} {cs:List Int} (B:Board w h cs) {o sd ep:Int} (hs:sd=0∨sd=1) (o0:0≤o) (o1:o < w * h) (hc:Code (cv cs o)) (hp:cv cs o % 8=1) {ms:List Mv} {σ:Sg} (H:PG σ w h cs o sd ep ms) (hln:ms.length≤100):
  ∃ ms':List Mv,(exs (callX tab (k+1)) t_pg σ).bind fin=Ev.ok (.lst (ms'.map Mv.d),.fr)∧(∀ m ∈ ms',MvOk (w * h) cs m)∧ms'.length≤ms.length + 2:=by
 have hsz:w * h≤25:=(on_board B.1 o0 o1).2.2.2.2.2.2.2.2
 have hl:=B.2.1
 have hr:=(B.2.2 o o0 o1).2 hp
 have l5:=lg5
 have s2:sd.natAbs < 4294967296:=by exact li2 (.n (sd.natAbs) (.z sd .o)) (nat_lit 0x1f7da4000000000000018dd7185245635d00247189158d691001d610064610024) hs (lab (sd))
 obtain⟨up,hup⟩:∃ up,1 - 2 * sd=up:=⟨_,rfl⟩
 have eg:=s_law_go k (w:=w) (h:=h) (q:=o) (dx:=0) (dy:=up) B.1
 have gr:=@go_range w h o 0 up B.1
 obtain⟨b0,b1,b2,b3,bw,_⟩:=on_board B.1 o0 o1
 have c0:0≤o % w + 0∧o % w + 0 < w∧0≤o / w + up∧o / w + up < h:=by exact li6 (.z (o % w) (.z w (.z (o / w) (.z up (.z h (.z sd .o)))))) (nat_lit 0x7df7df7df71c7179d19a55919a54005e44500235914008d00179235a3400626493a1009005749006795795001d610068610028) hs hr.1 hr.2 hup b0 b1
 have g0:=go_nn c0
 have hgo:go w h o 0 up=(o / w + up) * w + (o % w + 0):=if_pos c0
 obtain⟨t,ht⟩:∃ t,go w h o 0 up=t:=⟨_,rfl⟩
 have g5:w=5→h=5→o / 5=1 + 2 * sd→0≤go w h t 0 up:=by
  intro e e' e3
  obtain⟨t1,t2⟩:=(sq_iff c0.1 c0.2.1 (y:=o / w + up)).2 (ht.symm.trans hgo)
  subst e;subst e'
  refine go_nn ⟨?_,?_,?_,?_⟩;exact li2 (.z (t % 5) (.z (t / 5) (.z t .o))) (nat_lit 0x1f7d64500234005a54e44056124e4405963) (lmi (t) (5)).2.2 (ldi (t) (5)).1;exact li2 (.z (t % 5) (.z (t / 5) (.z t .o))) (nat_lit 0x7df5d01514008d74501539101656124e4405963) (lmi (t) (5)).2.2 (ldi (t) (5)).2;exact li4 (.z (t / 5) (.z up (.z sd (.z (o / 5) .o)))) (nat_lit 0x7df7df5919234005d24014059984649a36114e54024019989124e5402401) hup e3 t2 hr.2;exact li4 (.z (t / 5) (.z up (.z sd (.z (o / 5) .o)))) (nat_lit 0x1f7df7d74054648d79900184649a36114e54024019989124e5402401) hup e3 t2 hr.1
 rw [ht] at eg gr g0
 have eg2:=s_law_go k (w:=w) (h:=h) (q:=t) (dx:=0) (dy:=up) B.1
 have gr2:=@go_range w h t 0 up B.1
 obtain⟨t2,ht2⟩:∃ t2,go w h t 0 up=t2:=⟨_,rfl⟩
 rw [ht2] at eg2 gr2 g5
 have es:=sub_ints (cs:=cs) g0 (by exact li2 (.z t (.n (cs.length) (.z (w * h) .o))) (nat_lit 0x1f7d75648d7963625564) hl gr.2) (by exact li2 (.n (cs.length) (.z (w * h) .o)) (nat_lit 0x7df6501068d89158d6409064) hsz hl)
 obtain⟨a0,a1,a2,a3,a4,a5,ok⟩:=id H
 have ok1:MvOk (w * h) cs ⟨o,t,0,0⟩:=MvOk.mk' B o0 o1 g0 gr.2 (by exact li0 .o (nat_lit 0x1d75d7184004006100d001c61001001840240071c59015001640040261005001c610010018400400)) hc
 have hb:(ms.map Mv.d).length < big:=by simp;unfold big;exact li1 (.n (ms.length) .o) (nat_lit 0x1f6900000000018d94041a3) hln
 have hb1:(ms.map Mv.d).length + 1 < big:=by simp;unfold big;exact li1 (.n (ms.length) .o) (nat_lit 0x7da4000000000514018d94041a3) hln
 have d1:bop .mul (.int 2) (.int sd)=some (.int (2 * sd),.pl):=v_mul (by decide) s2
 have x0:ex (callX tab (k+1)) (s_at t_pg 0) σ=Ev.ok (.next,upd σ 7 ⟨.tup [.int 0,.int up],false⟩):=by
  clear es eg2 eg g5
  subst hup
  have hh:=fun r:Fl×Sg=>ai a3 (ai d1 (Eq.refl r))
  exact one_eq [.r 3 _,.d _ _] (hh _)
 have x1:ex (callX tab (k+1)) (s_at t_pg 1) (upd σ 7 ⟨.tup [.int 0,.int up],false⟩)=Ev.ok (.next,upd (upd σ 7 ⟨.tup [.int 0,.int up],false⟩) 6 ⟨.int t,false⟩):=by
  clear es eg2 g5 x0
  have hh:=fun r:Fl×Sg=>ai a0 (ai a2 (ai eg (Eq.refl r)))
  exact one_eq [.r 0 _,.r 2 _,.d _ _] (hh _)
 have go:∀ {R},(exs (callX tab (k+1)) [s_at t_pg 2,s_at t_pg 3] (upd (upd σ 7 ⟨.tup [.int 0,.int up],false⟩) 6 ⟨.int t,false⟩)).bind fin=R→(exs (callX tab (k+1)) t_pg σ).bind fin=R:=fun h=>(congrArg (Ev.bind · fin) ((exs_cons1 x0).trans (exs_cons1 x1))).trans h
 clear x0 x1
 by_cases q1:cv cs t=0
 ·by_cases q2:w=5∧h=5
  ·obtain⟨rfl,rfl⟩:=q2
   by_cases q3:o / 5=1 + 2 * sd
   ·have g6:=g5 rfl rfl q3
    have es2:=sub_ints (cs:=cs) g6 (by exact li2 (.z t2 (.n (cs.length) .o)) (nat_lit 0x1f7d75648d74d0150163613405405564) hl gr2.2) (by exact li1 (.n (cs.length) .o) (nat_lit 0x7d94041a3613405405563) hl)
    have ok2:MvOk (5 * 5) cs ⟨o,t2,0,0⟩:=MvOk.mk' B o0 o1 g6 gr2.2 (by exact li0 .o (nat_lit 0x1d75d7184004006100d001c61001001840240071c59015001640040261005001c610010018400400)) hc
    by_cases q4:cv cs t2=0
    ·refine⟨(ms ++ [⟨o,t,0,0⟩]) ++ [⟨o,t2,0,0⟩],?_,mv_snoc (mv_snoc ok ok1) ok2,by simp⟩
     simp only [List.map_append,List.map_cons,List.map_nil]
     generalize ms.map Mv.d=N at *
     generalize cs.map D.int=M at *
     refine go ?_
     have hh:=fun r:Ev (D×Kd)=>ai a1 (ai es (ai (asb_t q1) (ai a5 (ai a2 (ai hb (ai a0 (ai (@c_shape (5) (5)) (ai rt (ai a2 (ai (@v_fdiv (o) (5) (by decide) (by decide)) (ai a3 (ai d1 (ai (asb_t q3) (ai a0 (ai eg2 (ai a1 (ai es2 (ai (asb_t q4) (ai a2 (ai (show(N ++ [D.tup [D.int o,D.int t,D.int 0,D.int 0]]).length < big from(by simp [t_pg,fin_ret,p_law_pawn_goals,a0,a1,a2,a3,a4,a5,s2,hup,eg,eg2,es,es2,c_shape,q1,q3,q4,l5,hb,hb1,Mv.d])) (Eq.refl r)))))))))))))))))))))
     exact fin_eq [.r 1 _,.v _,.b true,.r 5 _,.r 2 _,.r 0 _,.b true,.b true,.r 2 _,.d _ _,.r 3 _,.d _ _,.b true,.r 0 _,.d _ _,.r 1 _,.v _,.b true,.r 2 _] (hh _)
    ·refine⟨ms ++ [⟨o,t,0,0⟩],?_,mv_snoc ok ok1,by simp⟩
     simp only [List.map_append,List.map_cons,List.map_nil]
     generalize ms.map Mv.d=N at *
     generalize cs.map D.int=M at *
     refine go ?_
     have hh:=fun r:Ev (D×Kd)=>ai a1 (ai es (ai (asb_t q1) (ai a5 (ai a2 (ai hb (ai a0 (ai (@c_shape (5) (5)) (ai rt (ai a2 (ai (@v_fdiv (o) (5) (by decide) (by decide)) (ai a3 (ai d1 (ai (asb_t q3) (ai a0 (ai eg2 (ai a1 (ai es2 (ai (asb_f q4) (Eq.refl r)))))))))))))))))))
     exact fin_eq [.r 1 _,.v _,.b true,.r 5 _,.r 2 _,.r 0 _,.b true,.b true,.r 2 _,.d _ _,.r 3 _,.d _ _,.b true,.r 0 _,.d _ _,.r 1 _,.v _,.b false] (hh _)
   ·refine⟨ms ++ [⟨o,t,0,0⟩],?_,mv_snoc ok ok1,by simp⟩
    simp only [List.map_append,List.map_cons,List.map_nil]
    generalize ms.map Mv.d=N at *
    generalize cs.map D.int=M at *
    refine go ?_
    have hh:=fun r:Ev (D×Kd)=>ai a1 (ai es (ai (asb_t q1) (ai a5 (ai a2 (ai hb (ai a0 (ai (@c_shape (5) (5)) (ai rt (ai a2 (ai (@v_fdiv (o) (5) (by decide) (by decide)) (ai a3 (ai d1 (ai (asb_f q3) (Eq.refl r))))))))))))))
    exact fin_eq [.r 1 _,.v _,.b true,.r 5 _,.r 2 _,.r 0 _,.b true,.b true,.r 2 _,.d _ _,.r 3 _,.d _ _,.b false] (hh _)
  ·refine⟨ms ++ [⟨o,t,0,0⟩],?_,mv_snoc ok ok1,by simp⟩
   simp only [List.map_append,List.map_cons,List.map_nil]
   generalize ms.map Mv.d=N at *
   generalize cs.map D.int=M at *
   refine go ?_
   have hh:=fun r:Ev (D×Kd)=>ai a1 (ai es (ai (asb_t q1) (ai a5 (ai a2 (ai hb (ai a0 (ai (@c_shape (w) (h)) (ai (asb_f q2) (ai rf (Eq.refl r))))))))))
   exact fin_eq [.r 1 _,.v _,.b true,.r 5 _,.r 2 _,.r 0 _,.b _,.b false,.b false] (hh _)
 ·refine⟨ms,?_,ok,by exact li0 (.n (ms.length) .o) (nat_lit 27132963043)⟩
  generalize ms.map Mv.d=N at *
  generalize cs.map D.int=M at *
  refine go ?_
  have hh:=fun r:Ev (D×Kd)=>ai a1 (ai es (ai (asb_f q1) (ai a5 (Eq.refl r))))
  exact fin_eq [.r 1 _,.v _,.b false,.r 5 _] (hh _)
end Mine

namespace Mine
theorem s_law_pawn_goals (k:Nat) {w h:Int} {cs:List Int} (B:Board w h cs) {o sd ep:Int} (hs:sd=0∨sd=1) (o0:0≤o) (o1:o < w * h) (hc:Code (cv cs o)) (hp:cv cs o % 8=1):
  ∃ ms:List Mv,callX tab (k+3) f_law_pawn_goals [.tup [.int w,.int h],.lst (cs.map .int),.int o,.int sd,.int ep]=Ev.ok (.lst (ms.map Mv.d),.fr)∧(∀ m ∈ ms,MvOk (w * h) cs m)∧ms.length≤18:=by
 obtain⟨out,e,hr,hl,hl2⟩:=s_law_seen k B o0 o1 hc
 have hl3:=hl2 hp
 obtain⟨σ1,m1,x1,H1,l1⟩:=pg_loop (k+1) B (o:=o) (sd:=sd) (ep:=ep) o0 o1 hc out [] (upd (start 5 [.tup [.int w,.int h],.lst (cs.map .int),.int o,.int sd,.int ep]) 5 ⟨.lst [],true⟩) hr ⟨rfl,rfl,rfl,rfl,rfl,rfl,by simp⟩ (by simp;exact li1 (.n (out.length) .o) (nat_lit 0x1f65020c8d9400063) hl3)
 obtain⟨m2,x2,ok2,l2⟩:=pg_tail (k+1) B hs o0 o1 hc hp H1 (by simp at l1;exact li2 (.n (m1.length) (.n (out.length) .o)) (nat_lit 0x1f7d94041a36648d9400064) hl3 l1)
 refine⟨m2,?_,ok2,by simp at l1;exact li3 (.n (m2.length) (.n (out.length) (.n (m1.length) .o))) (nat_lit 0x7df7d94020636649594500a58d9400064) hl3 l2 l1⟩
 have hi:items (.lst (out.map .int))=some (out.map .int):=items_lst (by simp;exact li1 (.n (out.length) .o) (nat_lit 0x7d94002862018d9400063) hl3)
 show runF (callX tab (k+2)) p_law_pawn_goals [_,_,_,_,_]=_
 rw [runF_fin _ _ _ rfl,p_pg]
 show(exs _ (_ ++ t_pg) _).bind fin=_
 rw [exs_app]
 have:exs (callX tab (k+2)) [.asg 5 (.lst []),.forE 6 (.call f_law_seen [(.var 0),(.var 1),(.var 2)]) b_pg] (start 5 [.tup [.int w,.int h],.lst (cs.map .int),.int o,.int sd,.int ep])=Ev.ok (.next,σ1):=by
  generalize cs.map D.int=M at *
  have hh:=fun r:Fl×Sg=>ai e (ai hi (ai x1 (Eq.refl r)))
  exact run_eq [.d _ _,.l _,.f _ _] (hh _)
 show((exs (callX tab (k+2)) [.asg 5 (.lst []),.forE 6 (.call f_law_seen [(.var 0),(.var 1),(.var 2)]) b_pg] (start 5 [.tup [.int w,.int h],.lst (cs.map .int),.int o,.int sd,.int ep])).bind _).bind fin=_
 rw [this]
 exact x2
end Mine

namespace Mine
noncomputable def b_mo:List St:=forBody p_law_moves.body[1]?
noncomputable def b_mp:List St:=match b_mo with
 | [_,.iff _ [.forE _ _ b] _]=>b
 | _=>[]
noncomputable def b_mq:List St:=match b_mo with
 | [_,.iff _ _ [.forE _ _ b]]=>b
 | _=>[]
theorem b_mo_eq:b_mo=[
  .iff (.or (.cmp .eq (.idx (.var 1) (.var 5)) (.lit (.int 0))) (.cmp .ne (.bin .fdiv (.idx (.var 1) (.var 5)) (.lit (.int 8))) (.var 2))) [
   .cont] [],
  .iff (.cmp .eq (.bin .fmod (.idx (.var 1) (.var 5)) (.lit (.int 8))) (.lit (.int 1))) [
   .forE 6 (.call f_law_pawn_goals [(.var 0),(.var 1),(.var 5),(.var 2),(.var 3)]) b_mp] [
   .forE 7 (.call f_law_seen [(.var 0),(.var 1),(.var 5)]) b_mq]]:=rfl
theorem p_mo:p_law_moves=⟨4,[
 .asg 4 (.call f_law_castlings [(.var 0),(.var 1),(.var 2)]),
 .forR 5 .non (.fn1 .len (.var 1)) b_mo,
 .ret (.var 4)]⟩:=rfl
structure MV (σ:Sg) (w h:Int) (cs:List Int) (sd ep:Int) (ms:List Mv):Prop where
 a0:σ 0=some ⟨.tup [.int w,.int h],false⟩
 a1:σ 1=some ⟨.lst (cs.map .int),false⟩
 a2:σ 2=some ⟨.int sd,false⟩
 a3:σ 3=some ⟨.int ep,false⟩
 a4:σ 4=some ⟨.lst (ms.map Mv.d),true⟩
 ok:∀ m ∈ ms,MvOk (w * h) cs m
theorem MV.up {σ:Sg} {w h:Int} {cs:List Int} {sd ep:Int} {ms:List Mv} (H:MV σ w h cs sd ep ms) (i:Nat) (hi:4 < i) (c:Cell):MV (upd σ i c) w h cs sd ep ms:=by
 obtain⟨a0,a1,a2,a3,a4,ok⟩:=H
 have e:∀ j,j≤4→upd σ i c j=σ j:=fun j hj=>upd_ne σ c (by simp;exact li2 (.n j (.n i .o)) (nat_lit 0x7df79b9236501236a4404) hi hj)
 exact⟨by rw [e 0 (by exact li0 .o (nat_lit 423642112))];exact a0,by rw [e 1 (by exact li0 .o (nat_lit 423642113))];exact a1,by rw [e 2 (by exact li0 .o (nat_lit 423642114))];exact a2,by rw [e 3 (by exact li0 .o (nat_lit 423642115))];exact a3,by rw [e 4 (by exact li0 .o (nat_lit 423642116))];exact a4,ok⟩
theorem MV.add {σ:Sg} {w h:Int} {cs:List Int} {sd ep:Int} {ms:List Mv} (H:MV σ w h cs sd ep ms) (xs:List Mv) (hx:∀ m ∈ xs,MvOk (w * h) cs m):MV (upd σ 4 ⟨.lst (ms.map Mv.d ++ xs.map Mv.d),true⟩) w h cs sd ep (ms ++ xs):=by
 obtain⟨a0,a1,a2,a3,a4,ok⟩:=H
 exact⟨by simpa [upd] using a0,by simpa [upd] using a1,by simpa [upd] using a2,by simpa [upd] using a3,by simp [upd],fun m hm=>(List.mem_append.1 hm).elim (ok m) (hx m)⟩
theorem mp_step (k:Nat) {w h:Int} {cs:List Int} (B:Board w h cs) {o sd ep:Int} (hs:sd=0∨sd=1) (o0:0≤o) (o1:o < w * h) (hc:Code (cv cs o)) {g:Mv} {ms:List Mv} {σ:Sg} (hg:MvOk (w * h) cs g) (H:MV σ w h cs sd ep ms) (h5:σ 5=some ⟨.int o,false⟩) (hln:ms.length≤90000):
  ∃ (σ':Sg) (xs:List Mv),exs (callX tab k) b_mp (upd σ 6 ⟨g.d,false⟩)=Ev.ok (.next,σ')∧MV σ' w h cs sd ep (ms ++ xs)∧σ' 5=some ⟨.int o,false⟩∧xs.length≤4:=by
 have w0:0 < w:=(on_board B.1 o0 o1).2.2.2.2.1
 have hl:=shp_log B.1
 have s0:∀ a b:Int,sub (.tup [.int a,.int b]) (.int 0)=some (.int a):=fun _ _=>rfl
 have s1:∀ a b:Int,sub (.tup [.int a,.int b]) (.int 1)=some (.int b):=fun _ _=>rfl
 have d1:sub g.d (.int 1)=some (.int g.t):=rfl
 obtain⟨la,hla⟩:∃ la,(1 - sd) * (h - 1)=la:=⟨_,rfl⟩
 have e1:bop .mul (.int (1 - sd)) (.int (h - 1))=some (.int la,.pl):=by
  have:=(on_board B.1 o0 o1);rw [b_mul,if_pos ⟨by exact li2 (.n ((1 - sd).natAbs) (.z sd .o)) (nat_lit 0x1f7da4000000000000018dd7185129100558d74004a44017184a440156359291005001d610064610024) hs (lab (1 - sd)),by exact li3 (.n ((h - 1).natAbs) (.z h .o)) (nat_lit 0x1f7df69000000000000006375c6144900645635d001240191c6124019158d64900644005e4400590164) this.2.2.2.2.2.2.1 this.2.2.2.2.2.2.2.1 (lab (h - 1))⟩,hla]
 obtain⟨G,hG⟩:∃ G,g.d=G:=⟨_,rfl⟩
 rw [hG] at d1 ⊢
 have H':=H.up 6 (by exact li0 .o (nat_lit 440427524)) ⟨G,false⟩
 obtain⟨a0,a1,a2,a3,a4,ok⟩:=id H
 by_cases q:g.t / w=la
 ·have hit:items (.tup [.int 2,.int 3,.int 4,.int 5])=some [.int 2,.int 3,.int 4,.int 5]:=by rfl
  have e2:bop .add (.lst (ms.map Mv.d)) (.lst ([⟨o,g.t,1,2⟩,⟨o,g.t,1,3⟩,⟨o,g.t,1,4⟩,⟨o,g.t,1,5⟩].map Mv.d))=some (.lst (ms.map Mv.d ++ [⟨o,g.t,1,2⟩,⟨o,g.t,1,3⟩,⟨o,g.t,1,4⟩,⟨o,g.t,1,5⟩].map Mv.d),.fr):=by
   rw [b_addl,if_pos];simp;unfold big;exact li1 (.n (ms.length) .o) (nat_lit 0x1f6500000000014501236500093c5063) hln
  refine⟨_,[⟨o,g.t,1,2⟩,⟨o,g.t,1,3⟩,⟨o,g.t,1,4⟩,⟨o,g.t,1,5⟩],?_,H'.add _ ?_,?_,by simp⟩
  ·simp only [List.map_cons,List.map_nil,Mv.d] at e2 ⊢
   generalize ms.map Mv.d=N at *
   generalize cs.map D.int=M at *
   have hh:=fun r:Fl×Sg=>ai d1 (ai a0 (ai (@s0 (w) (h)) (ai (@v_fdiv (g.t) (w) w0 hl) (ai a2 (ai a0 (ai (@s1 (w) (h)) (ai e1 (ai (asb_t q) (ai a4 (ai (show ev (callX tab k) ((X.tup [X.var 5,(X.var 6).idx (X.lit (D.int 1)),X.lit (D.int 1),X.var 100]).comp 100 false (X.tup [X.lit (D.int 2),X.lit (D.int 3),X.lit (D.int 4),X.lit (D.int 5)]) X.non) (upd σ 6 { d:=G,own:=false })=Ev.ok (D.lst [D.tup [D.int o,D.int g.t,D.int 1,D.int 2],D.tup [D.int o,D.int g.t,D.int 1,D.int 3],D.tup [D.int o,D.int g.t,D.int 1,D.int 4],D.tup [D.int o,D.int g.t,D.int 1,D.int 5]],Kd.fr) by simp [frz_pl,tr_pl,e_lit,e_var,e_idx,e_tup,e_nil,e_cons,n_non,Ev.bind_ok,Ev.of_some,upd,List.mapM_cons,e_comp,h5,d1,hit,cg_nil,cg_cons,Ev.calm_ok]) (ai e2 (Eq.refl r))))))))))))
   exact run_eq [.v _,.r 0 _,.v _,.d _ _,.r 2 _,.r 0 _,.v _,.d _ _,.b true,.r 4 _,.d _ _,.d _ _] (hh _)
  ·intro m hm
   simp only [List.mem_cons,List.not_mem_nil,or_false] at hm
   rcases hm with e | e | e | e <;> rw [e] <;> exact MvOk.mk' B o0 o1 hg.t0 hg.t1 (by (first | exact li0 .o (nat_lit 0x1d75d7184004026100d005c61001009840240171c59015009640240261005005c610010098400401) (q:=by kernel_rfl!) | exact li0 .o (nat_lit 0x1d75d7184004036100d005c6100100d840240171c5901500d640340261005005c6100100d8400401) (q:=by kernel_rfl!) | exact li0 .o (nat_lit 0x1d75d7184004046100d005c61001011840240171c59015011640440261005005c610010118400401) (q:=by kernel_rfl!) | exact li0 .o (nat_lit 0x1d75d7184004056100d005c61001015840240171c59015015640540261005005c610010158400401) (q:=by kernel_rfl!))) hc
  ·simpa [upd] using h5
 ·have hb:(ms.map Mv.d).length < big:=by simp;unfold big;exact li1 (.n (ms.length) .o) (nat_lit 0x7da4000000000636500093c5063) hln
  refine⟨_,[g],?_,H'.add _ (by simpa using hg),?_,by simp⟩
  ·generalize ms.map Mv.d=N at *
   generalize cs.map D.int=M at *
   have hh:=fun r:Fl×Sg=>ai d1 (ai a0 (ai (@s0 (w) (h)) (ai (@v_fdiv (g.t) (w) w0 hl) (ai a2 (ai a0 (ai (@s1 (w) (h)) (ai e1 (ai (asb_f q) (ai a4 (ai hb (Eq.refl r)))))))))))
   exact Eq.trans (run_eq (r:=(Fl.next,upd (upd σ 6 { d:=G,own:=false }) 4 { d:=D.lst (N ++ [G]),own:=true })) [.v _,.r 0 _,.v _,.d _ _,.r 2 _,.r 0 _,.v _,.d _ _,.b false,.r 4 _] (hh _)) (by simp [hG])
  ·simpa [upd] using h5
theorem mp_loop (k:Nat) {w h:Int} {cs:List Int} (B:Board w h cs) {o sd ep:Int} (hs:sd=0∨sd=1) (o0:0≤o) (o1:o < w * h) (hc:Code (cv cs o)):∀ (gs ms:List Mv) (σ:Sg),(∀ m ∈ gs,MvOk (w * h) cs m)→MV σ w h cs sd ep ms→σ 5=some ⟨.int o,false⟩→ms.length + 4 * gs.length≤80000→
  ∃ (σ':Sg) (ms':List Mv),forGo (fun d σ=>exs (callX tab k) b_mp (upd σ 6 ⟨d,false⟩)) (gs.map Mv.d) σ=Ev.ok (.next,σ')∧MV σ' w h cs sd ep ms'∧ms'.length≤ms.length + 4 * gs.length:=by
 intro gs
 induction gs with
 | nil=>intro ms σ _ H _ _;exact⟨σ,ms,rfl,H,by simp⟩
 | cons g r ih=>
  intro ms σ hg H h5 hln
  simp only [List.length_cons] at hln ⊢
  obtain⟨σ1,xs,x1,H1,h51,l1⟩:=mp_step k B hs o0 o1 hc (hg g (by simp)) H h5 (by exact li1 (.n (ms.length) (.n (r.length) .o)) (nat_lit 0x1f6500093c50636500082030514d1401910123) hln)
  obtain⟨σ2,m2,x2,H2,l2⟩:=ih (ms ++ xs) σ1 (fun m hm=>hg m (by simp [hm])) H1 h51 (by rw [List.length_append];exact li2 (.n (ms.length) (.n (xs.length) (.n (r.length) .o))) (nat_lit 0x1f7d94002080c14539501119236501246500082030514d1401950123) hln l1)
  refine⟨σ2,m2,?_,H2,by rw [List.length_append] at l2;exact li2 (.n (m2.length) (.n (ms.length) (.n (r.length) (.n (xs.length) .o)))) (nat_lit 0x1f7d94534500654049236514e5404466923650126) l1 l2⟩
  rw [List.map_cons,forGo_cons,x1];exact x2
theorem mq_loop (k:Nat) {w h:Int} {cs:List Int} (B:Board w h cs) {o sd ep:Int} (o0:0≤o) (o1:o < w * h) (hc:Code (cv cs o)):∀ (ts:List Int) (ms:List Mv) (σ:Sg),(∀ x ∈ ts,0≤x∧x < w * h)→MV σ w h cs sd ep ms→σ 5=some ⟨.int o,false⟩→ms.length + ts.length≤80000→
  ∃ (σ':Sg) (ms':List Mv),forGo (fun d σ=>exs (callX tab k) b_mq (upd σ 7 ⟨d,false⟩)) (ts.map .int) σ=Ev.ok (.next,σ')∧MV σ' w h cs sd ep ms'∧ms'.length≤ms.length + ts.length:=by
 intro ts
 induction ts with
 | nil=>intro ms σ _ H _ _;exact⟨σ,ms,rfl,H,by simp⟩
 | cons t r ih=>
  intro ms σ hr H h5 hln
  simp only [List.length_cons] at hln ⊢
  obtain⟨t0,t1⟩:=hr t (by simp)
  have hsz:w * h≤25:=(on_board B.1 o0 o1).2.2.2.2.2.2.2.2
  have hl:=B.2.1
  have es:=sub_ints (cs:=cs) t0 (by exact li2 (.z t (.n (cs.length) (.z (w * h) .o))) (nat_lit 0x1f7d75648d8955917963) t1 hl) (by exact li2 (.n (cs.length) (.z (w * h) .o)) (nat_lit 0x7df6501068d89158d6409064) hsz hl)
  have H':=H.up 7 (by exact li0 .o (nat_lit 440431620)) ⟨.int t,false⟩
  have l8:=lg8
  have hb:(ms.map Mv.d).length < big:=by simp;unfold big;exact li1 (.n (ms.length) (.n (r.length) .o)) (nat_lit 0x1f6900000000018d94002080c1451401923) hln
  obtain⟨a0,a1,a2,a3,a4,ok⟩:=id H
  have ok1:MvOk (w * h) cs ⟨o,t,0,0⟩:=MvOk.mk' B o0 o1 t0 t1 (by exact li0 .o (nat_lit 0x1d75d7184004006100d001c61001001840240071c59015001640040261005001c610010018400400)) hc
  have stp:∃ (σ1:Sg) (m1:List Mv),exs (callX tab k) b_mq (upd σ 7 ⟨.int t,false⟩)=Ev.ok (.next,σ1)∧MV σ1 w h cs sd ep m1∧σ1 5=some ⟨.int o,false⟩∧m1.length≤ms.length + 1:=by
   by_cases q2:cv cs t=0
   ·refine⟨_,ms ++ [⟨o,t,0,0⟩],?_,H'.add _ (by simpa using ok1),by simpa [upd] using h5,by simp⟩
    generalize ms.map Mv.d=N at *
    generalize cs.map D.int=M at *
    have hh:=fun r:Fl×Sg=>ai a1 (ai es (ai (asb_t q2) (ai rt (ai a4 (ai h5 (ai hb (Eq.refl r)))))))
    exact run_eq [.r 1 _,.v _,.b true,.b true,.r 4 _,.r 5 _] (hh _)
   ·by_cases q3:cv cs t / 8=sd
    ·refine⟨_,ms,?_,H',by simpa [upd] using h5,by exact li0 (.n (ms.length) .o) (nat_lit 27132958947)⟩
     generalize ms.map Mv.d=N at *
     generalize cs.map D.int=M at *
     have hh:=fun r:Fl×Sg=>ai a1 (ai es (ai (asb_f q2) (ai a1 (ai es (ai (@v_fdiv (cv cs t) (8) (by decide) (by decide)) (ai a2 (ai (asb_nt q3) (Eq.refl r))))))))
     exact run_eq [.r 1 _,.v _,.b false,.r 1 _,.v _,.d _ _,.r 2 _,.b false] (hh _)
    ·refine⟨_,ms ++ [⟨o,t,0,0⟩],?_,H'.add _ (by simpa using ok1),by simpa [upd] using h5,by simp⟩
     generalize ms.map Mv.d=N at *
     generalize cs.map D.int=M at *
     have hh:=fun r:Fl×Sg=>ai a1 (ai es (ai (asb_f q2) (ai a1 (ai es (ai (@v_fdiv (cv cs t) (8) (by decide) (by decide)) (ai a2 (ai (asb_nf q3) (ai a4 (ai h5 (ai hb (Eq.refl r)))))))))))
     exact run_eq [.r 1 _,.v _,.b false,.r 1 _,.v _,.d _ _,.r 2 _,.b true,.r 4 _,.r 5 _] (hh _)
  obtain⟨σ1,m1,x1,H1,h51,l1⟩:=stp
  obtain⟨σ2,m2,x2,H2,l2⟩:=ih m1 σ1 (fun x hx=>hr x (by simp [hx])) H1 h51 (by exact li2 (.n (m1.length) (.n (r.length) (.n (ms.length) .o))) (nat_lit 0x1f7d94002080c14648d94500658d94002080c1451401925) hln l1)
  refine⟨σ2,m2,?_,H2,by exact li2 (.n (m2.length) (.n (ms.length) (.n (r.length) (.n (m1.length) .o)))) (nat_lit 0x1f7d94514019648d94659a3651401926) l1 l2⟩
  rw [List.map_cons,forGo_cons,x1];exact x2
end Mine

namespace Mine
theorem mo_step (k:Nat) {w h:Int} {cs:List Int} (B:Board w h cs) {o sd ep:Int} (hs:sd=0∨sd=1) (o0:0≤o) (o1:o < w * h) {ms:List Mv} {σ:Sg} (H0:MV σ w h cs sd ep ms) (hln:ms.length≤70000):
  ∃ (fl:Fl) (σ':Sg) (ms':List Mv),exs (callX tab (k+3)) b_mo (upd σ 5 ⟨.int o,false⟩)=Ev.ok (fl,σ')∧(fl=.next∨fl=.cont)∧MV σ' w h cs sd ep ms'∧ms'.length≤ms.length + 72:=by
 have hsz:w * h≤25:=(on_board B.1 o0 o1).2.2.2.2.2.2.2.2
 have hl:=B.2.1
 have es:=sub_ints (cs:=cs) o0 (by exact li2 (.z o (.n (cs.length) (.z (w * h) .o))) (nat_lit 0x1f7d75648d8955917963) o1 hl) (by exact li2 (.n (cs.length) (.z (w * h) .o)) (nat_lit 0x7df6501068d89158d6409064) hsz hl)
 have H:=H0.up 5 (by exact li0 .o (nat_lit 440423428)) ⟨.int o,false⟩
 have h5:upd σ 5 ⟨.int o,false⟩ 5=some ⟨.int o,false⟩:=upd_same _ _ _
 generalize upd σ 5 ⟨.int o,false⟩=τ at *
 obtain⟨a0,a1,a2,a3,a4,ok⟩:=id H
 have l8:=lg8
 by_cases q1:cv cs o=0
 ·refine⟨.cont,τ,ms,?_,.inr rfl,H,by exact li0 (.n (ms.length) .o) (nat_lit 1736511080675)⟩
  generalize cs.map D.int=M at *
  have hh:=fun r:Fl×Sg=>ai a1 (ai h5 (ai (show sub (D.lst M) (D.int o)=some (D.int 0) from by rw [← q1];exact es) (ai rt (ai rt (Eq.refl r)))))
  exact run_eq [.r 1 _,.r 5 _,.v _,.b true,.b true] (hh _)
 ·have hc:Code (cv cs o):=((B.2.2 o o0 o1).1).resolve_left q1
  by_cases q2:cv cs o / 8=sd
  ·by_cases q3:cv cs o % 8=1
   ·obtain⟨gs,e,okg,lg⟩:=s_law_pawn_goals k B (ep:=ep) hs o0 o1 hc q3
    obtain⟨σ1,m1,x1,H1,l1⟩:=mp_loop (k+3) B hs o0 o1 hc gs ms τ okg H h5 (by exact li2 (.n (ms.length) (.n (gs.length) .o)) (nat_lit 0x7df6500082030514e44048d9402064650007041063) hln lg)
    refine⟨.next,σ1,m1,?_,.inl rfl,H1,by exact li2 (.n (m1.length) (.n (ms.length) (.n (gs.length) .o))) (nat_lit 0x7df6514081248d94539501248d9402065) lg l1⟩
    have hi:items (.lst (gs.map Mv.d))=some (gs.map Mv.d):=items_lst (by simp;exact li1 (.n (gs.length) .o) (nat_lit 0x7d94002862018d9402063) lg)
    generalize gs.map Mv.d=G at *
    generalize cs.map D.int=M at *
    have hh:=fun r:Fl×Sg=>ai a1 (ai h5 (ai es (ai (asb_f q1) (ai a1 (ai h5 (ai es (ai (show bop Bop.fdiv (D.int (cv cs o)) (D.int 8)=some (D.int sd,Kd.pl) from by rw [← q2];exact(@v_fdiv (cv cs o) (8) (by decide) (by decide))) (ai a2 (ai (asb_nt (show sd=sd from(li0 (.z sd .o) (nat_lit 100579)))) (ai a1 (ai h5 (ai es (ai (show bop Bop.fmod (D.int (cv cs o)) (D.int 8)=some (D.int 1,Kd.pl) from by rw [← q3];exact(@v_fmod (cv cs o) (8) (by decide))) (ai rt (ai a0 (ai a1 (ai h5 (ai a2 (ai a3 (ai e (ai hi (ai x1 (Eq.refl r)))))))))))))))))))))))
    exact run_eq [.r 1 _,.r 5 _,.v _,.b false,.r 1 _,.r 5 _,.v _,.d _ _,.r 2 _,.b false,.r 1 _,.r 5 _,.v _,.d _ _,.b true,.r 0 _,.r 1 _,.r 5 _,.r 2 _,.r 3 _,.d _ _,.l _,.f _ _] (hh _)
   ·obtain⟨ts,e,okt,lt,lt2⟩:=s_law_seen (k+1) B o0 o1 hc
    obtain⟨σ1,m1,x1,H1,l1⟩:=mq_loop (k+3) B o0 o1 hc ts ms τ okt H h5 (by exact li2 (.n (ms.length) (.n (ts.length) .o)) (nat_lit 0x1f7d94002080c14648d9400124650007041063) hln lt)
    refine⟨.next,σ1,m1,?_,.inl rfl,H1,by exact li2 (.n (m1.length) (.n (ms.length) (.n (ts.length) .o))) (nat_lit 0x1f7d94502049236519648d9400125) lt l1⟩
    have hi:items (.lst (ts.map D.int))=some (ts.map D.int):=items_lst (by simp;exact li1 (.n (ts.length) .o) (nat_lit 0x7d94002862018d9400123) lt)
    generalize ts.map D.int=G at *
    generalize cs.map D.int=M at *
    have hh:=fun r:Fl×Sg=>ai a1 (ai h5 (ai es (ai (asb_f q1) (ai a1 (ai h5 (ai es (ai (show bop Bop.fdiv (D.int (cv cs o)) (D.int 8)=some (D.int sd,Kd.pl) from by rw [← q2];exact(@v_fdiv (cv cs o) (8) (by decide) (by decide))) (ai a2 (ai (asb_nt (show sd=sd from(li0 (.z sd .o) (nat_lit 100579)))) (ai a1 (ai h5 (ai es (ai (@v_fmod (cv cs o) (8) (by decide)) (ai (asb_f q3) (ai a0 (ai a1 (ai h5 (ai e (ai hi (ai x1 (Eq.refl r)))))))))))))))))))))
    exact run_eq [.r 1 _,.r 5 _,.v _,.b false,.r 1 _,.r 5 _,.v _,.d _ _,.r 2 _,.b false,.r 1 _,.r 5 _,.v _,.d _ _,.b false,.r 0 _,.r 1 _,.r 5 _,.d _ _,.l _,.f _ _] (hh _)
  ·refine⟨.cont,τ,ms,?_,.inr rfl,H,by exact li0 (.n (ms.length) .o) (nat_lit 1736511080675)⟩
   generalize cs.map D.int=M at *
   have hh:=fun r:Fl×Sg=>ai a1 (ai h5 (ai es (ai (asb_f q1) (ai a1 (ai h5 (ai es (ai (@v_fdiv (cv cs o) (8) (by decide) (by decide)) (ai a2 (ai (asb_nf q2) (Eq.refl r))))))))))
   exact run_eq [.r 1 _,.r 5 _,.v _,.b false,.r 1 _,.r 5 _,.v _,.d _ _,.r 2 _,.b true] (hh _)
theorem mo_loop (k:Nat) {w h:Int} {cs:List Int} (B:Board w h cs) {sd ep:Int} (hs:sd=0∨sd=1):∀ (os:List Int) (ms:List Mv) (σ:Sg),(∀ x ∈ os,0≤x∧x < w * h)→MV σ w h cs sd ep ms→ms.length + 72 * os.length≤60000→
  ∃ (σ':Sg) (ms':List Mv),forGo (fun d σ=>exs (callX tab (k+3)) b_mo (upd σ 5 ⟨d,false⟩)) (os.map .int) σ=Ev.ok (.next,σ')∧MV σ' w h cs sd ep ms'∧ms'.length≤ms.length + 72 * os.length:=by
 intro os
 induction os with
 | nil=>intro ms σ _ H _;exact⟨σ,ms,rfl,H,by simp⟩
 | cons t r ih=>
  intro ms σ hr H hln
  simp only [List.length_cons] at hln ⊢
  obtain⟨t0,t1⟩:=hr t (by simp)
  obtain⟨fl,σ1,m1,x1,hf,H1,l1⟩:=mo_step k B hs t0 t1 H (by exact li1 (.n (ms.length) (.n (r.length) .o)) (nat_lit 0x1f65000704106365000628e453450064408123) hln)
  obtain⟨σ2,m2,x2,H2,l2⟩:=ih m1 σ1 (fun x hx=>hr x (by simp [hx])) H1 (by exact li2 (.n (m1.length) (.n (r.length) (.n (ms.length) .o))) (nat_lit 0x7df65000628e4539102048d945020496365000628e453450064408125) hln l1)
  refine⟨σ2,m2,?_,H2,by exact li2 (.n (m2.length) (.n (ms.length) (.n (r.length) (.n (m1.length) .o)))) (nat_lit 0x7df6514d14019502049236514e54081268d9450204926) l1 l2⟩
  rw [List.map_cons,forGo_cons,x1]
  rcases hf with e | e <;> subst e <;> exact x2
theorem range0 {n:Int} (h0:0≤n) (h1:n < 1000000):rangeD 0 n=some (((List.range n.toNat).map fun (i:Nat)=>(i:Int)).map .int):=by
 unfold rangeD;rw [if_pos (by exact li2 (.z n .o) (nat_lit 0x1f7dc71c5d00040843e35e35100040843d740010210f4005d001440010210f5d00040843e35a3400) h0 h1)];simp
theorem s_law_moves (k:Nat) {w h:Int} {cs:List Int} (B:Board w h cs) {sd ep:Int} (hs:sd=0∨sd=1):
  ∃ ms:List Mv,callX tab (k+4) f_law_moves [.tup [.int w,.int h],.lst (cs.map .int),.int sd,.int ep]=Ev.ok (.lst (ms.map Mv.d),.fr)∧(∀ m ∈ ms,MvOk (w * h) cs m)∧ms.length≤2000:=by
 obtain⟨m0,e,ok0,l0⟩:=s_law_castlings (k+2) B hs
 obtain⟨n,hn⟩:∃ n,w * h=n:=⟨_,rfl⟩
 have hsz:0≤n∧n≤25:=by rw [← hn];rcases B.1 with ⟨e,e'⟩ | ⟨e,e'⟩ | ⟨e,e'⟩ | ⟨e,e'⟩ <;> subst e <;> subst e';exact li0 .o (nat_lit 0x716409053404404593404404400);exact li0 .o (nat_lit 0x716409053405405593405405400);exact li0 .o (nat_lit 0x716409053403407593403407400);exact li0 .o (nat_lit 0x716409053404406593404406400)
 have hl:=B.2.1
 have hfl:fn1 .len (.lst (cs.map .int))=some (.int n):=by
  rw [f_lenl,if_pos (by simp only [List.length_map];unfold big;exact li3 (.n (cs.length) (.z (w * h) (.z n .o))) (nat_lit 0x7df7d9400000000063624563590241958964) hn hsz.2 hl),List.length_map,hl,hn]
 have hr:=range0 hsz.1 (by exact li1 (.z n .o) (nat_lit 0x7d740010210f8d6409063) hsz.2)
 obtain⟨σ1,m1,x1,H1,l1⟩:=mo_loop k B (ep:=ep) hs ((List.range n.toNat).map fun (i:Nat)=>(i:Int)) m0 (upd (start 4 [.tup [.int w,.int h],.lst (cs.map .int),.int sd,.int ep]) 4 ⟨.lst (m0.map Mv.d),true⟩) (by
  intro x hx
  rw [List.mem_map] at hx
  obtain⟨i,hi,rfl⟩:=hx
  rw [List.mem_range] at hi
  exact li3 (.n i (.z (w * h) (.z n (.n (n.toNat) .o)))) (nat_lit 0x7df7dc5e45635958d001d71b40099740095c6255665a54006a68d8964) hn hi (ltn (n))) ⟨rfl,rfl,rfl,rfl,rfl,ok0⟩ (by simp;exact li3 (.n (m0.length) (.n (n.toNat) (.z n .o))) (nat_lit 0x7df7d940018a3914e440812375c6d00245d00257189559169500164090656500a3) l0 hsz.2 (ltn (n)))
 refine⟨m1,?_,H1.ok,by simp at l1;exact li4 (.n (m1.length) (.n (m0.length) (.z n (.n (n.toNat) .o)))) (nat_lit 0x1f7df7d94003478dd71b40099740095c6255665a54006514e64081248d64090656500a4) l0 hsz.2 l1 (ltn (n))⟩
 have a4:=H1.a4
 show runF (callX tab (k+3)) p_law_moves [_,_,_,_]=_
 generalize ((List.range n.toNat).map fun (i:Nat)=>(i:Int)).map D.int=R at *
 generalize m0.map Mv.d=N0 at *
 generalize m1.map Mv.d=N1 at *
 generalize cs.map D.int=M at *
 have hh:=fun r:Ev (D×Kd)=>ai e (ai hfl (ai hr (ai x1 (ai a4 (Eq.refl r)))))
 exact fun_eq [.d _ _,.v _,.l _,.f _ _,.r 4 _] rfl (hh _)
end Mine

namespace Mine
theorem cv_set {cs:List Int} {q c:Int} (q0:0≤q) (q1:q < cs.length) (j:Int) (j0:0≤j):cv (cs.set q.toNat c) j=if j=q then c else cv cs j:=by
 have hq:q.toNat < cs.length:=by exact li3 (.n (q.toNat) (.n (cs.length) (.z q .o))) (nat_lit 0x1f7df6a48dd71b4008d740095c6255635a54005d59255a5400) q0 q1 (ltn (q))
 unfold cv
 by_cases e:j=q
 ·subst e;simp [List.getD,hq]
 ·have:¬ q.toNat=j.toNat:=by exact li5 (.n (q.toNat) (.n (j.toNat) (.z q (.z j .o)))) (nat_lit 0x1f7df7df79b92375c6d00245d002671899591699001d71b4008d740095c6255635a54007989665a64005a5400) q0 j0 e (ltn (q)) (ltn (j))
  simp [List.getD,this,e]
theorem Board.set {w h:Int} {cs:List Int} (B:Board w h cs) {q c:Int} (q0:0≤q) (q1:q < w * h) (hc:Code c) (hp:c % 8=1→0 < q / w∧q / w < h - 1):Board w h (cs.set q.toNat c):=by
 obtain⟨s,hl,hB⟩:=B
 refine⟨s,by simpa using hl,fun j j0 j1=>?_⟩
 rw [cv_set q0 (by exact li2 (.z q (.n (cs.length) (.z (w * h) .o))) (nat_lit 0x1f7d75648d8955917963) q1 hl) j j0]
 split
 ·rename_i e;subst e;exact⟨.inr hc,hp⟩
 ·exact hB j j0 j1
theorem board_0 {w h:Int} (s:Shp w h):Board w h (List.replicate (w * h).toNat 0):=by
 refine⟨s,?_,fun q _ _=>?_⟩
 ·rcases s with ⟨e,e'⟩ | ⟨e,e'⟩ | ⟨e,e'⟩ | ⟨e,e'⟩ <;> subst e <;> subst e' <;> rfl
 ·have:cv (List.replicate (w * h).toNat 0) q=0:=by
   unfold cv;simp only [List.getD,List.getElem?_replicate];split <;> rfl
  rw [this];exact⟨.inl rfl,by exact li2 (.z (0 % 8) (.z (q / w) (.z h (.z (0 / 8) .o)))) (nat_lit 0x1f7df7174900659179100184018d7450213990210018493990210023) (lmi (0) (8)).2.2 (ldi (0) (8)).2⟩
theorem shape_at {i:Int} (h0:0≤i) (h1:i < 4):∃ w h,Shp w h∧sub (.lst [.tup [.int 4,.int 4],.tup [.int 5,.int 5],.tup [.int 7,.int 3],.tup [.int 6,.int 4]]) (.int i)=some (.tup [.int w,.int h]):=by
 have:i=0∨i=1∨i=2∨i=3:=by exact li2 (.z i .o) (nat_lit 0x1f7dd75d6100e36100a36100636100235d01235a3400) h0 h1
 unfold Shp
 rcases this with e | e | e | e <;> subst e
 ·exact⟨4,4,by exact li0 .o (nat_lit 0x1d75d71840440461019011c6100d011840740471840540461015011c610110118404404),rfl⟩
 ·exact⟨5,5,by exact li0 .o (nat_lit 0x1d75d71840440561019015c6100d015840740571840540561015015c610110158404405),rfl⟩
 ·exact⟨7,3,by exact li0 .o (nat_lit 0x1d75d7184044036101901dc6100d00d84074077184054036101501dc6101100d8404407),rfl⟩
 ·exact⟨6,4,by exact li0 .o (nat_lit 0x1d75d71840440461019019c6100d011840740671840540461015019c610110118404406),rfl⟩
theorem piece_at {i:Int} (h0:0≤i) (h1:i < 10):∃ c,Code c∧sub (.lst [.int 1,.int 9,.int 2,.int 10,.int 3,.int 11,.int 4,.int 12,.int 5,.int 13]) (.int i)=some (.int c):=by
 have:i=0∨i=1∨i=2∨i=3∨i=4∨i=5∨i=6∨i=7∨i=8∨i=9:=by exact li2 (.z i .o) (nat_lit 0x1f7dd75d75d75d75d6102636102236101e36101a36101636101236100e36100a36100636100235d02a35a3400) h0 h1
 unfold Code
 rcases this with e | e | e | e | e | e | e | e | e | e <;> subst e <;> exact⟨_,by decide,rfl⟩
theorem s_law_shapes (k:Nat):callX tab (k+1) f_law_shapes []=Ev.ok (.lst [.tup [.int 4,.int 4],.tup [.int 5,.int 5],.tup [.int 7,.int 3],.tup [.int 6,.int 4]],.fr):=by
 show runF (callX tab k) p_law_shapes []=_
 have hh:=fun r:Ev (D×Kd)=>Eq.refl r
 exact fun_eq [] rfl (hh _)
theorem s_law_pieces (k:Nat):callX tab (k+1) f_law_pieces []=Ev.ok (.lst [.int 1,.int 9,.int 2,.int 10,.int 3,.int 11,.int 4,.int 12,.int 5,.int 13],.fr):=by
 show runF (callX tab k) p_law_pieces []=_
 have hh:=fun r:Ev (D×Kd)=>Eq.refl r
 exact fun_eq [] rfl (hh _)
structure DR (σ:Sg) (ns:List Int) (w h:Int) (cs:List Int) (sd:Int):Prop where
 a0:σ 0=some ⟨.lst (ns.map .int),false⟩
 a1:σ 1=some ⟨.tup [.int w,.int h],false⟩
 a2:σ 2=some ⟨.int (w * h),false⟩
 a3:σ 3=some ⟨.int sd,false⟩
 a4:σ 4=some ⟨.lst (cs.map .int),true⟩
 B:Board w h cs
theorem DR.up {σ:Sg} {ns:List Int} {w h:Int} {cs:List Int} {sd:Int} (H:DR σ ns w h cs sd) (i:Nat) (hi:4 < i) (c:Cell):DR (upd σ i c) ns w h cs sd:=by
 obtain⟨a0,a1,a2,a3,a4,B⟩:=H
 have e:∀ j,j≤4→upd σ i c j=σ j:=fun j hj=>upd_ne σ c (by simp;exact li2 (.n j (.n i .o)) (nat_lit 0x7df79b9236501236a4404) hi hj)
 exact⟨by rw [e 0 (by exact li0 .o (nat_lit 423642112))];exact a0,by rw [e 1 (by exact li0 .o (nat_lit 423642113))];exact a1,by rw [e 2 (by exact li0 .o (nat_lit 423642114))];exact a2,by rw [e 3 (by exact li0 .o (nat_lit 423642115))];exact a3,by rw [e 4 (by exact li0 .o (nat_lit 423642116))];exact a4,B⟩
theorem DR.put {σ:Sg} {ns:List Int} {w h:Int} {cs cs':List Int} {sd:Int} (H:DR σ ns w h cs sd) (B:Board w h cs'):DR (upd σ 4 ⟨.lst (cs'.map .int),true⟩) ns w h cs' sd:=by
 obtain⟨a0,a1,a2,a3,a4,_⟩:=H
 exact⟨by simpa [upd] using a0,by simpa [upd] using a1,by simpa [upd] using a2,by simpa [upd] using a3,by simp [upd],B⟩
theorem shp_n {w h:Int} (s:Shp w h):0 < w * h∧w * h≤25∧w≤w * h∧0 < w∧w≤7∧h.natAbs < 4294967296∧(w * h).natAbs.log2 < 9000:=by
 rcases s with ⟨e,e'⟩ | ⟨e,e'⟩ | ⟨e,e'⟩ | ⟨e,e'⟩ <;> subst e <;> subst e' <;> decide
theorem set_in (Φ:Nat→List D→Ev (D×Kd)) {w h:Int} {cs:List Int} (B:Board w h cs) {q c:Int} (q0:0≤q) (q1:q < w * h) {a e:X} {σ:Sg} {k2:Kd} (h4:σ 4=some ⟨.lst (cs.map .int),true⟩) (he:ev Φ e σ=Ev.ok (.int c,.pl)) (ha:ev Φ a σ=Ev.ok (.int q,k2)):
  ex Φ (.setI 4 a e) σ=Ev.ok (.next,upd σ 4 ⟨.lst ((cs.set q.toNat c).map .int),true⟩):=by
 have hl:=B.2.1
 have n:=shp_n B.1
 have c1:q < ((cs.map D.int).length:Int):=by simp;exact li2 (.z q (.n (cs.length) (.z (w * h) .o))) (nat_lit 0x1f7d75648d8955917963) q1 hl
 have c2:(cs.map D.int).length≤big:=by simp;unfold big;exact li2 (.n (cs.length) (.z (w * h) .o)) (nat_lit 0x7df6500000000018d6409064624563) hl n.2.1
 simp only [x_setI,h4,he,ha,Ev.bind_ok,frz_pl,Ev.of_some,List.map_set]
 rw [if_pos ⟨q0,c1,c2⟩]
noncomputable def b_dr:List St:=forBody p_law_draw.body[7]?
theorem dr_step (k:Nat) {ns:List Int} (hl:ns.length≤100) {w h:Int} {cs:List Int} {sd i:Int} (h0:0≤i) (h1:i < 1000) {σ:Sg} (H0:DR σ ns w h cs sd):
  ∃ (σ':Sg) (cs':List Int),exs (callX tab (k+1)) b_dr (upd σ 7 ⟨.int i,false⟩)=Ev.ok (.next,σ')∧DR σ' ns w h cs' sd:=by
 have B:=H0.B
 obtain⟨n0,n1,n2,w0,w1,_,nl⟩:=shp_n B.1
 have wl:=shp_log B.1
 have ea:=s_law_at k ns h0 h1 hl
 obtain⟨v,hv⟩:∃ v,atv ns i=v:=⟨_,rfl⟩
 rw [hv] at ea
 obtain⟨n,hn⟩:∃ n,w * h=n:=⟨_,rfl⟩
 have q0:0≤v % n:=Int.emod_nonneg _ (by exact li2 (.z n (.z (w * h) .o)) (nat_lit 0x7df7984008d88e45e4400) n0 hn)
 have q1:v % n < n:=Int.emod_lt_of_pos _ (by exact li2 (.z n (.z (w * h) .o)) (nat_lit 0x1f7d78d00188e45e4400) n0 hn)
 obtain⟨q,hq⟩:∃ q,v % n=q:=⟨_,rfl⟩
 rw [hq] at q0 q1
 obtain⟨c,hc,ec⟩:=piece_at (i:=v / n % 10) (by exact li2 (.z (v / n % 10) (.z (v / n) (.z (v / n / 10) .o))) (nat_lit 0x7df5a34005a44e540a6124e540a923) (lmi (v / n) (10)).2.2 (ldi (v / n) (10)).1) (by exact li2 (.z (v / n % 10) (.z (v / n) (.z (v / n / 10) .o))) (nat_lit 0x1f7d740a8d74502939502a46124e540a923) (lmi (v / n) (10)).2.2 (ldi (v / n) (10)).2)
 have es:=sub_ints (cs:=cs) q0 (by rw [B.2.1];exact li2 (.z q (.z (w * h) (.z n .o))) (nat_lit 0x1f7d79235e58d8964) hn q1) (by have:=B.2.1;exact li2 (.n (cs.length) (.z (w * h) .o)) (nat_lit 0x7df6501068d89158d6409064) n1 this)
 have sp:=s_law_pieces k
 have s0:∀ a b:Int,sub (.tup [.int a,.int b]) (.int 0)=some (.int a):=fun _ _=>rfl
 have s1:∀ a b:Int,sub (.tup [.int a,.int b]) (.int 1)=some (.int b):=fun _ _=>rfl
 have H:=((((H0.up 7 (by exact li0 .o (nat_lit 440431620)) ⟨.int i,false⟩).up 8 (by exact li0 .o (nat_lit 440435716)) ⟨.int v,false⟩).up 9 (by exact li0 .o (nat_lit 440439812)) ⟨.int q,false⟩).up 10 (by exact li0 .o (nat_lit 440443908)) ⟨.int c,false⟩)
 obtain⟨a0,a1,a2,a3,a4,_⟩:=id H0
 rw [hn] at a2 nl n0
 have put:(c % 8=1→0 < q / w∧q / w < h - 1)→Board w h (cs.set q.toNat c):=B.set q0 (by exact li2 (.z q (.z (w * h) (.z n .o))) (nat_lit 0x1f7d79235e58d8964) hn q1) hc
 have c1:q < ((cs.map D.int).length:Int):=by have:=B.2.1;simp;exact li3 (.z q (.n (cs.length) (.z (w * h) (.z n .o)))) (nat_lit 0x1f7df5d59236255645e68d89a5) hn q1 this
 have c2:(cs.map D.int).length≤big:=by have:=B.2.1;simp;unfold big;exact li2 (.n (cs.length) (.z (w * h) .o)) (nat_lit 0x7df6500000000018d89158d6409064) n1 this
 by_cases p1:cv cs q=0
 ·by_cases p2:c % 8=1
  ·by_cases p3:0 < q / w
   ·by_cases p4:q / w < h - 1
    ·refine⟨_,_,?_,H.put (put fun _=>⟨p3,p4⟩)⟩
     simp only [List.map_set]
     generalize cs.map D.int=M at *
     have hh:=fun r:Fl×Sg=>ai a0 (ai ea (ai a2 (ai (show bop Bop.fmod (D.int v) (D.int n)=some (D.int q,Kd.pl) from by rw [← hq];exact(@v_fmod (v) (n) n0)) (ai sp (ai a2 (ai (@v_fdiv (v) (n) n0 nl) (ai (@v_fmod (v / n) (10) (by decide)) (ai ec (ai a4 (ai (show sub (D.lst M) (D.int q)=some (D.int 0) from by rw [← p1];exact es) (ai rt (ai (show bop Bop.fmod (D.int c) (D.int 8)=some (D.int 1,Kd.pl) from by rw [← p2];exact(@v_fmod (c) (8) (by decide))) (ai rf (ai a1 (ai (@s0 (w) (h)) (ai (@v_fdiv (q) (w) w0 wl) (ai (asb_t p3) (ai a1 (ai (@s1 (w) (h)) (ai (asb_t p4) (ai a4 (ai (show 0≤q∧q < ↑M.length∧M.length≤big from(ai q0 (ai c1 c2))) (Eq.refl r)))))))))))))))))))))))
     exact run_eq [.r 0 _,.d _ _,.r 2 _,.d _ _,.d _ _,.r 2 _,.d _ _,.d _ _,.v _,.r 4 _,.v _,.b true,.d _ _,.b false,.r 1 _,.v _,.d _ _,.b true,.r 1 _,.v _,.b true,.r 4 _] (hh _)
    ·refine⟨_,_,?_,H⟩
     generalize cs.map D.int=M at *
     have hh:=fun r:Fl×Sg=>ai a0 (ai ea (ai a2 (ai (show bop Bop.fmod (D.int v) (D.int n)=some (D.int q,Kd.pl) from by rw [← hq];exact(@v_fmod (v) (n) n0)) (ai sp (ai a2 (ai (@v_fdiv (v) (n) n0 nl) (ai (@v_fmod (v / n) (10) (by decide)) (ai ec (ai a4 (ai (show sub (D.lst M) (D.int q)=some (D.int 0) from by rw [← p1];exact es) (ai rt (ai (show bop Bop.fmod (D.int c) (D.int 8)=some (D.int 1,Kd.pl) from by rw [← p2];exact(@v_fmod (c) (8) (by decide))) (ai rf (ai a1 (ai (@s0 (w) (h)) (ai (@v_fdiv (q) (w) w0 wl) (ai (asb_t p3) (ai a1 (ai (@s1 (w) (h)) (ai (asb_f p4) (Eq.refl r)))))))))))))))))))))
     exact run_eq [.r 0 _,.d _ _,.r 2 _,.d _ _,.d _ _,.r 2 _,.d _ _,.d _ _,.v _,.r 4 _,.v _,.b true,.d _ _,.b false,.r 1 _,.v _,.d _ _,.b true,.r 1 _,.v _,.b false] (hh _)
   ·refine⟨_,_,?_,H⟩
    generalize cs.map D.int=M at *
    have hh:=fun r:Fl×Sg=>ai a0 (ai ea (ai a2 (ai (show bop Bop.fmod (D.int v) (D.int n)=some (D.int q,Kd.pl) from by rw [← hq];exact(@v_fmod (v) (n) n0)) (ai sp (ai a2 (ai (@v_fdiv (v) (n) n0 nl) (ai (@v_fmod (v / n) (10) (by decide)) (ai ec (ai a4 (ai (show sub (D.lst M) (D.int q)=some (D.int 0) from by rw [← p1];exact es) (ai rt (ai (show bop Bop.fmod (D.int c) (D.int 8)=some (D.int 1,Kd.pl) from by rw [← p2];exact(@v_fmod (c) (8) (by decide))) (ai rf (ai a1 (ai (@s0 (w) (h)) (ai (@v_fdiv (q) (w) w0 wl) (ai (asb_f p3) (ai rf (Eq.refl r)))))))))))))))))))
    exact run_eq [.r 0 _,.d _ _,.r 2 _,.d _ _,.d _ _,.r 2 _,.d _ _,.d _ _,.v _,.r 4 _,.v _,.b true,.d _ _,.b false,.r 1 _,.v _,.d _ _,.b false,.b false] (hh _)
  ·refine⟨_,_,?_,H.put (put fun x=>absurd x p2)⟩
   simp only [List.map_set]
   generalize cs.map D.int=M at *
   have hh:=fun r:Fl×Sg=>ai a0 (ai ea (ai a2 (ai (show bop Bop.fmod (D.int v) (D.int n)=some (D.int q,Kd.pl) from by rw [← hq];exact(@v_fmod (v) (n) n0)) (ai sp (ai a2 (ai (@v_fdiv (v) (n) n0 nl) (ai (@v_fmod (v / n) (10) (by decide)) (ai ec (ai a4 (ai (show sub (D.lst M) (D.int q)=some (D.int 0) from by rw [← p1];exact es) (ai rt (ai (@v_fmod (c) (8) (by decide)) (ai (asb_nf p2) (ai rt (ai a4 (ai (show 0≤q∧q < ↑M.length∧M.length≤big from(ai q0 (ai c1 c2))) (Eq.refl r)))))))))))))))))
   exact run_eq [.r 0 _,.d _ _,.r 2 _,.d _ _,.d _ _,.r 2 _,.d _ _,.d _ _,.v _,.r 4 _,.v _,.b true,.d _ _,.b true,.b true,.r 4 _] (hh _)
 ·refine⟨_,_,?_,H⟩
  generalize cs.map D.int=M at *
  have hh:=fun r:Fl×Sg=>ai a0 (ai ea (ai a2 (ai (show bop Bop.fmod (D.int v) (D.int n)=some (D.int q,Kd.pl) from by rw [← hq];exact(@v_fmod (v) (n) n0)) (ai sp (ai a2 (ai (@v_fdiv (v) (n) n0 nl) (ai (@v_fmod (v / n) (10) (by decide)) (ai ec (ai a4 (ai es (ai (asb_f p1) (ai rf (Eq.refl r)))))))))))))
  exact run_eq [.r 0 _,.d _ _,.r 2 _,.d _ _,.d _ _,.r 2 _,.d _ _,.d _ _,.v _,.r 4 _,.v _,.b false,.b false] (hh _)
end Mine

namespace Mine
theorem dr_pre (k:Nat) {ns:List Int} (hl:ns.length≤100):
  ∃ (σ:Sg) (w h:Int) (cs:List Int) (sd:Int),exs (callX tab (k+1)) (p_law_draw.body.take 7) (start 1 [.lst (ns.map .int)])=Ev.ok (.next,σ)∧DR σ ns w h cs sd∧(sd=0∨sd=1):=by
 have e0:=s_law_at k ns (i:=0) (by exact li0 .o (nat_lit 373294080)) (by exact li0 .o (nat_lit 1597865735168)) hl
 have e1:=s_law_at k ns (i:=1) (by exact li0 .o (nat_lit 373298176)) (by exact li0 .o (nat_lit 1597865735169)) hl
 have e2:=s_law_at k ns (i:=2) (by exact li0 .o (nat_lit 373302272)) (by exact li0 .o (nat_lit 1597865735170)) hl
 obtain⟨v0,hv0⟩:∃ v,atv ns 0=v:=⟨_,rfl⟩
 obtain⟨v1,hv1⟩:∃ v,atv ns 1=v:=⟨_,rfl⟩
 obtain⟨v2,hv2⟩:∃ v,atv ns 2=v:=⟨_,rfl⟩
 rw [hv0] at e0
 rw [hv1] at e1
 rw [hv2] at e2
 have sp:=s_law_shapes k
 obtain⟨w,h,s,es⟩:=shape_at (i:=v0 % 4) (by exact li2 (.z (v0 % 4) (.z v0 (.z (v0 / 4) .o))) (nat_lit 0x7df5a34005a44e54046124e5404923) (lmi (v0) (4)).2.2 (ldi (v0) (4)).1) (by exact li2 (.z (v0 % 4) (.z v0 (.z (v0 / 4) .o))) (nat_lit 0x1f7d74048d74501139501246124e5404923) (lmi (v0) (4)).2.2 (ldi (v0) (4)).2)
 obtain⟨n0,n1,n2,w0,w1,ha,nl⟩:=shp_n s
 have wl:=shp_log s
 have wa:=shp_abs s
 obtain⟨n,hn⟩:∃ n,w * h=n:=⟨_,rfl⟩
 have B0:=board_0 s
 have s0:∀ a b:Int,sub (.tup [.int a,.int b]) (.int 0)=some (.int a):=fun _ _=>rfl
 have s1:∀ a b:Int,sub (.tup [.int a,.int b]) (.int 1)=some (.int b):=fun _ _=>rfl
 have m1:bop .mul (.int w) (.int h)=some (.int n,.pl):=by rw [b_mul,if_pos ⟨wa,ha⟩,hn]
 obtain⟨sd,hsd⟩:∃ sd,v1 % 2=sd:=⟨_,rfl⟩
 have hs:sd=0∨sd=1:=by exact li4 (.z sd (.z (v1 % 2) (.z v1 (.z (v1 / 2) .o)))) (nat_lit 0x1f7df7dd6100636100235d14024e64029569539900984939900a59188e4) hsd (lmi (v1) (2)).2.2 (ldi (v1) (2)).1 (ldi (v1) (2)).2
 have sa:sd.natAbs < 4294967296:=by exact li5 (.n (sd.natAbs) (.z (v1 % 2) (.z sd (.z v1 (.z (v1 / 2) .o))))) (nat_lit 0x1f7df7df6900000000000000635d14024e74029969939d00984939d00a691d7185255635d00257189558d6950018964) hsd (lab (sd)) (lmi (v1) (2)).2.2 (ldi (v1) (2)).1 (ldi (v1) (2)).2
 have m2:bop .mul (.lst [.int 0]) (.int n)=some (.lst ((List.replicate n.toNat (0:Int)).map .int),.fr):=by
  rw [b_mull,if_pos ⟨by exact li2 (.z n (.z (w * h) .o)) (nat_lit 0x1f7d68d00188e45e4400) n0 hn,rfl,by exact li2 (.z n (.z (w * h) .o)) (nat_lit 0x7df590000063623916409064) n1 hn⟩,List.map_replicate];rfl
 rw [hn] at B0 n0 nl n1 n2
 obtain⟨kg,hkg⟩:∃ kg,v2 % (n + 8)=kg:=⟨_,rfl⟩
 have k0:0≤kg:=by rw [← hkg];exact Int.emod_nonneg _ (by exact li1 (.z n .o) (nat_lit 0x1f7984004502235e3400) n0)
 have n8:0 < n + 8:=by exact li1 (.z n .o) (nat_lit 0x7d74502234005e3400) n0
 have H0:DR (upd (upd (upd (upd (start 1 [.lst (ns.map .int)]) 1 ⟨.tup [.int w,.int h],false⟩) 2 ⟨.int n,false⟩) 3 ⟨.int sd,false⟩) 4 ⟨.lst ((List.replicate n.toNat (0:Int)).map .int),true⟩) ns w h (List.replicate n.toNat 0) sd:=⟨rfl,rfl,by rw [hn];rfl,rfl,rfl,B0⟩
 have H1:=H0.up 5 (by exact li0 .o (nat_lit 440423428)) ⟨.int kg,false⟩
 have hM:(((List.replicate n.toNat (0:Int)).map D.int).length:Int)=n:=by simp;exact li2 (.z (max n 0) (.z n .o)) (nat_lit 0x1f7d892375c6248d791001c6100235900245e4400) n0 (lmx (n) (0))
 have c2:((List.replicate n.toNat (0:Int)).map D.int).length≤big:=by simp;unfold big;exact li1 (.z n .o) (nat_lit 0x7d65500000000018d6409063) n1
 have q6:Code (8 * sd + 6):=by unfold Code;exact li4 (.z sd (.z (v1 % 2) (.z v1 (.z (v1 / 2) .o)))) (nat_lit 0x1f7df7dd71640e4501938d02164501938d021025c5901914064e34085914064e34084015d14024e64029569539900984939900a59188e4) hsd (lmi (v1) (2)).2.2 (ldi (v1) (2)).1 (ldi (v1) (2)).2
 have q4:Code (8 * sd + 4):=by unfold Code;exact li4 (.z sd (.z (v1 % 2) (.z v1 (.z (v1 / 2) .o)))) (nat_lit 0x1f7df7dd71640e4501138d02164501138d021025c5901914044e34085914044e34084015d14024e64029569539900984939900a59188e4) hsd (lmi (v1) (2)).2.2 (ldi (v1) (2)).1 (ldi (v1) (2)).2
 by_cases p:n≤kg
 ·obtain⟨home,hh⟩:∃ home,sd * (n - w)=home:=⟨_,rfl⟩
  have m3:bop .mul (.int sd) (.int (n - w))=some (.int home,.pl):=by rw [b_mul,if_pos ⟨by exact li1 (.n (sd.natAbs) .o) (nat_lit 0x1f690000000000000063690000000000000063) sa,by exact li4 (.n ((n - w).natAbs) (.z w (.z n .o))) (nat_lit 0x7df7df69000000000000006375c6144a49558d74004a495c6129255635929254005902419569645e4400) w0 n2 n1 (lab (n - w))⟩,hh]
  have hho:0≤home∧home + w≤n:=by
   rw [← hh];rcases hs with e | e <;> subst e;exact li1 (.z n (.z w .o)) (nat_lit 0x7dc5a34644d29234005934a48d00100168e4) n2;exact li1 (.z n (.z w .o)) (nat_lit 0x7dc5a34644d29234015934a48d00500168e4) n2
  obtain⟨king,hk⟩:∃ king,home + w / 2=king:=⟨_,rfl⟩
  obtain⟨cor,hc⟩:∃ cor,home + w - 1=cor:=⟨_,rfl⟩
  have b1:=B0.set (q:=home) hho.1 (by exact li3 (.z home (.z (w * h) (.z w (.z n .o)))) (nat_lit 0x7df7d79235a64658d89a45e5400) w0 hn hho.2) q4 (fun e=>by exact li3 (.z (home / w) (.z h (.z ((8 * sd + 4) % 8) (.z sd (.z ((8 * sd + 4) / 8) .o))))) (nat_lit 0x7df7dc5d24019235e34005914044e64084e74086124e7408450113990225610065) e (lmi (8 * sd + 4) (8)).2.2 (ldi (8 * sd + 4) (8)).1)
  have b2:=b1.set (q:=cor) (by exact li3 (.z cor (.z w (.z home .o))) (nat_lit 0x1f7df5a34006234900519255a54005e4400) w0 hho.1 hc) (by exact li3 (.z cor (.z (w * h) (.z n (.z home (.z w .o))))) (nat_lit 0x7df7d79236234900519e65a5467998964) hn hho.2 hc) q4 (fun e=>by exact li3 (.z (cor / w) (.z h (.z ((8 * sd + 4) % 8) (.z sd (.z ((8 * sd + 4) / 8) .o))))) (nat_lit 0x7df7dc5d24019235e34005914044e64084e74086124e7408450113990225610065) e (lmi (8 * sd + 4) (8)).2.2 (ldi (8 * sd + 4) (8)).1)
  have b3:=b2.set (q:=king) (by exact li4 (.z king (.z w (.z home (.z (w / 2) .o)))) (nat_lit 0x7df7df5a34005d14024e64029188d19a55a54005e4400) w0 hho.1 hk (ldi (w) (2)).2) (by exact li5 (.z king (.z (w * h) (.z w (.z n (.z home (.z (w / 2) .o)))))) (nat_lit 0x1f7df7df5e48d6953a100988d1a275a64659d89a45e5400) w0 hn hho.2 hk (ldi (w) (2)).1) q6 (fun e=>by exact li3 (.z (king / w) (.z h (.z ((8 * sd + 6) % 8) (.z sd (.z ((8 * sd + 6) / 8) .o))))) (nat_lit 0x7df7dc5d24019235e34005914064e64084e74086124e7408450193990225610065) e (lmi (8 * sd + 6) (8)).2.2 (ldi (8 * sd + 6) (8)).1)
  have i1:0≤home∧home < n:=by exact li3 (.z home (.z n (.z w .o))) (nat_lit 0x7df7dc5e48d68d00169119635a34005e5400) w0 hho.1 hho.2
  have i2:0≤cor∧cor < n:=by exact li4 (.z cor (.z n (.z w (.z home .o)))) (nat_lit 0x1f7df7dc5e48d68d00169900188d24014659969119665e5400) w0 hho.2 hc i1.1
  have i3:0≤king∧king < n:=by exact li8 (.z king (.z n (.z w (.z home (.z (w / 2) (.z cor .o)))))) (nat_lit 0x7df7df7df7df7179235a34005d14024e74029569539d00979285a84005e4996990018a124014659988d19e6) hk hc i1.1 i1.2 i2.1 i2.2 (ldi (w) (2)).1 (ldi (w) (2)).2
  refine⟨_,w,h,_,sd,?_,((((((H1.up 6 (by exact li0 .o (nat_lit 440427524)) ⟨.int home,false⟩).up 5 (by exact li0 .o (nat_lit 440423428)) ⟨.int king,false⟩).put b1).put b2).put b3)),hs⟩
  simp only [List.map_set]
  clear H0 H1 B0 b1 b2 b3
  generalize (List.replicate n.toNat (0:Int)).map D.int=M at *
  generalize ns.map D.int=N at *
  have hh:=fun r:Fl×Sg=>ai sp (ai e0 (ai (@v_fmod (v0) (4) (by decide)) (ai es (ai (@s0 (w) (h)) (ai (@s1 (w) (h)) (ai m1 (ai e1 (ai (show bop Bop.fmod (D.int v1) (D.int 2)=some (D.int sd,Kd.pl) from by rw [← hsd];exact(@v_fmod (v1) (2) (by decide))) (ai m2 (ai e2 (ai (show bop Bop.fmod (D.int v2) (D.int (n + 8))=some (D.int kg,Kd.pl) from by rw [← hkg];exact(@v_fmod (v2) (n + 8) n8)) (ai (asb_t p) (ai (@s0 (w) (h)) (ai m3 (ai (@s0 (w) (h)) (ai (@v_fdiv (w) (2) (by decide) (by decide)) (ai (@v_mul (8) (sd) (by decide) sa) (ai (show 0≤home∧home < ↑M.length∧M.length≤big from(ai i1.1 (ai (li2 (.z home (.n (M.length) (.z n .o))) (nat_lit 0x1f7d75648d8955917963) i1.2 hM) c2))) (ai (@v_mul (8) (sd) (by decide) sa) (ai (@s0 (w) (h)) (ai (show 0≤home + w - 1∧home + w - 1 < ↑(M.set home.toNat (D.int (8 * sd + 4))).length∧(M.set home.toNat (D.int (8 * sd + 4))).length≤big from(ai (li2 (.z home (.z w (.z cor .o))) (nat_lit 0x1f7d64900519234005a5400625490051923) hc i2.1) (ai (by simp [hc,hM,i2]) (by simp [c2])))) (ai (@v_mul (8) (sd) (by decide) sa) (ai (show 0≤home + w / 2∧home + w / 2 < ↑((M.set home.toNat (D.int (8 * sd + 4))).set (home + w - 1).toNat (D.int (8 * sd + 4))).length∧((M.set home.toNat (D.int (8 * sd + 4))).set (home + w - 1).toNat (D.int (8 * sd + 4))).length≤big from(ai (li2 (.z home (.z (w / 2) (.z king .o))) (nat_lit 0x1f7d64648d0016950018951923) hk i3.1) (ai (by simp [hk,hc,hM,i3]) (by simp [hc,c2])))) (Eq.refl r))))))))))))))))))))))))
  exact Eq.trans (run_eq (r:=(Fl.next,upd (upd (upd (upd (upd (upd (upd (upd (upd (upd (start 1 [D.lst N]) 1 { d:=D.tup [D.int w,D.int h],own:=false }) 2 { d:=D.int n,own:=false }) 3 { d:=D.int sd,own:=false }) 4 { d:=D.lst M,own:=true }) 5 { d:=D.int kg,own:=false }) 6 { d:=D.int home,own:=false }) 5 { d:=D.int (home + w / 2),own:=false }) 4 { d:=D.lst (M.set home.toNat (D.int (8 * sd + 4))),own:=true }) 4 { d:=D.lst ((M.set home.toNat (D.int (8 * sd + 4))).set (home + w - 1).toNat (D.int (8 * sd + 4))),own:=true }) 4 { d:=D.lst (((M.set home.toNat (D.int (8 * sd + 4))).set (home + w - 1).toNat (D.int (8 * sd + 4))).set (home + w / 2).toNat (D.int (8 * sd + 6))),own:=true })) [.d _ _,.d _ _,.d _ _,.v _,.v _,.v _,.d _ _,.d _ _,.d _ _,.d _ _,.d _ _,.d _ _,.b true,.v _,.d _ _,.v _,.d _ _,.d _ _,.d _ _,.v _,.d _ _] (hh _)) (by simp [hk,hc])
 ·have b3:=B0.set (q:=kg) k0 (by exact li2 (.z kg (.z (w * h) (.z n .o))) (nat_lit 0x7df5e48de5a3958964) hn p) q6 (fun e=>by exact li3 (.z (kg / w) (.z h (.z ((8 * sd + 6) % 8) (.z sd (.z ((8 * sd + 6) / 8) .o))))) (nat_lit 0x7df7dc5d24019235e34005914064e64084e74086124e7408450193990225610065) e (lmi (8 * sd + 6) (8)).2.2 (ldi (8 * sd + 6) (8)).1)
  have i3:kg < n:=by exact li1 (.z kg (.z n .o)) (nat_lit 0x7d79237968e4) p
  refine⟨_,w,h,_,sd,?_,H1.put b3,hs⟩
  simp only [List.map_set]
  clear H0 H1 B0 b3
  generalize (List.replicate n.toNat (0:Int)).map D.int=M at *
  generalize ns.map D.int=N at *
  have hh:=fun r:Fl×Sg=>ai sp (ai e0 (ai (@v_fmod (v0) (4) (by decide)) (ai es (ai (@s0 (w) (h)) (ai (@s1 (w) (h)) (ai m1 (ai e1 (ai (@v_fmod (v1) (2) (by decide)) (ai m2 (ai e2 (ai (@v_fmod (v2) (n + 8) n8) (ai (asb_f (show ¬ (n≤v2 % (n + 8)) from(li2 (.z n (.z (v2 % (n + 8)) (.z kg .o))) (nat_lit 0x1f7de5a48de5a58d8964) hkg p))) (ai (@v_mul (8) (v1 % 2) (by decide) (li4 (.n ((v1 % 2).natAbs) (.z (v1 % 2) (.z v1 (.z (v1 / 2) .o)))) (nat_lit 0x1f7df7da4000000000000018d74500939900a55a54e64026124e640296475c6149158d740091c6245635a4400) (lab (v1 % 2)) (lmi (v1) (2)).2.2 (ldi (v1) (2)).1 (ldi (v1) (2)).2)) (ai (show 0≤v2 % (n + 8)∧v2 % (n + 8) < ↑M.length∧M.length≤big from(ai (li2 (.z (v2 % (n + 8)) (.z kg .o)) (nat_lit 0x1f7d68d0016910018923) hkg k0) (ai (li3 (.z (v2 % (n + 8)) (.n (M.length) (.z n (.z kg .o)))) (nat_lit 0x7df7d75648d895591e5a69589a3) hkg p hM) c2))) (Eq.refl r)))))))))))))))
  exact Eq.trans (run_eq (r:=(Fl.next,upd (upd (upd (upd (upd (upd (start 1 [D.lst N]) 1 { d:=D.tup [D.int w,D.int h],own:=false }) 2 { d:=D.int n,own:=false }) 3 { d:=D.int (v1 % 2),own:=false }) 4 { d:=D.lst M,own:=true }) 5 { d:=D.int (v2 % (n + 8)),own:=false }) 4 { d:=D.lst (M.set (v2 % (n + 8)).toNat (D.int (8 * (v1 % 2) + 6))),own:=true })) [.d _ _,.d _ _,.d _ _,.v _,.v _,.v _,.d _ _,.d _ _,.d _ _,.d _ _,.d _ _,.d _ _,.b false,.d _ _] (hh _)) (by simp [hsd,hkg])
theorem dr_loop (k:Nat) {ns:List Int} (hl:ns.length≤100) {w h:Int} {sd:Int}:∀ (is:List Int) (cs:List Int) (σ:Sg),(∀ x ∈ is,0≤x∧x < 1000)→DR σ ns w h cs sd→
  ∃ (σ':Sg) (cs':List Int),forGo (fun d σ=>exs (callX tab (k+1)) b_dr (upd σ 7 ⟨d,false⟩)) (is.map .int) σ=Ev.ok (.next,σ')∧DR σ' ns w h cs' sd:=by
 intro is
 induction is with
 | nil=>intro cs σ _ H;exact⟨σ,cs,rfl,H⟩
 | cons i r ih=>
  intro cs σ hr H
  obtain⟨t0,t1⟩:=hr i (by simp)
  obtain⟨σ1,c1,x1,H1⟩:=dr_step k hl t0 t1 H
  obtain⟨σ2,c2,x2,H2⟩:=ih c1 σ1 (fun x hx=>hr x (by simp [hx])) H1
  refine⟨σ2,c2,?_,H2⟩
  rw [List.map_cons,forGo_cons,x1];exact x2
theorem dr_tail (k:Nat) {ns:List Int} (hl:ns.length≤100) {w h:Int} {cs:List Int} {sd:Int} {σ:Sg} (H:DR σ ns w h cs sd):
  ∃ ep:Int,(exs (callX tab (k+1)) (p_law_draw.body.drop 8) σ).bind fin=Ev.ok (.tup [.tup [.int w,.int h],.lst (cs.map .int),.int sd,.int ep],.pl):=by
 obtain⟨a0,a1,a2,a3,a4,B⟩:=H
 have ea:=s_law_at k ns (i:=11) (by exact li0 .o (nat_lit 373339136)) (by exact li0 .o (nat_lit 1597865735179)) hl
 obtain⟨v,hv⟩:∃ v,atv ns 11=v:=⟨_,rfl⟩
 rw [hv] at ea
 obtain⟨n0,n1,n2,w0,w1,ha,nl⟩:=shp_n B.1
 have wl:=shp_log B.1
 obtain⟨n,hn⟩:∃ n,w * h=n:=⟨_,rfl⟩
 rw [hn] at n0 n1 a2
 have na:n.natAbs < 4294967296:=by exact li3 (.n (n.natAbs) (.z n .o)) (nat_lit 0x7df7da4000000000000018dd7185245635d00247189158d6910017910016409064) n1 n0 (lab (n))
 have nz:0 < 2 * n:=by exact li1 (.z n .o) (nat_lit 0x7d74e34024005e3400) n0
 have q0:0≤v % (2 * n):=Int.emod_nonneg _ (by exact li1 (.z n .o) (nat_lit 0x1f7984004e34025e3400) n0)
 obtain⟨q,hq⟩:∃ q,v % (2 * n)=q:=⟨_,rfl⟩
 rw [hq] at q0
 have s0:∀ a b:Int,sub (.tup [.int a,.int b]) (.int 0)=some (.int a):=fun _ _=>rfl
 have s1:∀ a b:Int,sub (.tup [.int a,.int b]) (.int 1)=some (.int b):=fun _ _=>rfl
 by_cases p1:n≤q
 ·refine⟨-1,?_⟩
  generalize cs.map D.int=M at *
  generalize ns.map D.int=N at *
  have hh:=fun r:Ev (D×Kd)=>ai a0 (ai ea (ai a2 (ai (@v_mul (2) (n) (by decide) na) (ai (@v_fmod (v) (2 * n) nz) (ai a2 (ai (asb_t (show n≤v % (2 * n) from(li2 (.z n (.z (v % (2 * n)) (.z q .o))) (nat_lit 0x1f7d69235a58d8964) hq p1))) (ai rt (ai (frz_at a1) (ai (frz_at a4) (ai (frz_at a3) (Eq.refl r)))))))))))
  exact fin_eq [.r 0 _,.d _ _,.r 2 _,.d _ _,.d _ _,.r 2 _,.b true,.b true,.r 1 _,.r 4 _,.r 3 _] (hh _)
 ·have es:=sub_ints (cs:=cs) q0 (by rw [B.2.1];exact li2 (.z q (.z (w * h) (.z n .o))) (nat_lit 0x7df5e48de5a3958964) hn p1) (by have:=B.2.1;exact li3 (.n (cs.length) (.z n (.z (w * h) .o))) (nat_lit 0x7df7d94041a3625563624956409064) n1 hn this)
  by_cases p2:cv cs q=0
  ·by_cases p3:0 < q / w
   ·by_cases p4:q / w < h - 1
    ·refine⟨q,?_⟩
     generalize cs.map D.int=M at *
     generalize ns.map D.int=N at *
     have hh:=fun r:Ev (D×Kd)=>ai a0 (ai ea (ai a2 (ai (@v_mul (2) (n) (by decide) na) (ai (show bop Bop.fmod (D.int v) (D.int (2 * n))=some (D.int q,Kd.pl) from by rw [← hq];exact(@v_fmod (v) (2 * n) nz)) (ai a2 (ai (asb_f p1) (ai a4 (ai (show sub (D.lst M) (D.int q)=some (D.int 0) from by rw [← p2];exact es) (ai rf (ai a1 (ai (@s0 (w) (h)) (ai (@v_fdiv (q) (w) w0 wl) (ai (asb_t p3) (ai a1 (ai (@s1 (w) (h)) (ai (asb_nt p4) (ai (frz_at a1) (ai (frz_at a4) (ai (frz_at a3) (Eq.refl r))))))))))))))))))))
     exact fin_eq [.r 0 _,.d _ _,.r 2 _,.d _ _,.d _ _,.r 2 _,.b false,.r 4 _,.v _,.b false,.r 1 _,.v _,.d _ _,.b true,.r 1 _,.v _,.b false,.r 1 _,.r 4 _,.r 3 _] (hh _)
    ·refine⟨-1,?_⟩
     generalize cs.map D.int=M at *
     generalize ns.map D.int=N at *
     have hh:=fun r:Ev (D×Kd)=>ai a0 (ai ea (ai a2 (ai (@v_mul (2) (n) (by decide) na) (ai (@v_fmod (v) (2 * n) nz) (ai a2 (ai (asb_f (show ¬ (n≤v % (2 * n)) from(li2 (.z n (.z (v % (2 * n)) (.z q .o))) (nat_lit 0x1f7de5a48de5a58d8964) hq p1))) (ai a4 (ai (show sub (D.lst M) (D.int (v % (2 * n)))=some (D.int 0) by simp [hq,p2,es]) (ai rf (ai a1 (ai (@s0 (w) (h)) (ai (@v_fdiv (v % (2 * n)) (w) w0 wl) (ai (asb_t (show 0 < v % (2 * n) / w from(by simp [hq,p3]))) (ai a1 (ai (@s1 (w) (h)) (ai (asb_nf (show ¬v % (2 * n) / w < h - 1 from(by simp [hq,p4]))) (ai (frz_at a1) (ai (frz_at a4) (ai (frz_at a3) (Eq.refl r))))))))))))))))))))
     exact fin_eq [.r 0 _,.d _ _,.r 2 _,.d _ _,.d _ _,.r 2 _,.b false,.r 4 _,.v _,.b false,.r 1 _,.v _,.d _ _,.b true,.r 1 _,.v _,.b true,.r 1 _,.r 4 _,.r 3 _] (hh _)
   ·refine⟨-1,?_⟩
    generalize cs.map D.int=M at *
    generalize ns.map D.int=N at *
    have hh:=fun r:Ev (D×Kd)=>ai a0 (ai ea (ai a2 (ai (@v_mul (2) (n) (by decide) na) (ai (@v_fmod (v) (2 * n) nz) (ai a2 (ai (asb_f (show ¬ (n≤v % (2 * n)) from(li2 (.z n (.z (v % (2 * n)) (.z q .o))) (nat_lit 0x1f7de5a48de5a58d8964) hq p1))) (ai a4 (ai (show sub (D.lst M) (D.int (v % (2 * n)))=some (D.int 0) by simp [hq,p2,es]) (ai rf (ai a1 (ai (@s0 (w) (h)) (ai (@v_fdiv (v % (2 * n)) (w) w0 wl) (ai (asb_f (show ¬0 < v % (2 * n) / w from(by simp [hq,p3]))) (ai rt (ai (frz_at a1) (ai (frz_at a4) (ai (frz_at a3) (Eq.refl r))))))))))))))))))
    exact fin_eq [.r 0 _,.d _ _,.r 2 _,.d _ _,.d _ _,.r 2 _,.b false,.r 4 _,.v _,.b false,.r 1 _,.v _,.d _ _,.b false,.b true,.r 1 _,.r 4 _,.r 3 _] (hh _)
  ·refine⟨-1,?_⟩
   generalize cs.map D.int=M at *
   generalize ns.map D.int=N at *
   have hh:=fun r:Ev (D×Kd)=>ai a0 (ai ea (ai a2 (ai (@v_mul (2) (n) (by decide) na) (ai (@v_fmod (v) (2 * n) nz) (ai a2 (ai (asb_f (show ¬ (n≤v % (2 * n)) from(li2 (.z n (.z (v % (2 * n)) (.z q .o))) (nat_lit 0x1f7de5a48de5a58d8964) hq p1))) (ai a4 (ai (show sub (D.lst M) (D.int (v % (2 * n)))=some (D.int (cv cs q)) by simp [hq,es]) (ai (asb_nf p2) (ai rt (ai (frz_at a1) (ai (frz_at a4) (ai (frz_at a3) (Eq.refl r))))))))))))))
   exact fin_eq [.r 0 _,.d _ _,.r 2 _,.d _ _,.d _ _,.r 2 _,.b false,.r 4 _,.v _,.b true,.b true,.r 1 _,.r 4 _,.r 3 _] (hh _)
theorem p_dr:p_law_draw=⟨1,p_law_draw.body.take 7 ++ ([.forR 7 (.lit (.int 3)) (.lit (.int 11)) b_dr] ++ p_law_draw.body.drop 8)⟩:=rfl
theorem s_law_draw (k:Nat) {ns:List Int} (hl:ns.length≤100):
  ∃ (w h:Int) (cs:List Int) (sd ep:Int),callX tab (k+2) f_law_draw [.lst (ns.map .int)]=Ev.ok (.tup [.tup [.int w,.int h],.lst (cs.map .int),.int sd,.int ep],.pl)∧Board w h cs∧(sd=0∨sd=1):=by
 obtain⟨σ0,w,h,cs,sd,x0,H0,hs⟩:=dr_pre k hl
 obtain⟨σ1,c1,x1,H1⟩:=dr_loop k hl [3,4,5,6,7,8,9,10] cs σ0 (by decide) H0
 obtain⟨ep,x2⟩:=dr_tail k hl H1
 refine⟨w,h,c1,sd,ep,?_,H1.B,hs⟩
 have hr:rangeD 3 11=some ([3,4,5,6,7,8,9,10].map .int):=by rfl
 have x3:exs (callX tab (k+1)) [.forR 7 (.lit (.int 3)) (.lit (.int 11)) b_dr] σ0=Ev.ok (.next,σ1):=by
  generalize List.map D.int [3,4,5,6,7,8,9,10]=R at *
  have hh:=fun r:Fl×Sg=>ai hr (ai x1 (Eq.refl r))
  exact run_eq [.l _,.f _ _] (hh _)
 show runF (callX tab (k+1)) p_law_draw [_]=_
 rw [runF_fin _ _ _ rfl,p_dr]
 show(exs _ (_ ++ (_ ++ _)) _).bind fin=_
 rw [exs_app]
 show((exs (callX tab (k+1)) (p_law_draw.body.take 7) (start 1 [.lst (ns.map .int)])).bind _).bind fin=_
 rw [x0,Ev.bind_ok]
 show(exs (callX tab (k+1)) ([.forR 7 (.lit (.int 3)) (.lit (.int 11)) b_dr] ++ p_law_draw.body.drop 8) σ0).bind fin=_
 rw [exs_app,x3]
 exact x2
end Mine

namespace Mine
theorem compGo_map {α:Type} (F:D→Ev (Option D)) (f g:α→D):∀ (xs:List α),(∀ x ∈ xs,F (f x)=Ev.ok (some (g x)))→compGo F (xs.map f)=Ev.ok (xs.map g):=by
 intro xs
 induction xs with
 | nil=>intro _;rfl
 | cons x r ih=>
  intro h
  show(F (f x)).bind _=_
  rw [h x (by simp),Ev.bind_ok,ih fun y hy=>h y (by simp [hy])];rfl
theorem ev_cmap {α:Type} (Φ:Nat→List D→Ev (D×Kd)) {xs:List α} {f g:α→D} {elt it:X} {v:Nat} {σ:Sg} {kd:Kd} (hl:xs.length≤100000) (hit:ev Φ it σ=Ev.ok (.lst (xs.map f),kd)) (hk:kd.isTr=false)
  (he:∀ x ∈ xs,ev Φ elt (upd σ v ⟨f x,false⟩)=Ev.ok (g x,.pl)):ev Φ (.comp elt v false it .non) σ=Ev.ok (.lst (xs.map g),.fr):=by
 have hi:items (.lst (xs.map f))=some (xs.map f):=items_lst (by simpa using hl)
 have hc:=compGo_map (fun d=>(if isNon .non then Ev.ok true else (ev Φ .non (upd σ v ⟨d,false⟩)).bind fun c=>Ev.of (asB c.1)).bind fun ok=>
    if ok then (ev Φ elt (upd σ v ⟨d,false⟩)).bind fun r=>(Ev.of (frz r)).bind fun y=>Ev.ok (some y) else Ev.ok Option.none) f g xs (by
  intro x hx
  simp only [n_non,if_true,Ev.bind_ok,he x hx,frz_pl,Ev.of_some])
 rw [e_comp,hit,Ev.bind_ok]
 simp only [hk,Bool.false_eq_true,if_false,hi,Ev.of_some,Ev.bind_ok,hc,Ev.calm_ok]
theorem compGo_keep (F:D→Ev (Option D)) (ms:List Mv):∀ (is:List Int),(∀ i ∈ is,F (.int i)=Ev.ok Option.none∨∃ m ∈ ms,F (.int i)=Ev.ok (some m.d))→∃ ks:List Mv,compGo F (is.map .int)=Ev.ok (ks.map Mv.d)∧(∀ m ∈ ks,m ∈ ms)∧ks.length≤is.length:=by
 intro is
 induction is with
 | nil=>intro _;exact⟨[],rfl,by simp,by simp⟩
 | cons i r ih=>
  intro h
  obtain⟨ks,a,b,c⟩:=ih fun y hy=>h y (by simp [hy])
  rcases h i (by simp) with e | ⟨m,hm,e⟩
  ·refine⟨ks,?_,b,by simp;exact li1 (.n (ks.length) (.n (r.length) .o)) (nat_lit 0x7d94500648d9923) c⟩
   show(F (.int i)).bind _=_
   rw [e,Ev.bind_ok,a];rfl
  ·refine⟨m :: ks,?_,?_,by simp;exact li1 (.n (ks.length) (.n (r.length) .o)) (nat_lit 2157760583971) c⟩
   ·show(F (.int i)).bind _=_
    rw [e,Ev.bind_ok,a];rfl
   ·intro x hx;rw [List.mem_cons] at hx;rcases hx with e | e
    ·rw [e];exact hm
    ·exact b x e
theorem sub_mv {ms:List Mv} {i:Int} (h0:0≤i) (h1:i < ms.length) (h2:ms.length≤100000):∃ m ∈ ms,sub (.lst (ms.map Mv.d)) (.int i)=some m.d:=by
 have:i.toNat < ms.length:=by exact li3 (.n (i.toNat) (.n (ms.length) (.z i .o))) (nat_lit 0x1f7df6a48dd71b4008d740095c6255635a54005d59255a5400) h0 h1 (ltn (i))
 have h3:i < 1000000000:=by exact li2 (.z i (.n (ms.length) .o)) (nat_lit 0x1f7d740000a30a24b0e365000a1880645d5923) h1 h2
 exact⟨ms[i.toNat],List.getElem_mem _,by simp [sub,idxD,h0,h3,this]⟩
theorem pow_log {i:Int} (h0:0≤i) (h1:i≤4000):(0:Int) < 2 ^ i.toNat∧((2:Int) ^ i.toNat).natAbs.log2 < 9000:=by
 have e:((2:Int) ^ i.toNat).natAbs=2 ^ i.toNat:=by rw [Int.natAbs_pow];rfl
 refine⟨Int.pow_pos (by exact li0 .o (nat_lit 390079488)),?_⟩
 rw [e,Nat.log2_two_pow];exact li2 (.n (i.toNat) (.z i .o)) (nat_lit 0x7df6902020c28dd71b4008d740091c6245635a440059000a3e4) h1 (ltn (i))
noncomputable def x_kept:X:=.comp (.idx (.var 6) (.var 100)) 100 true (.fn1 .len (.var 6)) (.cmp .eq (.bin .fmod (.bin .fdiv (.var 5) (.bin .pow (.lit (.int 2)) (.var 100))) (.lit (.int 2))) (.lit (.int 0)))
theorem ev_kept (Φ:Nat→List D→Ev (D×Kd)) {ms:List Mv} (hm:ms.length≤3000) {dr:Int} {σ:Sg} (h5:σ 5=some ⟨.int dr,false⟩) (h6:σ 6=some ⟨.lst (ms.map Mv.d),true⟩):
  ∃ ks:List Mv,ev Φ x_kept σ=Ev.ok (.lst (ks.map Mv.d),.fr)∧(∀ m ∈ ks,m ∈ ms)∧ks.length≤ms.length:=by
 have hfl:fn1 .len (.lst (ms.map Mv.d))=some (.int ms.length):=by
  rw [f_lenl,if_pos (by simp only [List.length_map];unfold big;exact li1 (.n (ms.length) .o) (nat_lit 0x7d940000000006365020b2e3) hm),List.length_map]
 have hr:=range0 (n:=(ms.length:Int)) (by exact li0 (.n (ms.length) .o) (nat_lit 374748160)) (by exact li1 (.n (ms.length) .o) (nat_lit 0x7d740010210f56365020b2e3) hm)
 obtain⟨ks,a,b,c⟩:=compGo_keep (fun d=>(if isNon (.cmp .eq (.bin .fmod (.bin .fdiv (.var 5) (.bin .pow (.lit (.int 2)) (.var 100))) (.lit (.int 2))) (.lit (.int 0))) then Ev.ok true else (ev Φ (.cmp .eq (.bin .fmod (.bin .fdiv (.var 5) (.bin .pow (.lit (.int 2)) (.var 100))) (.lit (.int 2))) (.lit (.int 0))) (upd σ 100 ⟨d,false⟩)).bind fun c=>Ev.of (asB c.1)).bind fun ok=>
    if ok then (ev Φ (.idx (.var 6) (.var 100)) (upd σ 100 ⟨d,false⟩)).bind fun r=>(Ev.of (frz r)).bind fun y=>Ev.ok (some y) else Ev.ok Option.none) ms ((List.range (ms.length:Int).toNat).map fun (i:Nat)=>(i:Int)) (by
  intro i hi
  rw [List.mem_map] at hi
  obtain⟨j,hj,rfl⟩:=hi
  rw [List.mem_range] at hj
  have i0:(0:Int)≤(j:Int):=by exact li0 (.n j .o) (nat_lit 374748160)
  have i1:(j:Int) < ms.length:=by omega
  obtain⟨i,hi⟩:∃ i:Int,(j:Int)=i:=⟨_,rfl⟩
  rw [hi] at i0 i1 ⊢
  obtain⟨m,hmm,es⟩:=sub_mv i0 i1 (by exact li1 (.n (ms.length) .o) (nat_lit 0x1f65000a18806365020b2e3) hm)
  obtain⟨p0,pl⟩:=pow_log i0 (by exact li2 (.z i (.n (ms.length) .o)) (nat_lit 0x7df59000a3e35d592365020b2e4) hm i1)
  have e1:bop .pow (.int 2) (.int i)=some (.int (2 ^ i.toNat),.pl):=by rw [b_pow,if_pos ⟨rfl,i0,by exact li2 (.z i (.n (ms.length) .o)) (nat_lit 0x1f7d64000000635d592365020b2e4) hm i1⟩]
  have e2:bop .fdiv (.int dr) (.int (2 ^ i.toNat))=some (.int (dr / 2 ^ i.toNat),.pl):=by rw [b_fdiv,if_pos ⟨p0,pl⟩]
  generalize (2:Int) ^ i.toNat=P at *
  generalize ms.map Mv.d=M at *
  obtain⟨G,hG⟩:∃ G,m.d=G:=⟨_,rfl⟩
  by_cases q:dr / P % 2=0
  ·right
   refine⟨m,hmm,?_⟩
   rw [hG] at es ⊢
   simp [e_lit,e_var,e_bin,e_cmp,e_idx,n_cmp,h5,h6,upd,Ev.bind_ok,Ev.of_some,e1,e2,b_fmod,c_eqi,asB_b,q,es,tr_pl,tr_bo,frz_pl]
  ·left
   simp [e_lit,e_var,e_bin,e_cmp,e_idx,n_cmp,h5,h6,upd,Ev.bind_ok,Ev.of_some,e1,e2,b_fmod,c_eqi,asB_b,q,tr_pl,tr_bo])
 refine⟨ks,?_,b,by simpa using c⟩
 have e6:ev Φ (.fn1 .len (.var 6)) σ=Ev.ok (.int ms.length,.pl):=by
  generalize ms.map Mv.d=M at *
  simp [e_var,e_fn1,h6,Ev.bind_ok,hfl,Ev.of_some]
 unfold x_kept
 rw [e_comp,e6,Ev.bind_ok]
 simp only [tr_pl,Bool.false_eq_true,if_false,if_true,hr,Ev.of_some,Ev.bind_ok]
 rw [a];rfl
theorem c_eqmv (ms:List Mv):cop .eq (.lst (ms.map Mv.d)) (.lst [])=some (decide (ms=[])):=by
 have h:eqOk 8 (.lst (ms.map Mv.d))=true:=by
  unfold eqOk;rw [List.all_eq_true];intro x hx
  obtain⟨m,-,rfl⟩:=List.mem_map.1 hx
  rfl
 show(if eqOk 8 (.lst (ms.map Mv.d)) && eqOk 8 (.lst []) then some (deq (.lst (ms.map Mv.d)) (.lst [])) else Option.none)=_
 rw [h]
 cases ms <;> rfl
end Mine

namespace Mine
noncomputable def mt1:List St:=p_law_moves_told.body.take 3
noncomputable def mt2:List St:=[.asg 7 x_kept,.iff (.cmp .eq (.var 7) (.lst [])) [.asg 7 (.var 6)] []]
noncomputable def x_nums:X:=.comp (.call f_law_number [(.var 101)]) 101 false (.var 7) .non
noncomputable def x_longs:X:=.comp (.call f_law_long [(.var 1),(.var 2),(.var 102)]) 102 false (.var 7) .non
noncomputable def x_digits:X:=.comp (.call f_law_digits [(.var 1),(.var 103)]) 103 false (.var 7) .non
noncomputable def mt3:List St:=[.asg 8 x_nums,.asg 9 x_longs,.asg 10 x_digits]
noncomputable def mt4:List St:=(p_law_moves_told.body.drop 8).take 11
noncomputable def x_wires:X:=.comp (.bin .add (.bin .add (.call f_law_name [(.var 1),(.idx (.var 104) (.lit (.int 0)))]) (.call f_law_name [(.var 1),(.idx (.var 104) (.lit (.int 1)))])) (.idx (.lst [(.lit (.str [])),(.lit (.str [])),(.lit (.str [110])),(.lit (.str [98])),(.lit (.str [114])),(.lit (.str [113]))]) (.idx (.var 104) (.lit (.int 3))))) 104 false (.var 7) .non
noncomputable def mt5:List St:=[.asg 15 x_wires,
 .asg 12 (.call f_law_bend [(.var 0),(.lit (.int 15)),(.idx (.var 15) (.var 11))]),
 .ret (.cmp .eq (.call f_law_sought [(.var 1),(.var 8),(.var 12)]) (.call f_law_find [(.var 15),(.var 8),(.var 12)]))]
theorem p_mt:p_law_moves_told=⟨1,mt1 ++ (mt2 ++ (mt3 ++ (mt4 ++ mt5)))⟩:=rfl
theorem mt1_run (k:Nat) {ns:List Int} (hl:ns.length≤100):
  ∃ (σ:Sg) (w h:Int) (cs:List Int) (ms:List Mv) (dr:Int),exs (callX tab (k+5)) mt1 (start 1 [.lst (ns.map .int)])=Ev.ok (.next,σ)∧Shp w h∧(∀ m ∈ ms,MvOk (w * h) cs m)∧ms.length≤2000∧
   σ 0=some ⟨.lst (ns.map .int),false⟩∧σ 1=some ⟨.tup [.int w,.int h],false⟩∧σ 2=some ⟨.lst (cs.map .int),false⟩∧σ 5=some ⟨.int dr,false⟩∧σ 6=some ⟨.lst (ms.map Mv.d),true⟩:=by
 obtain⟨w,h,cs,sd,ep,e,B,hs⟩:=s_law_draw (k+3) hl
 obtain⟨ms,e2,ok,lm⟩:=s_law_moves (k+1) B (ep:=ep) hs
 have ea:=s_law_at (k+4) ns (i:=12) (by exact li0 .o (nat_lit 373343232)) (by exact li0 .o (nat_lit 1597865735180)) hl
 generalize atv ns 12=dr at *
 refine⟨upd (upd (upd (upd (upd (upd (start 1 [.lst (ns.map .int)]) 1 ⟨.tup [.int w,.int h],false⟩) 2 ⟨.lst (cs.map .int),false⟩) 3 ⟨.int sd,false⟩) 4 ⟨.int ep,false⟩) 5 ⟨.int dr,false⟩) 6 ⟨.lst (ms.map Mv.d),true⟩,w,h,cs,ms,dr,?_,B.1,ok,lm,rfl,rfl,rfl,rfl,rfl⟩
 generalize cs.map D.int=M at *
 generalize ns.map D.int=N at *
 generalize ms.map Mv.d=R at *
 have hh:=fun r:Fl×Sg=>ai e (ai ea (ai e2 (Eq.refl r)))
 exact run_eq [.d _ _,.d _ _,.d _ _] (hh _)
end Mine

namespace Mine
theorem mt2_run (Φ:Nat→List D→Ev (D×Kd)) {ns:List Int} {w h:Int} {cs:List Int} {ms:List Mv} {dr:Int} {σ:Sg} (ok:∀ m ∈ ms,MvOk (w * h) cs m) (hm:ms.length≤2000)
  (h0:σ 0=some ⟨.lst (ns.map .int),false⟩) (h1:σ 1=some ⟨.tup [.int w,.int h],false⟩) (h2:σ 2=some ⟨.lst (cs.map .int),false⟩) (h5:σ 5=some ⟨.int dr,false⟩) (h6:σ 6=some ⟨.lst (ms.map Mv.d),true⟩):
  ∃ (σ':Sg) (ks:List Mv) (b:Bool),exs Φ mt2 σ=Ev.ok (.next,σ')∧(∀ m ∈ ks,MvOk (w * h) cs m)∧ks.length≤2000∧
   σ' 0=some ⟨.lst (ns.map .int),false⟩∧σ' 1=some ⟨.tup [.int w,.int h],false⟩∧σ' 2=some ⟨.lst (cs.map .int),false⟩∧σ' 7=some ⟨.lst (ks.map Mv.d),b⟩:=by
 obtain⟨ks,e,hk,lk⟩:=ev_kept Φ (by exact li1 (.n (ms.length) .o) (nat_lit 0x1f65020b2e365000d1e3) hm) h5 h6
 have ce:=c_eqmv ks
 by_cases q:ks=[]
 ·refine⟨upd (frz1 (upd σ 7 ⟨.lst (ks.map Mv.d),true⟩) 6) 7 ⟨.lst (ms.map Mv.d),false⟩,ms,false,?_,ok,hm,by simp [upd,frz1,h0],by simp [upd,frz1,h1],by simp [upd,frz1,h2],by simp [upd]⟩
  generalize ms.map Mv.d=M at *
  generalize ks.map Mv.d=K at *
  simp only [mt2,s_cons,x_asg,x_iff,e,Ev.bind_ok]
  simp [asB_b,h_bo,e_var,e_cmp,e_lst,e_nil,s_nil,Ev.bind_ok,Ev.of_some,upd,ce,q,h6]
 ·refine⟨upd σ 7 ⟨.lst (ks.map Mv.d),true⟩,ks,true,?_,fun m hm=>ok m (hk m hm),by exact li2 (.n (ks.length) (.n (ms.length) .o)) (nat_lit 0x1f7d94003478d992365000d1e4) hm lk,by simp [upd,h0],by simp [upd,h1],by simp [upd,h2],by simp [upd]⟩
  generalize ms.map Mv.d=M at *
  generalize ks.map Mv.d=K at *
  simp only [mt2,s_cons,x_asg,x_iff,e,Ev.bind_ok]
  simp [asB_b,h_bo,e_var,e_cmp,e_lst,e_nil,s_nil,Ev.bind_ok,Ev.of_some,upd,ce,q]
theorem mt3_run (k:Nat) {w h:Int} {cs:List Int} {ks:List Mv} {N:D} {b:Bool} {σ:Sg} (s:Shp w h) (ok:∀ m ∈ ks,MvOk (w * h) cs m) (hm:ks.length≤2000)
  (h0:σ 0=some ⟨N,false⟩) (h1:σ 1=some ⟨.tup [.int w,.int h],false⟩) (h2:σ 2=some ⟨.lst (cs.map .int),false⟩) (h7:σ 7=some ⟨.lst (ks.map Mv.d),b⟩):
  ∃ σ':Sg,exs (callX tab (k+2)) mt3 σ=Ev.ok (.next,σ')∧
   σ' 0=some ⟨N,false⟩∧σ' 1=some ⟨.tup [.int w,.int h],false⟩∧σ' 2=some ⟨.lst (cs.map .int),false⟩∧σ' 7=some ⟨.lst (ks.map Mv.d),b⟩∧
   σ' 8=some ⟨.lst ((ks.map Mv.num).map .int),true⟩∧σ' 9=some ⟨.lst ((ks.map (lng w cs)).map .str),true⟩∧σ' 10=some ⟨.lst ((ks.map (dgt w)).map .str),true⟩:=by
 have v7:∀ τ:Sg,τ 7=some ⟨.lst (ks.map Mv.d),b⟩→∃ kd:Kd,ev (callX tab (k+2)) (.var 7) τ=Ev.ok (.lst (ks.map Mv.d),kd)∧kd.isTr=false:=by
  intro τ ht
  cases b with
  | true=>exact⟨.bo,by simp [e_var,ht],rfl⟩
  | false=>exact⟨.pl,by simp [e_var,ht],rfl⟩
 obtain⟨k8,i8,t8⟩:=v7 σ h7
 have e8:ev (callX tab (k+2)) x_nums σ=Ev.ok (.lst (ks.map fun m=>.int m.num),.fr):=by
  refine ev_cmap _ (by exact li1 (.n (ks.length) .o) (nat_lit 0x1f65000a18806365000d1e3) hm) i8 t8 fun m hmm=>?_
  have e:=s_law_number (k+1) (ok m hmm)
  obtain⟨G,hG⟩:∃ G,m.d=G:=⟨_,rfl⟩
  rw [hG] at e ⊢
  have hh:=fun r:D×Kd=>ai e (Eq.refl r)
  exact ev_eq [.d _ _] (hh _)
 obtain⟨σ8,hσ8⟩:∃ σ8,upd σ 8 ⟨.lst (ks.map fun m=>.int m.num),true⟩=σ8:=⟨_,rfl⟩
 have g1:σ8 1=some ⟨.tup [.int w,.int h],false⟩:=by rw [← hσ8];simpa [upd] using h1
 have g2:σ8 2=some ⟨.lst (cs.map .int),false⟩:=by rw [← hσ8];simpa [upd] using h2
 have g7:σ8 7=some ⟨.lst (ks.map Mv.d),b⟩:=by rw [← hσ8];simpa [upd] using h7
 obtain⟨k9,i9,t9⟩:=v7 σ8 g7
 have e9:ev (callX tab (k+2)) x_longs σ8=Ev.ok (.lst (ks.map fun m=>.str (lng w cs m)),.fr):=by
  refine ev_cmap _ (by exact li1 (.n (ks.length) .o) (nat_lit 0x1f65000a18806365000d1e3) hm) i9 t9 fun m hmm=>?_
  have e:=s_law_long k s (ok m hmm)
  obtain⟨G,hG⟩:∃ G,m.d=G:=⟨_,rfl⟩
  rw [hG] at e ⊢
  generalize cs.map D.int=M at *
  have hh:=fun r:D×Kd=>ai g1 (ai g2 (ai e (Eq.refl r)))
  exact ev_eq [.r 1 _,.r 2 _,.d _ _] (hh _)
 obtain⟨σ9,hσ9⟩:∃ σ9,upd σ8 9 ⟨.lst (ks.map fun m=>.str (lng w cs m)),true⟩=σ9:=⟨_,rfl⟩
 have f1:σ9 1=some ⟨.tup [.int w,.int h],false⟩:=by rw [← hσ9];simpa [upd] using g1
 have f7:σ9 7=some ⟨.lst (ks.map Mv.d),b⟩:=by rw [← hσ9];simpa [upd] using g7
 obtain⟨k10,i10,t10⟩:=v7 σ9 f7
 have e10:ev (callX tab (k+2)) x_digits σ9=Ev.ok (.lst (ks.map fun m=>.str (dgt w m)),.fr):=by
  refine ev_cmap _ (by exact li1 (.n (ks.length) .o) (nat_lit 0x1f65000a18806365000d1e3) hm) i10 t10 fun m hmm=>?_
  have e:=s_law_digits (k+1) s (ok m hmm)
  obtain⟨G,hG⟩:∃ G,m.d=G:=⟨_,rfl⟩
  rw [hG] at e ⊢
  have hh:=fun r:D×Kd=>ai f1 (ai e (Eq.refl r))
  exact ev_eq [.r 1 _,.d _ _] (hh _)
 refine⟨upd σ9 10 ⟨.lst (ks.map fun m=>.str (dgt w m)),true⟩,?_,?_,?_,?_,?_,?_,?_,?_⟩
 ·simp only [mt3,s_cons,s_nil,x_asg,e8,Ev.bind_ok,hσ8,e9,hσ9,e10]
 all_goals subst hσ9;subst hσ8;simp [upd,h0,h1,h2,h7]
end Mine

namespace Mine
theorem asc_lt (k:Int):Asc (lt k):=by
 unfold lt Asc;intro c hc
 repeat' split at hc
 all_goals simp at hc;(first | exact li1 (.n c .o) (nat_lit 0x1f6900088db40e123) (q:=by kernel_rfl!) hc | exact li1 (.n c .o) (nat_lit 0x1f6900088db402123) (q:=by kernel_rfl!) hc | exact li1 (.n c .o) (nat_lit 0x1f6900088db402163) (q:=by kernel_rfl!) hc | exact li1 (.n c .o) (nat_lit 0x1f6900088db401163) (q:=by kernel_rfl!) hc | exact li1 (.n c .o) (nat_lit 0x1f6900088db40b123) (q:=by kernel_rfl!) hc)
theorem asc_nm {w h q:Int} (s:Shp w h) (q0:0≤q) (q1:q < w * h):Asc (nm w q):=by
 obtain⟨a0,a1,b0,b1,w0,w1,h1,hp,hs⟩:=on_board s q0 q1
 unfold nm Asc;intro c hc
 simp only [List.mem_cons,List.not_mem_nil,or_false] at hc
 exact li7 (.n c (.z (q % w) (.z w (.z (q / w) (.z h (.n ((q % w).toNat) (.n ((q / w).toNat) .o))))))) (nat_lit 0x1f7df7df7df6900088dd71b400a5740099c6265695a640075c6d00285d0024718915a1691001d6d1a500438db4684011a35901675901e55e7997964) a1 b1 w1 h1 hc (ltn (q % w)) (ltn (q / w))
theorem asc_dsq {w h q:Int} (s:Shp w h) (q0:0≤q) (q1:q < w * h):Asc (dsq w q):=by
 obtain⟨a0,a1,b0,b1,w0,w1,h1,hp,hs⟩:=on_board s q0 q1
 unfold dsq Asc;intro c hc
 simp only [List.mem_cons,List.not_mem_nil,or_false] at hc
 exact li7 (.n c (.z (q % w) (.z w (.z (q / w) (.z h (.n ((q % w).toNat) (.n ((q / w).toNat) .o))))))) (nat_lit 0x1f7df7df7df6900088dd71b400a5740099c6265695a640075c6d00285d0024718915a1691001d6d1a500438db4684010e35901675901e55e7997964) a1 b1 w1 h1 hc (ltn (q % w)) (ltn (q / w))
theorem asc_nil:Asc []:=fun c hc=>by simp at hc
theorem asc_cons {c:Nat} {t:List Nat} (h:c < 128) (h':Asc t):Asc (c :: t):=fun x hx=>by
 rw [List.mem_cons] at hx;rcases hx with e | e
 ·exact li2 (.n x (.n c .o)) (nat_lit 0x1f7da4002236e48da400224) h e
 ·exact h' x e
theorem lng_ok {w h:Int} {cs m} (s:Shp w h) (ok:MvOk (w * h) cs m):Asc (lng w cs m)∧(lng w cs m).length≤10:=by
 have n1:=asc_nm s ok.o0 ok.o1
 have n2:=asc_nm s ok.t0 ok.t1
 unfold lng
 split
 ·split <;> exact⟨by unfold Asc;decide,by decide⟩
 ·constructor
  ·refine asc_app (asc_app (asc_app (asc_app ?_ n1) ?_) n2) ?_
   ·split;exact asc_nil;exact asc_lt _
   ·split <;> exact asc_one (by (first | exact li0 .o (nat_lit 1803888427527) (q:=by kernel_rfl!) | exact li0 .o (nat_lit 1803888427842) (q:=by kernel_rfl!)))
   ·split;exact asc_cons (by exact li0 .o (nat_lit 1803888427843)) (asc_lt _);exact asc_nil
  ·simp only [List.length_append,nm_len]
   have l1:(if cv cs m.o % 8=1 then ([]:List Nat) else lt (cv cs m.o % 8)).length≤1:=by split;simp;rw [lt_len];exact li0 .o (nat_lit 423629825)
   have l2:(if cv cs m.t≠0∨m.s=2 then ([120]:List Nat) else [45]).length≤1:=by split <;> simp
   have l3:(if 0 < m.p then 61 :: lt m.p else []).length≤2:=by split;simp [lt_len];simp
   exact li3 (.n ((if cv cs m.o % 8=1 then [] else lt (cv cs m.o % 8)).length) (.n ((if cv cs m.t≠0∨m.s=2 then [120] else [45]).length) (.n ((if 0 < m.p then 61 :: lt m.p else []).length) .o))) (nat_lit 0x1f7df6502919514024644500a36500a5650064650063) l1 l2 l3
theorem dgt_ok {w h:Int} {cs m} (s:Shp w h) (ok:MvOk (w * h) cs m):Asc (dgt w m)∧(dgt w m).length≤10:=by
 refine⟨asc_app (asc_app (asc_dsq s ok.o0 ok.o1) (asc_dsq s ok.t0 ok.t1)) ?_,by rw [dgt_len];split;exact li0 .o (nat_lit 423666692);exact li0 .o (nat_lit 423666693)⟩
 split;exact asc_nil;exact asc_one (by exact li1 (.n (54 - m.p.toNat) (.n (m.p.toNat) .o)) (nat_lit 0x7da40022375c6d00236a44060dc6d01834648d94060e4) (lsn (54) (m.p.toNat)))
theorem wir_ok {w h:Int} {cs m} (s:Shp w h) (ok:MvOk (w * h) cs m):Asc (wir w m)∧(wir w m).length≤10:=by
 refine⟨asc_app (asc_app (asc_nm s ok.o0 ok.o1) (asc_nm s ok.t0 ok.t1)) ?_,by rw [wir_len w ok];split;exact li0 .o (nat_lit 423666692);exact li0 .o (nat_lit 423666693)⟩
 unfold wpl;repeat' split
 all_goals unfold Asc;decide
theorem c_pm (t:List Nat):cop .isin (.str t) (.tup [.str [43],.str [35]])=some (decide (t=[43]∨t=[35])):=by
 have h2:([D.str [43],D.str [35]].any fun x=>deq x (.str t))=decide (t=[43]∨t=[35]):=by
  rw [Bool.eq_iff_iff]
  simp only [List.any_cons,List.any_nil,deq,Bool.or_false,Bool.or_eq_true,beq_iff_eq,decide_eq_true_eq]
  exact⟨fun h=>h.imp Eq.symm Eq.symm,fun h=>h.imp Eq.symm Eq.symm⟩
 have h3:cop .isin (.str t) (.tup [.str [43],.str [35]])=if eqOk 8 (.str t) && [D.str [43],D.str [35]].all (eqOk 8) then some ([D.str [43],D.str [35]].any fun x=>deq x (.str t)) else Option.none:=by
  cases t with
  | nil=>rfl
  | cons a r=>cases r <;> rfl
 rw [h3,h2];rfl
theorem last_slc (t:List Nat) (h:t.length≤1000):slc (.str t) (.int (-1)) .none=some (.str (t.drop (t.length - 1)),.pl):=by
 have hb:t.length≤big:=by unfold big;exact li1 (.n (t.length) .o) (nat_lit 0x7d940000000006365020e0e3) h
 rw [slc_s,clip_i,clip_n,if_pos (by exact li0 .o (nat_lit 0x71740000a30a24b0d44015d440151000028c2892c3)),if_pos (by exact li0 .o (nat_lit 24964580353)),Option.bind_some,Option.bind_some,if_pos hb,last_toNat]
 simp [cut]
theorem head_slc (t:List Nat) {i:Int} (h:t.length≤1000) (h0:0≤i) (h1:i≤t.length):slc (.str t) .none (.int i)=some (.str (t.take i.toNat),.pl):=by
 have hb:t.length≤big:=by unfold big;exact li1 (.n (t.length) .o) (nat_lit 0x7d940000000006365020e0e3) h
 have g:min i.toNat t.length=i.toNat:=by exact li3 (.n (min i.toNat t.length) (.n (i.toNat) (.n (t.length) (.z i .o)))) (nat_lit 0x7df7db92375c6d00245d002671899591699001d71b9636a495c6e48d9964595966) h1 (lnn (i.toNat) (t.length)) (ltn (i))
 rw [slc_s,clip_i,clip_n,if_pos (by exact li3 (.z i (.n (t.length) .o)) (nat_lit 0x1f7df71740000a30a24b0e35e351000028c2892c35959235a340065020e0e4) h h0 h1),if_neg (by exact li1 (.z i .o) (nat_lit 0x7de5d00235a3400) h0),Option.bind_some,Option.bind_some,if_pos hb,g]
 simp [cut]
theorem c_nen:cop .ne .none .none=some false:=rfl
theorem c_nep (n:Int) (s:List Nat):cop .ne (.tup [.int n,.str s]) (.tup [.int n,.str s])=some false:=by
 show Option.map (!·) (if eqOk 8 (.tup [.int n,.str s]) && eqOk 8 (.tup [.int n,.str s]) then some (deq (.tup [.int n,.str s]) (.tup [.int n,.str s])) else Option.none)=_
 have:deq (.tup [.int n,.str s]) (.tup [.int n,.str s])=true:=by simp [deq,deqs]
 rw [this];rfl
theorem c_neo (r:Option Int):cop .ne (oI r) (oI r)=some false:=by
 cases r with
 | none=>rfl
 | some n=>simp [oI,c_nei]
theorem c_eqo (r:Option Int):cop .eq (oI r) (oI r)=some true:=by
 cases r with
 | none=>rfl
 | some n=>simp [oI,c_eqi]
theorem scal_o (r:Option Int):scal (oI r)=true:=by cases r <;> rfl
end Mine

namespace Mine
theorem mt4_nil (Φ:Nat→List D→Ev (D×Kd)) {σ:Sg} (h9:σ 9=some ⟨.lst (([]:List (List Nat)).map .str),true⟩):((exs Φ (mt4 ++ mt5) σ).bind fin)=Ev.ok (.bool true,.pl):=by
 have ce:cop .eq (.lst []) (.lst [])=some true:=rfl
 rw [List.map_nil] at h9
 rw [exs_app]
 simp [asB_b,frz_pl,sto_pl,e_non,e_lit,e_var,e_bin,e_neg,e_cmp,e_or,e_call,e_fn1,e_idx,e_slc,e_tup,e_lst,e_nil,e_cons,x_asg,x_ret,x_iff,s_nil,s_cons,Ev.bind_ok,Ev.of_some,upd,List.mapM_cons,mt4,p_law_moves_told,h9,ce,fin_ret]
theorem mt4_run (k:Nat) {ns:List Int} (hl:ns.length≤100) {w h:Int} {cs:List Int} {ks:List Mv} {b:Bool} {σ:Sg} (s:Shp w h) (ok:∀ m ∈ ks,MvOk (w * h) cs m) (hm:ks.length≤2000) (hk:ks≠[])
  (h0:σ 0=some ⟨.lst (ns.map .int),false⟩) (h1:σ 1=some ⟨.tup [.int w,.int h],false⟩) (h2:σ 2=some ⟨.lst (cs.map .int),false⟩) (h7:σ 7=some ⟨.lst (ks.map Mv.d),b⟩)
  (h8:σ 8=some ⟨.lst ((ks.map Mv.num).map .int),true⟩) (h9:σ 9=some ⟨.lst ((ks.map (lng w cs)).map .str),true⟩) (h10:σ 10=some ⟨.lst ((ks.map (dgt w)).map .str),true⟩):
  ∃ (σ':Sg) (i:Nat),exs (callX tab (k+5)) mt4 σ=Ev.ok (.next,σ')∧i < ks.length∧
   σ' 0=some ⟨.lst (ns.map .int),false⟩∧σ' 1=some ⟨.tup [.int w,.int h],false⟩∧σ' 7=some ⟨.lst (ks.map Mv.d),b⟩∧σ' 8=some ⟨.lst ((ks.map Mv.num).map .int),true⟩∧σ' 11=some ⟨.int i,false⟩:=by
 have hlen:0 < ks.length:=List.length_pos_iff.2 hk
 have ea:=s_law_at (k+4) ns (i:=13) (by exact li0 .o (nat_lit 373347328)) (by exact li0 .o (nat_lit 1597865735181)) hl
 obtain⟨v,hv⟩:∃ v,atv ns 13=v:=⟨_,rfl⟩
 rw [hv] at ea
 obtain⟨L,hL⟩:∃ L:Int,(ks.length:Int)=L:=⟨_,rfl⟩
 have L0:0 < L:=by exact li2 (.z L (.n (ks.length) .o)) (nat_lit 0x7df5e34006235646a4400) hlen hL
 have q0:0≤v % L:=Int.emod_nonneg _ (by exact li2 (.z L (.n (ks.length) .o)) (nat_lit 0x1f7de6100236235646a4400) hlen hL)
 have q1:v % L < L:=Int.emod_lt_of_pos _ (by exact li1 (.z L .o) (nat_lit 8829301715514368) L0)
 obtain⟨i,hi⟩:∃ i:Nat,(i:Int)=v % L:=⟨(v % L).toNat,by exact li2 (.n ((v % L).toNat) (.z (v % L) .o)) (nat_lit 0x1f7d89158dd71b4008d740091c6245635a44005a4400) q0 (ltn (v % L))⟩
 have il:i < ks.length:=by exact li3 (.n i (.n (ks.length) (.z L (.z (v % L) .o)))) (nat_lit 0x1f7df6a48d89958d7966625564) hL q1 hi
 obtain⟨m,hmi⟩:∃ m,ks[i]?=some m:=⟨_,List.getElem?_eq_getElem il⟩
 have okm:MvOk (w * h) cs m:=ok m (List.mem_of_getElem? hmi)
 have e8:sub (.lst ((ks.map Mv.num).map .int)) (.int (i:Int))=some (.int m.num):=by
  rw [sub_nat _ (by exact li4 (.n i (.n (ks.length) (.z L (.z (v % L) .o)))) (nat_lit 0x1f7df7da4012862018d89958d796662556465000d1e4) hm hL q1 hi)];simp [hmi]
 have e9:sub (.lst ((ks.map (lng w cs)).map .str)) (.int (i:Int))=some (.str (lng w cs m)):=by
  rw [sub_nat _ (by exact li4 (.n i (.n (ks.length) (.z L (.z (v % L) .o)))) (nat_lit 0x1f7df7da4012862018d89958d796662556465000d1e4) hm hL q1 hi)];simp [hmi]
 have e10:sub (.lst ((ks.map (dgt w)).map .str)) (.int (i:Int))=some (.str (dgt w m)):=by
  rw [sub_nat _ (by exact li4 (.n i (.n (ks.length) (.z L (.z (v % L) .o)))) (nat_lit 0x1f7df7da4012862018d89958d796662556465000d1e4) hm hL q1 hi)];simp [hmi]
 have hfl:fn1 .len (.lst (ks.map Mv.d))=some (.int L):=by
  rw [f_lenl,if_pos (by simp only [List.length_map];unfold big;exact li1 (.n (ks.length) .o) (nat_lit 0x7d940000000006365000d1e3) hm),List.length_map,hL]
 have el:=s_long_of (k+2) s okm
 have ei:=s_iccf_of (k+2) s okm
 obtain⟨la,ll⟩:=lng_ok s okm
 obtain⟨da,dl⟩:=dgt_ok s okm
 obtain⟨t,eb,tl,ta⟩:=s_law_bend (k+3) (f:=15) hl (by exact li1 (.n ((lng w cs m).length) .o) (nat_lit 0x1f6501080e36502a3) ll) la (by exact li0 .o (nat_lit 373355520)) (by exact li0 .o (nat_lit 1597797053455))
 obtain⟨u,eu,ul,ua⟩:=s_law_bend (k+3) (f:=15) hl (by exact li1 (.n ((dgt w m).length) .o) (nat_lit 0x1f6501080e36502a3) dl) da (by exact li0 .o (nat_lit 373355520)) (by exact li0 .o (nat_lit 1597797053455))
 have s0:∀ a b:Int,sub (.tup [.int a,.int b]) (.int 0)=some (.int a):=fun _ _=>rfl
 have ne:cop .eq (.lst ((ks.map (lng w cs)).map .str)) (.lst [])=some false:=by
  have:=c_eqls (ks.map (lng w cs)) []
  rw [List.map_nil] at this
  rw [this];simp [hk]
 have sl1:=last_slc t (by exact li2 (.n (t.length) (.n ((lng w cs m).length) .o)) (nat_lit 0x7df65020e0e36514039236502a4) ll tl)
 have lt1:fn1 .len (.str t)=some (.int t.length):=by rw [f_lens,if_pos (by unfold big;exact li2 (.n (t.length) (.n ((lng w cs m).length) .o)) (nat_lit 0x1f7d94000000000636514039236502a4) ll tl)]
 have sg:sgn t=if t.drop (t.length - 1)=[43]∨t.drop (t.length - 1)=[35] then t.drop (t.length - 1) else []:=rfl
 have sgl:(sgn t).length≤t.length:=by rw [sg];split;rw [List.length_drop];exact li1 (.n (t.length - (t.length - 1)) (.n (t.length) (.n (t.length - 1) .o))) (nat_lit 0x7d992375c6d00236a591c6e44658d9925) (lsn (t.length) (t.length - 1));simp
 have lt2:fn1 .len (.str (sgn t))=some (.int (sgn t).length):=by rw [f_lens,if_pos (by unfold big;exact li3 (.n ((sgn t).length) (.n ((lng w cs m).length) (.n (t.length) .o))) (nat_lit 0x1f7df6500000000018d99636514039256502a4) ll tl sgl)]
 have sl2:slc (.str t) .none (.int ((t.length:Int) - (sgn t).length))=some (.str (bdy t),.pl):=by
  rw [head_slc t (by exact li2 (.n (t.length) (.n ((lng w cs m).length) .o)) (nat_lit 0x7df65020e0e36514039236502a4) ll tl) (by exact li1 (.n (t.length) (.n ((sgn t).length) .o)) (nat_lit 0x7d64959158d00198e4) sgl) (by exact li0 (.n (t.length) (.n ((sgn t).length) .o)) (nat_lit 98238020863331))]
  have:((t.length:Int) - ((sgn t).length:Int)).toNat=t.length - (sgn t).length:=by omega
  rw [this];rfl
 have ef:=s_law_find (k+4) (ks.map (lng w cs)) (ks.map Mv.num) (bdy t) (by simp) (by simp;exact li1 (.n (ks.length) .o) (nat_lit 0x1f65000a18806365000d1e3) hm)
 have ep:=s_law_picked k s ok (by exact li1 (.n (ks.length) .o) (nat_lit 0x1f65000a18806365000d1e3) hm) t (by exact li2 (.n (t.length) (.n ((lng w cs m).length) .o)) (nat_lit 0x1f7d94041a36514039236502a4) ll tl)
 have en:=s_law_named (k+2) s ok (by exact li1 (.n (ks.length) .o) (nat_lit 0x1f65000a18806365000d1e3) hm) u ua (by exact li2 (.n (u.length) (.n ((dgt w m).length) .o)) (nat_lit 0x1f7d940a1636514039236502a4) dl ul)
 have eg:=s_law_find (k+4) (ks.map (dgt w)) (ks.map Mv.num) u (by simp) (by simp;exact li1 (.n (ks.length) .o) (nat_lit 0x1f65000a18806365000d1e3) hm)
 obtain⟨j,hj⟩:∃ j:Int,v % L=j:=⟨_,rfl⟩
 rw [hj] at hi
 rw [hi] at e8 e9 e10
 have hcn:=c_neo
 obtain⟨tL,htL⟩:∃ tL:Int,(t.length:Int)=tL:=⟨_,rfl⟩
 obtain⟨sL,hsL⟩:∃ sL:Int,((sgn t).length:Int)=sL:=⟨_,rfl⟩
 rw [htL] at lt1 sl2
 rw [hsL] at lt2 sl2
 have cp:=c_pm (t.drop (t.length - 1))
 generalize fnd (ks.map (lng w cs)) (ks.map Mv.num) (bdy t)=r1 at *
 generalize fnd (ks.map (dgt w)) (ks.map Mv.num) u=r2 at *
 have ne1:cop .ne (.str (lng w cs m)) (.str (lng w cs m))=some false:=by rw [c_nes];simp
 have ne2:cop .ne (.str (dgt w m)) (.str (dgt w m))=some false:=by rw [c_nes];simp
 have f11:bop .fmod (.int v) (.int L)=some (.int j,.pl):=by rw [v_fmod L0,hj]
 have nP:cop .ne (dPick r1 (sgn t)) (dPick r1 (sgn t))=some false:=by
  cases r1 with
  | none=>exact c_nen
  | some n=>exact c_nep n _
 have nI:cop .ne (oI r2) (oI r2)=some false:=by
  cases r2 with
  | none=>exact c_nen
  | some n=>show some (!decide (n=n))=_;simp
 have r1n:∀ n:Int,cop .isnot (.int n) .none=some true:=fun _=>rfl
 have S5:∀ τ:Sg,τ 12=some ⟨.str t,false⟩→τ 13=some ⟨.str [],false⟩→ex (callX tab (k+5)) (s_at mt4 5) τ=Ev.ok (.next,upd τ 13 ⟨.str (sgn t),false⟩):=fun τ t12 t13=>by
  by_cases q:t.drop (t.length - 1)=[43]∨t.drop (t.length - 1)=[35]
  ·have hS:t.drop (t.length - 1)=sgn t:=by rw [sg,if_pos q]
   have cp2:cop .isin (.str (sgn t)) (.tup [.str [43],.str [35]])=some true:=by rw [← hS,cp];simp [q]
   rw [hS] at sl1
   generalize sgn t=S at *
   have hh:=fun r:Fl×Sg=>ai t12 (ai sl1 (ai cp2 (ai rt (ai t12 (ai sl1 (Eq.refl r))))))
   exact one_eq [.r 12 _,.d _ _,.b true,.b true,.r 12 _,.d _ _] (hh _)
  ·have cp2:cop .isin (.str (t.drop (t.length - 1))) (.tup [.str [43],.str [35]])=some false:=by rw [cp];simp [q]
   have hS:sgn t=[]:=by rw [sg,if_neg q]
   rw [hS,← sg_upd t13]
   generalize t.drop (t.length - 1)=la at *
   have hh:=fun r:Fl×Sg=>ai t12 (ai sl1 (ai cp2 (ai rf (Eq.refl r))))
   exact one_eq [.r 12 _,.d _ _,.b false,.b false] (hh _)
 have S7:∀ τ:Sg,τ 13=some ⟨.str (sgn t),false⟩→τ 14=some ⟨oI r1,false⟩→ex (callX tab (k+5)) (s_at mt4 7) τ=Ev.ok (.next,upd τ 14 ⟨dPick r1 (sgn t),false⟩):=fun τ t13 t14=>by
  generalize sgn t=S at *
  cases r1 with
  | none=>
   rw [show dPick Option.none S=oI Option.none from rfl,← sg_upd t14]
   have i2:cop .isnot .none .none=some false:=rfl
   simp only [oI] at t14
   have hh:=fun r:Fl×Sg=>ai t14 (ai i2 (ai rf (Eq.refl r)))
   exact one_eq [.r 14 _,.b false,.b false] (hh _)
  | some n=>
   simp only [oI] at t14
   have hh:=fun r:Fl×Sg=>ai t14 (ai (@r1n (n)) (ai rt (ai t14 (ai t13 (Eq.refl r)))))
   exact one_eq [.r 14 _,.b true,.b true,.r 14 _,.r 13 _] (hh _)
 refine⟨upd (upd (upd (upd (upd (upd (upd σ 11 ⟨.int j,false⟩) 12 ⟨.str t,false⟩) 13 ⟨.str [],false⟩) 13 ⟨.str (sgn t),false⟩) 14 ⟨oI r1,false⟩) 14 ⟨dPick r1 (sgn t),false⟩) 12 ⟨.str u,false⟩,i,?_,il,h0,h1,h7,h8,by rw [hi];rfl⟩
 have e5:=S5 (upd (upd (upd σ 11 ⟨.int j,false⟩) 12 ⟨.str t,false⟩) 13 ⟨.str [],false⟩) rfl rfl
 have e7:=S7 (upd (upd (upd (upd (upd σ 11 ⟨.int j,false⟩) 12 ⟨.str t,false⟩) 13 ⟨.str [],false⟩) 13 ⟨.str (sgn t),false⟩) 14 ⟨oI r1,false⟩) rfl rfl
 clear S5 S7 cp
 generalize ns.map D.int=N at *
 generalize cs.map D.int=M at *
 generalize ks.map Mv.d=K at *
 generalize (ks.map Mv.num).map D.int=NU at *
 generalize (ks.map (lng w cs)).map D.str=LO at *
 generalize (ks.map (dgt w)).map D.str=DI at *
 generalize lng w cs m=lx at *
 generalize dgt w m=dx at *
 generalize sgn t=S at *
 generalize bdy t=B at *
 have x2:ex (callX tab (k+5)) (s_at mt4 2) (upd σ 11 ⟨.int j,false⟩)=Ev.ok (.next,upd σ 11 ⟨.int j,false⟩):=by
  clear e5 e7
  have hh:=fun r:Fl×Sg=>ai h1 (ai (@s0 (w) (h)) (ai h2 (ai h8 (ai e8 (ai el (ai h9 (ai e9 (ai ne1 (ai rf (ai h1 (ai (@s0 (w) (h)) (ai h8 (ai e8 (ai ei (ai h10 (ai e10 (ai ne2 (ai rf (Eq.refl r)))))))))))))))))))
  exact one_eq [.r 1 _,.v _,.r 2 _,.r 8 _,.v _,.d _ _,.r 9 _,.v _,.b false,.b false,.r 1 _,.v _,.r 8 _,.v _,.d _ _,.r 10 _,.v _,.b false,.b false] (hh _)
 have x3:ex (callX tab (k+5)) (s_at mt4 3) (upd σ 11 ⟨.int j,false⟩)=Ev.ok (.next,upd (upd σ 11 ⟨.int j,false⟩) 12 ⟨.str t,false⟩):=by
  clear e5 e7
  have hh:=fun r:Fl×Sg=>ai h0 (ai h9 (ai e9 (ai eb (Eq.refl r))))
  exact one_eq [.r 0 _,.r 9 _,.v _,.d _ _] (hh _)
 have x6:∀ τ:Sg,τ 8=some ⟨.lst NU,true⟩→τ 9=some ⟨.lst LO,true⟩→τ 12=some ⟨.str t,false⟩→τ 13=some ⟨.str S,false⟩→ex (callX tab (k+5)) (s_at mt4 6) τ=Ev.ok (.next,upd τ 14 ⟨oI r1,false⟩):=fun τ t8 t9 t12 t13=>by
  clear e5 e7 x2 x3
  cases r1 with
  | none=>(have hh:=fun r:Fl×Sg=>ai t9 (ai t8 (ai t12 (ai t12 (ai lt1 (ai t13 (ai lt2 (ai sl2 (ai ef (Eq.refl r)))))))));exact one_eq [.r 9 _,.r 8 _,.r 12 _,.r 12 _,.v _,.r 13 _,.v _,.d _ _,.d _ _] (hh _))
  | some n=>(have hh:=fun r:Fl×Sg=>ai t9 (ai t8 (ai t12 (ai t12 (ai lt1 (ai t13 (ai lt2 (ai sl2 (ai ef (Eq.refl r)))))))));exact one_eq [.r 9 _,.r 8 _,.r 12 _,.r 12 _,.v _,.r 13 _,.v _,.d _ _,.d _ _] (hh _))
 have x8:∀ τ:Sg,τ 1=some ⟨.tup [.int w,.int h],false⟩→τ 2=some ⟨.lst M,false⟩→τ 8=some ⟨.lst NU,true⟩→τ 12=some ⟨.str t,false⟩→τ 14=some ⟨dPick r1 S,false⟩→ex (callX tab (k+5)) (s_at mt4 8) τ=Ev.ok (.next,τ):=fun τ t1 t2 t8 t12 t14=>by
  clear e5 e7 x2 x3 x6
  cases r1 with
  | none=>(have hh:=fun r:Fl×Sg=>ai t1 (ai (@s0 (w) (h)) (ai t2 (ai t8 (ai t12 (ai ep (ai t14 (ai nP (ai rf (Eq.refl r)))))))));exact one_eq [.r 1 _,.v _,.r 2 _,.r 8 _,.r 12 _,.d _ _,.r 14 _,.b false,.b false] (hh _))
  | some n=>(have hh:=fun r:Fl×Sg=>ai t1 (ai (@s0 (w) (h)) (ai t2 (ai t8 (ai t12 (ai ep (ai t14 (ai nP (ai rf (Eq.refl r)))))))));exact one_eq [.r 1 _,.v _,.r 2 _,.r 8 _,.r 12 _,.d _ _,.r 14 _,.b false,.b false] (hh _))
 have x9:∀ τ:Sg,τ 0=some ⟨.lst N,false⟩→τ 10=some ⟨.lst DI,true⟩→τ 11=some ⟨.int j,false⟩→ex (callX tab (k+5)) (s_at mt4 9) τ=Ev.ok (.next,upd τ 12 ⟨.str u,false⟩):=fun τ t0 t10 t11=>by
  clear e5 e7 x2 x3 x6 x8
  have hh:=fun r:Fl×Sg=>ai t0 (ai t10 (ai t11 (ai e10 (ai eu (Eq.refl r)))))
  exact one_eq [.r 0 _,.r 10 _,.r 11 _,.v _,.d _ _] (hh _)
 have x10:∀ τ:Sg,τ 1=some ⟨.tup [.int w,.int h],false⟩→τ 8=some ⟨.lst NU,true⟩→τ 10=some ⟨.lst DI,true⟩→τ 12=some ⟨.str u,false⟩→ex (callX tab (k+5)) (s_at mt4 10) τ=Ev.ok (.next,τ):=fun τ t1 t8 t10 t12=>by
  clear e5 e7 x2 x3 x6 x8 x9
  cases r2 with
  | none=>(have hh:=fun r:Fl×Sg=>ai t1 (ai t8 (ai t12 (ai en (ai t10 (ai t8 (ai t12 (ai eg (ai nI (ai rf (Eq.refl r))))))))));exact one_eq [.r 1 _,.r 8 _,.r 12 _,.d _ _,.r 10 _,.r 8 _,.r 12 _,.d _ _,.b false,.b false] (hh _))
  | some n=>(have hh:=fun r:Fl×Sg=>ai t1 (ai t8 (ai t12 (ai en (ai t10 (ai t8 (ai t12 (ai eg (ai (asb_nt (show n=n from(li0 (.z n .o) (nat_lit 100579)))) (Eq.refl r)))))))));exact one_eq [.r 1 _,.r 8 _,.r 12 _,.d _ _,.r 10 _,.r 8 _,.r 12 _,.d _ _,.b false] (hh _))
 have x0:ex (callX tab (k+5)) (s_at mt4 0) σ=Ev.ok (.next,σ):=by (have hh:=fun r:Fl×Sg=>ai h9 (ai ne (ai rf (Eq.refl r)));exact one_eq [.r 9 _,.b false,.b false] (hh _))
 have x1:ex (callX tab (k+5)) (s_at mt4 1) σ=Ev.ok (.next,upd σ 11 ⟨.int j,false⟩):=by
  clear e5 e7 x2 x3 x6 x8 x9 x10
  cases b with
  | true=>(have hh:=fun r:Fl×Sg=>ai h0 (ai ea (ai h7 (ai hfl (ai f11 (Eq.refl r)))));exact one_eq [.r 0 _,.d _ _,.r 7 _,.v _,.d _ _] (hh _))
  | false=>(have hh:=fun r:Fl×Sg=>ai h0 (ai ea (ai h7 (ai hfl (ai f11 (Eq.refl r)))));exact one_eq [.r 0 _,.d _ _,.r 7 _,.v _,.d _ _] (hh _))
 exact(exs_cons1 x0).trans <| (exs_cons1 x1).trans <| (exs_cons1 x2).trans <| (exs_cons1 x3).trans <| (exs_cons1 rfl).trans <| (exs_cons1 e5).trans <| (exs_cons1 (x6 (upd (upd (upd (upd σ 11 ⟨.int j,false⟩) 12 ⟨.str t,false⟩) 13 ⟨.str [],false⟩) 13 ⟨.str S,false⟩) h8 h9 rfl rfl)).trans <| (exs_cons1 e7).trans <|
  (exs_cons1 (x8 (upd (upd (upd (upd (upd (upd σ 11 ⟨.int j,false⟩) 12 ⟨.str t,false⟩) 13 ⟨.str [],false⟩) 13 ⟨.str S,false⟩) 14 ⟨oI r1,false⟩) 14 ⟨dPick r1 S,false⟩) h1 h2 h8 rfl rfl)).trans <| (exs_cons1 (x9 (upd (upd (upd (upd (upd (upd σ 11 ⟨.int j,false⟩) 12 ⟨.str t,false⟩) 13 ⟨.str [],false⟩) 13 ⟨.str S,false⟩) 14 ⟨oI r1,false⟩) 14 ⟨dPick r1 S,false⟩) h0 h10 rfl)).trans <| (exs_cons1 (x10 (upd (upd (upd (upd (upd (upd (upd σ 11 ⟨.int j,false⟩) 12 ⟨.str t,false⟩) 13 ⟨.str [],false⟩) 13 ⟨.str S,false⟩) 14 ⟨oI r1,false⟩) 14 ⟨dPick r1 S,false⟩) 12 ⟨.str u,false⟩) h1 h8 h10 rfl)).trans rfl
end Mine

namespace Mine
theorem ev_wires (k:Nat) {w h:Int} {cs:List Int} {ks:List Mv} {b:Bool} {σ:Sg} (s:Shp w h) (ok:∀ m ∈ ks,MvOk (w * h) cs m) (hm:ks.length≤2000)
  (h1:σ 1=some ⟨.tup [.int w,.int h],false⟩) (h7:σ 7=some ⟨.lst (ks.map Mv.d),b⟩):ev (callX tab (k+1)) x_wires σ=Ev.ok (.lst (ks.map fun m=>.str (wir w m)),.fr):=by
 have v7:∃ kd:Kd,ev (callX tab (k+1)) (.var 7) σ=Ev.ok (.lst (ks.map Mv.d),kd)∧kd.isTr=false:=by
  cases b with
  | true=>exact⟨.bo,by simp [e_var,h7],rfl⟩
  | false=>exact⟨.pl,by simp [e_var,h7],rfl⟩
 obtain⟨k7,i7,t7⟩:=v7
 refine ev_cmap _ (by exact li1 (.n (ks.length) .o) (nat_lit 0x1f65000a18806365000d1e3) hm) i7 t7 fun m hmm=>?_
 have okm:=ok m hmm
 have no:=s_law_name k s okm.o0 okm.o1
 have nt:=s_law_name k s okm.t0 okm.t1
 have hp:=wpl_at (sp_q okm)
 have d0:sub m.d (.int 0)=some (.int m.o):=rfl
 have d1:sub m.d (.int 1)=some (.int m.t):=rfl
 have d3:sub m.d (.int 3)=some (.int m.p):=rfl
 have hl:=wir_len w okm
 have b1:bop .add (.str (nm w m.o)) (.str (nm w m.t))=some (.str (nm w m.o ++ nm w m.t),.pl):=by
  rw [b_adds,if_pos (by rw [nm_len,nm_len];unfold big;exact li0 .o (nat_lit 0x19400000000051402402))]
 have b2:bop .add (.str (nm w m.o ++ nm w m.t)) (.str (wpl m.p))=some (.str (wir w m),.pl):=by
  rw [b_adds,if_pos];rfl
  unfold wir at hl
  rw [← List.length_append,hl];unfold big;split;exact li0 .o (nat_lit 0x650000000001404);exact li0 .o (nat_lit 0x650000000001405)
 generalize m.d=G at *
 generalize nm w m.o=x at *
 generalize nm w m.t=y at *
 generalize wpl m.p=z at *
 have hh:=fun r:D×Kd=>ai h1 (ai d0 (ai no (ai h1 (ai d1 (ai nt (ai b1 (ai d3 (ai hp (ai b2 (Eq.refl r))))))))))
 exact ev_eq [.r 1 _,.v _,.d _ _,.r 1 _,.v _,.d _ _,.d _ _,.v _,.v _,.d _ _] (hh _)
theorem mt5_run (k:Nat) {ns:List Int} (hl:ns.length≤100) {w h:Int} {cs:List Int} {ks:List Mv} {b:Bool} {σ:Sg} {i:Nat} (s:Shp w h) (ok:∀ m ∈ ks,MvOk (w * h) cs m) (hm:ks.length≤2000) (il:i < ks.length)
  (h0:σ 0=some ⟨.lst (ns.map .int),false⟩) (h1:σ 1=some ⟨.tup [.int w,.int h],false⟩) (h7:σ 7=some ⟨.lst (ks.map Mv.d),b⟩)
  (h8:σ 8=some ⟨.lst ((ks.map Mv.num).map .int),true⟩) (h11:σ 11=some ⟨.int i,false⟩):
  (exs (callX tab (k+5)) mt5 σ).bind fin=Ev.ok (.bool true,.pl):=by
 have ew:=ev_wires (k+4) s ok hm h1 h7
 obtain⟨m,hmi⟩:∃ m,ks[i]?=some m:=⟨_,List.getElem?_eq_getElem il⟩
 have okm:MvOk (w * h) cs m:=ok m (List.mem_of_getElem? hmi)
 have e:(ks.map fun m=>D.str (wir w m))=(ks.map (wir w)).map .str:=by simp
 rw [e] at ew
 have es:sub (.lst ((ks.map (wir w)).map .str)) (.int (i:Int))=some (.str (wir w m)):=by
  rw [sub_nat _ (by exact li2 (.n i (.n (ks.length) .o)) (nat_lit 0x1f7da4012862018da92365000d1e4) hm il)];simp [hmi]
 obtain⟨wa,wl⟩:=wir_ok s okm
 obtain⟨t,eb,tl,ta⟩:=s_law_bend (k+3) (f:=15) hl (by exact li1 (.n ((wir w m).length) .o) (nat_lit 0x1f6501080e36502a3) wl) wa (by exact li0 .o (nat_lit 373355520)) (by exact li0 .o (nat_lit 1597797053455))
 have en:=s_law_sought (k+1) s ok (by exact li1 (.n (ks.length) .o) (nat_lit 0x1f65000a18806365000d1e3) hm) t ta (by exact li2 (.n (t.length) (.n ((wir w m).length) .o)) (nat_lit 0x1f7d940a1636514039236502a4) wl tl)
 have eg:=s_law_find (k+4) (ks.map (wir w)) (ks.map Mv.num) t (by simp) (by simp;exact li1 (.n (ks.length) .o) (nat_lit 0x1f65000a18806365000d1e3) hm)
 obtain⟨j,hj⟩:∃ j:Int,(i:Int)=j:=⟨_,rfl⟩
 rw [hj] at es h11
 generalize fnd (ks.map (wir w)) (ks.map Mv.num) t=r at *
 generalize ns.map D.int=N at *
 generalize (ks.map Mv.num).map D.int=NU at *
 generalize (ks.map (wir w)).map D.str=WI at *
 generalize wir w m=wx at *
 simp only [mt5,s_cons,s_nil,x_asg,ew,Ev.bind_ok]
 have c0:cop .eq .none .none=some true:=rfl
 rcases r with _ | n <;> simp only [oI] at en eg <;> simp [c_eqi,tr_bo,sto_pl,e_lit,e_var,e_cmp,e_call,e_idx,e_nil,e_cons,x_ret,frzAll,Ev.bind_ok,Ev.of_some,upd,h0,h1,h8,h11,es,eb,en,eg,c0,fin_ret]
theorem s_law_moves_told (k:Nat) {ns:List Int} (hl:ns.length≤100):callX tab (k+6) f_law_moves_told [.lst (ns.map .int)]=Ev.ok (.bool true,.pl):=by
 obtain⟨σ1,w,h,cs,ms,dr,x1,s,ok1,l1,a0,a1,a2,a5,a6⟩:=mt1_run k hl
 obtain⟨σ2,ks,b,x2,ok,lk,b0,b1,b2,b7⟩:=mt2_run (callX tab (k+5)) ok1 l1 a0 a1 a2 a5 a6
 obtain⟨σ3,x3,c0,c1,c2,c7,c8,c9,c10⟩:=mt3_run (k+3) s ok lk b0 b1 b2 b7
 show runF (callX tab (k+5)) p_law_moves_told [_]=_
 rw [runF_fin _ _ _ rfl,p_mt]
 show(exs (callX tab (k+5)) (mt1 ++ (mt2 ++ (mt3 ++ (mt4 ++ mt5)))) (start 1 [.lst (ns.map .int)])).bind fin=_
 rw [exs_app,x1,Ev.bind_ok]
 show(exs (callX tab (k+5)) (mt2 ++ (mt3 ++ (mt4 ++ mt5))) σ1).bind fin=_
 rw [exs_app,x2,Ev.bind_ok]
 show(exs (callX tab (k+5)) (mt3 ++ (mt4 ++ mt5)) σ2).bind fin=_
 rw [exs_app,x3,Ev.bind_ok]
 show(exs (callX tab (k+5)) (mt4 ++ mt5) σ3).bind fin=_
 by_cases q:ks=[]
 ·subst q
  exact mt4_nil _ c9
 ·obtain⟨σ4,i,x4,il,d0,d1,d7,d8,d11⟩:=mt4_run k hl s ok lk q c0 c1 c2 c7 c8 c9 c10
  rw [exs_app,x4,Ev.bind_ok]
  exact mt5_run k hl s ok lk il d0 d1 d7 d8 d11
end Mine

namespace Mine
theorem word_at {i:Int} (h0:0≤i) (h1:i < 6):∃ w,Wd w∧sub (.lst [.str [75,98,51],.str [97,52],.str [82,120,99,50,43],.str [79,45,79],.str [98,52,61,81,35],.str [78,100,50]]) (.int i)=some (.str w):=by
 have:i=0∨i=1∨i=2∨i=3∨i=4∨i=5:=by exact li2 (.z i .o) (nat_lit 0x1f7dd75d75d6101636101236100e36100a36100636100235d01a35a3400) h0 h1
 rcases this with e | e | e | e | e | e <;> subst e <;> exact⟨_,⟨by decide,by decide,by rw [mkd_cons];decide,by decide,by unfold Asc;decide⟩,rfl⟩
noncomputable def b_lw:List St:=forBody p_law.body[5]?
noncomputable def b_lm:List St:=forBody p_law.body[7]?
structure LW (σ:Sg) (N:List D) (S F:Int) (ws:List (List Nat)):Prop where
 a0:σ 0=some ⟨.lst N,true⟩
 a1:σ 1=some ⟨.int S,false⟩
 a2:σ 2=some ⟨.int F,false⟩
 a3:σ 3=some ⟨.lst (ws.map .str),true⟩
 wd:∀ w ∈ ws,Wd w
theorem lw_loop (k:Nat) {ns:List Int} (hl:ns.length≤100) {S F:Int}:∀ (is:List Int) (ws:List (List Nat)) (σ:Sg),(∀ x ∈ is,0≤x∧x < 100)→ws.length + is.length≤100→LW σ (ns.map .int) S F ws→
  ∃ (σ':Sg) (ws':List (List Nat)),forGo (fun d σ=>exs (callX tab (k+1)) b_lw (upd σ 4 ⟨d,false⟩)) (is.map .int) σ=Ev.ok (.next,σ')∧LW σ' (ns.map .int) S F ws'∧ws'.length≤ws.length + is.length:=by
 intro is
 induction is with
 | nil=>intro ws σ _ _ H;exact⟨σ,ws,rfl,H,by simp⟩
 | cons i r ih=>
  intro ws σ hr hln H
  simp only [List.length_cons] at hln ⊢
  obtain⟨t0,t1⟩:=hr i (by simp)
  have ea:=s_law_at k ns (i:=21 + i) (by exact li1 (.z i .o) (nat_lit 0x1f5918d01414005a3400) t0) (by exact li1 (.z i .o) (nat_lit 0x7d74083834634050574041a3) t1) hl
  obtain⟨v,hv⟩:∃ v,atv ns (21 + i)=v:=⟨_,rfl⟩
  rw [hv] at ea
  obtain⟨w,hw,es⟩:=word_at (i:=v % 6) (by exact li2 (.z (v % 6) (.z v (.z (v / 6) .o))) (nat_lit 0x7df5a34005a44e54066124e5406923) (lmi (v) (6)).2.2 (ldi (v) (6)).1) (by exact li2 (.z (v % 6) (.z v (.z (v / 6) .o))) (nat_lit 0x1f7d74068d74501939501a46124e5406923) (lmi (v) (6)).2.2 (ldi (v) (6)).2)
  obtain⟨a0,a1,a2,a3,wd⟩:=H
  have hb:(ws.map D.str).length < big:=by simp;unfold big;exact li1 (.n (ws.length) (.n (r.length) .o)) (nat_lit 0x7da400000000063650106451401923) hln
  have H1:LW (upd (upd (upd σ 4 ⟨.int i,false⟩) 5 ⟨.int v,false⟩) 3 ⟨.lst (ws.map .str ++ [.str w]),true⟩) (ns.map .int) S F (ws ++ [w]):=by
   refine⟨by simpa [upd] using a0,by simpa [upd] using a1,by simpa [upd] using a2,by simp [upd],?_⟩
   intro x hx;rw [List.mem_append,List.mem_singleton] at hx;rcases hx with e | e
   ·exact wd x e
   ·rw [e];exact hw
  have x1:exs (callX tab (k+1)) b_lw (upd σ 4 ⟨.int i,false⟩)=Ev.ok (.next,upd (upd (upd σ 4 ⟨.int i,false⟩) 5 ⟨.int v,false⟩) 3 ⟨.lst (ws.map .str ++ [.str w]),true⟩):=by
   clear H1
   generalize ns.map D.int=N at *
   generalize ws.map D.str=W at *
   have hh:=fun r:Fl×Sg=>ai a0 (ai ea (ai a3 (ai (@v_fmod (v) (6) (by decide)) (ai es (ai hb (Eq.refl r))))))
   exact run_eq [.r 0 _,.d _ _,.r 3 _,.d _ _,.v _] (hh _)
  obtain⟨σ2,w2,x2,H2,l2⟩:=ih (ws ++ [w]) _ (fun x hx=>hr x (by simp [hx])) (by rw [List.length_append,List.length_singleton];exact li1 (.n (ws.length) (.n (r.length) .o)) (nat_lit 0x1f650106464450063650106451401923) hln) H1
  refine⟨σ2,w2,?_,H2,by rw [List.length_append,List.length_singleton] at l2;exact li1 (.n (w2.length) (.n (ws.length) (.n (r.length) .o))) (nat_lit 0x1f651450065923651951401923) l2⟩
  rw [List.map_cons,forGo_cons,x1];exact x2
theorem lm_loop (Φ:Nat→List D→Ev (D×Kd)) {N:List D} {S F:Int} {W:List (List Nat)} (hS:S=0∨S=1) (f0:0≤F) (f1:F < 300) (hW:W.length≤50):∀ (r pre:List (List Nat)) (s f:Int) (acc:List (List Nat)) (σ:Sg),W=pre ++ r→(s=0∨s=1)→2 * f + s=2 * F + S + pre.length→acc.length + 2 * r.length≤1000→
  LW σ N S F W→σ 6=some ⟨.lst (acc.map .str),true⟩→
  ∃ σ':Sg,forGo (fun d σ=>exs Φ b_lm (upd σ 4 ⟨d,false⟩)) (((List.range' pre.length r.length).map fun (i:Nat)=>(i:Int)).map .int) σ=Ev.ok (.next,σ')∧LW σ' N S F W∧σ' 6=some ⟨.lst ((acc ++ mks s f (decide (pre=[])) r).map .str),true⟩:=by
 intro r
 induction r with
 | nil=>intro pre s f acc σ _ _ _ _ H h6;exact⟨σ,rfl,H,by simpa [mks] using h6⟩
 | cons w r ih=>
  intro pre s f acc σ hw hs hp hacc H h6
  have hlen:pre.length + (r.length + 1)=W.length:=by rw [hw];simp
  simp only [List.length_cons] at hacc
  obtain⟨i,hi⟩:∃ i:Int,(pre.length:Int)=i:=⟨_,rfl⟩
  have hf:0≤f∧f < 400:=by exact li7 (.z f (.z S (.z F (.n (W.length) (.z s (.n (pre.length) (.n (r.length) .o))))))) (nat_lit 0x1f7df7df7df7174002418d68d001b991450069a18455a119139500919d38d009d61006761002765008399740c08195695001d610064610024) hS f0 f1 hW hs hp hlen
  have hd:=dec_ok (n:=f.toNat) (by exact li2 (.n (f.toNat) (.z f .o)) (nat_lit 0x1f7da4002418dd71b4008d740091c6245635a44005d0009064) hf.2 (ltn (f)))
  have hfs:fn1 .str (.int f)=some (.str (dec f.toNat)):=by rw [f_str,if_pos (by exact li2 (.z f .o) (nat_lit 0x1f7dc5d000010e2c01050a35a34005d00090635a3400) hf.1 hf.2)]
  obtain⟨dd,hdd⟩:∃ dd,dec f.toNat=dd:=⟨_,rfl⟩
  rw [hdd] at hd hfs
  have l1:bop .add (.str dd) (.str [46])=some (.str (dd ++ [46]),.pl):=by rw [b_adds,if_pos (by simp;unfold big;exact li1 (.n (dd.length) .o) (nat_lit 0x1f650000000001450063650163) hd.2.2)]
  have l3:bop .add (.str dd) (.str [46,46,46])=some (.str (dd ++ [46,46,46]),.pl):=by rw [b_adds,if_pos (by simp;unfold big;exact li1 (.n (dd.length) .o) (nat_lit 0x1f6500000000014500e3650163) hd.2.2)]
  have fa:F.natAbs < 4294967296:=by exact li3 (.n (F.natAbs) (.z F .o)) (nat_lit 0x1f7df69000000000000006375c6149158d740091c6245635a44005d03020645a4400) f0 f1 (lab (F))
  have es:sub (.lst (W.map .str)) (.int i)=some (.str w):=by
   rw [← hi,sub_nat _ (by exact li2 (.n (pre.length) (.n (W.length) (.n (r.length) .o))) (nat_lit 0x1f7da4012862018db9114500658d94020e4) hW hlen),hw];simp
  obtain⟨pl,hpl⟩:∃ pl,2 * F + S + i=pl:=⟨_,rfl⟩
  have e2:pl % 2=s:=by omega
  have e3:pl / 2=f:=by exact li5 (.z (pl / 2) (.z f (.z s (.z F (.z S (.n (pre.length) (.z i (.z pl (.z (pl % 2) .o))))))))) (nat_lit 0x1f7df7df6248d84938d00aaad896b62a4694674e64026295686115684674e64024654e4402) hp hi hpl e2 (lmi (pl) (2)).2.2
  have lb:(acc.map D.str).length < big:=by simp;unfold big;exact li1 (.n (acc.length) (.n (r.length) .o)) (nat_lit 0x7da40000000006365020e0d14d14019100a3) hacc
  have lb1:(acc.map D.str).length + 1 < big:=by simp;unfold big;exact li1 (.n (acc.length) (.n (r.length) .o)) (nat_lit 0x1f69000000000145006365020e0d14d14019100a3) hacc
  obtain⟨a0,a1,a2,a3,wd⟩:=id H
  have keep:∀ (τ:Sg) (c:Cell) (j:Nat),3 < j→LW τ N S F W→LW (upd τ j c) N S F W:=by
   intro τ c j hj h
   obtain⟨a0,a1,a2,a3,wd⟩:=h
   have e:∀ q,q≤3→upd τ j c q=τ q:=fun q hq=>upd_ne τ c (by simp;exact li2 (.n q (.n j .o)) (nat_lit 0x7df79b9236500e36a4403) hj hq)
   exact⟨by rw [e 0 (by exact li0 .o (nat_lit 423638016))];exact a0,by rw [e 1 (by exact li0 .o (nat_lit 423638017))];exact a1,by rw [e 2 (by exact li0 .o (nat_lit 423638018))];exact a2,by rw [e 3 (by exact li0 .o (nat_lit 423638019))];exact a3,wd⟩
  have H2:=keep _ ⟨.int pl,false⟩ 7 (by exact li0 .o (nat_lit 440431619)) (keep _ ⟨.int i,false⟩ 4 (by exact li0 .o (nat_lit 440419331)) H)
  have step:∃ σ1:Sg,exs Φ b_lm (upd σ 4 ⟨.int i,false⟩)=Ev.ok (.next,σ1)∧LW σ1 N S F W∧
    σ1 6=some ⟨.lst ((acc ++ ((if s=0 then [dd ++ [46]] else if decide (pre=[])=true then [dd ++ [46,46,46]] else []) ++ [w])).map .str),true⟩:=by
   have hpre:pre=[] ↔ i=0:=by rw [← List.length_eq_zero_iff];exact li1 (.n (pre.length) (.z i .o)) (nat_lit 0x7e06100246d0023624563) hi
   rcases hs with e | e
   ·subst e
    refine⟨_,?_,keep _ ⟨.lst (acc.map .str ++ [.str (dd ++ [46])] ++ [.str w]),true⟩ 6 (by exact li0 .o (nat_lit 440427523)) (keep _ ⟨.lst (acc.map .str ++ [.str (dd ++ [46])]),true⟩ 6 (by exact li0 .o (nat_lit 440427523)) H2),by simp [upd]⟩
    clear H H2 keep
    generalize acc.map D.str=A at *
    generalize W.map D.str=WW at *
    have d7:bop .fmod (.int pl) (.int 2)=some (.int 0,.pl):=by rw [v_fmod (by decide),e2]
    have d8:bop .fdiv (.int pl) (.int 2)=some (.int f,.pl):=by rw [v_fdiv (by decide) (by decide),e3]
    have d9:bop .mul (.int 2) (.int F)=some (.int (2 * F),.pl):=v_mul (by decide) fa
    subst hpl
    have hh:=fun r:Fl×Sg=>ai a2 (ai d9 (ai a1 (ai d7 (ai rt (ai h6 (ai d8 (ai hfs (ai l1 (ai lb (ai a3 (ai es (ai (show(A ++ [D.str (dd ++ [46])]).length < big from(by simp [a0,a1,a2,a3,h6,d7,d8,d9,hfs,l1,es,lb,lb1])) (Eq.refl r)))))))))))))
    exact run_eq [.r 2 _,.d _ _,.r 1 _,.d _ _,.b true,.r 6 _,.d _ _,.v _,.d _ _,.r 3 _,.v _] (hh _)
   ·subst e
    by_cases hA:i=0
    ·refine⟨_,?_,keep _ ⟨.lst (acc.map .str ++ [.str (dd ++ [46,46,46])] ++ [.str w]),true⟩ 6 (by exact li0 .o (nat_lit 440427523)) (keep _ ⟨.lst (acc.map .str ++ [.str (dd ++ [46,46,46])]),true⟩ 6 (by exact li0 .o (nat_lit 440427523)) H2),by simp [upd,hpre,hA]⟩
     clear H H2 keep
     generalize acc.map D.str=A at *
     generalize W.map D.str=WW at *
     subst hA
     have d7:bop .fmod (.int pl) (.int 2)=some (.int 1,.pl):=by rw [v_fmod (by decide),e2]
     have d8:bop .fdiv (.int pl) (.int 2)=some (.int f,.pl):=by rw [v_fdiv (by decide) (by decide),e3]
     have d9:bop .mul (.int 2) (.int F)=some (.int (2 * F),.pl):=v_mul (by decide) fa
     subst hpl
     have hh:=fun r:Fl×Sg=>ai a2 (ai d9 (ai a1 (ai d7 (ai rf (ai rt (ai h6 (ai d8 (ai hfs (ai l3 (ai lb (ai a3 (ai es (ai (show(A ++ [D.str (dd ++ [46,46,46])]).length < big from(by simp [a0,a1,a2,a3,h6,d7,d8,d9,hfs,l3,es,lb,lb1])) (Eq.refl r))))))))))))))
     exact run_eq [.r 2 _,.d _ _,.r 1 _,.d _ _,.b false,.b true,.r 6 _,.d _ _,.v _,.d _ _,.r 3 _,.v _] (hh _)
    ·refine⟨_,?_,keep _ ⟨.lst (acc.map .str ++ [.str w]),true⟩ 6 (by exact li0 .o (nat_lit 440427523)) H2,by simp [upd,hpre,hA]⟩
     clear H H2 keep
     generalize acc.map D.str=A at *
     generalize W.map D.str=WW at *
     have hh:=fun r:Fl×Sg=>ai a2 (ai (@v_mul (2) (F) (by decide) fa) (ai a1 (ai (@v_fmod (2 * F + S + i) (2) (by decide)) (ai (asb_f (show ¬ ((2 * F + S + i) % 2=0) from(li6 (.z ((2 * F + S + i) % 2) (.n (pre.length) (.z i (.z F (.z S (.z pl (.z (pl / 2) (.z f (.z ((2 * F + S + i) / 2) .o))))))))) (nat_lit 0x1f7df7df7de6100235d14024e9402a18493ad00919519d39900a36115644674e6402450053a90098aa96284654674e6402625564) hi hpl e3 hp (lmi (2 * F + S + i) (2)).2.2 (ldi (pl) (2)).2))) (ai (asb_f hA) (ai h6 (ai a3 (ai es (ai lb (Eq.refl r))))))))))
     exact Eq.trans (run_eq (r:=(Fl.next,upd (upd (upd σ 4 { d:=D.int i,own:=false }) 7 { d:=D.int (2 * F + S + i),own:=false }) 6 { d:=D.lst (A ++ [D.str w]),own:=true })) [.r 2 _,.d _ _,.r 1 _,.d _ _,.b false,.b false,.r 6 _,.r 3 _,.v _] (hh _)) (by rw [hpl])
  obtain⟨σ1,x1,H1,y6⟩:=step
  have hn:=@nxf_ok s f
  obtain⟨σ',a,b,c⟩:=ih (pre ++ [w]) (1 - s) (nxf s f) _ σ1 (by rw [hw];simp) (by exact li4 (.z s (.z pl (.z (pl % 2) (.z (pl / 2) .o)))) (nat_lit 0x1f7df7dd6100528d00584004a34015d14024e64029169139900984939900a49588e5) e2 (lmi (pl) (2)).2.2 (ldi (pl) (2)).1 (ldi (pl) (2)).2) (by
   rw [List.length_append,List.length_singleton];unfold nxf;split;exact li2 (.z f (.z s (.z F (.z S (.n (pre.length) .o))))) (nat_lit 0x1f7d84554500674664e54024529100534500634026100646115674664e54024644e3402) hp (show s=1 by assumption);exact li6 (.z f (.z s (.z F (.z S (.n (pre.length) (.z pl (.z (pl % 2) (.z (pl / 2) .o)))))))) (nat_lit 0x1f7df7df7d84554500674664e54024529100538d0097450093a900a85a84ea4026124ea402a297984019189296115674664e54024644e3402) hp e2 (show ¬s=1 by assumption) (lmi (pl) (2)).2.2 (ldi (pl) (2)).1 (ldi (pl) (2)).2) (by
   rw [List.length_append,List.length_append,List.length_singleton]
   have:(if s=0 then [dd ++ [46]] else if decide (pre=[])=true then [dd ++ [46,46,46]] else []).length≤1:=by split;simp;split <;> simp
   exact li2 (.n (acc.length) (.n ((if s=0 then [dd ++ [46]] else if decide (pre=[])=true then [dd ++ [46,46,46]] else []).length) (.n (r.length) .o))) (nat_lit 0x7df65020e0d14e540245140192365006465020e0d14d14019500a3) hacc this) H1 y6
  refine⟨σ',?_,b,?_⟩
  ·rw [List.length_cons,List.range'_succ,List.map_cons,List.map_cons,forGo_cons,hi,x1]
   rw [List.length_append,List.length_singleton] at a
   exact a
  ·rw [c,mks,hdd]
   simp
end Mine

namespace Mine
theorem joinD_len:∀ (ws:List (List Nat)),(∀ w ∈ ws,w.length≤8)→(joinD [32] ws).length≤9 * ws.length:=by
 intro ws
 induction ws with
 | nil=>intro _;simp [joinD]
 | cons a r ih=>
  intro h
  have ha:=h a (by simp)
  cases r with
  | nil=>simp [joinD];exact li1 (.n (a.length) .o) (nat_lit 8836785209934371) ha
  | cons b r=>
   have ih':=ih fun x hx=>h x (by simp [hx])
   rw [joinD,List.length_append,List.length_append,List.length_singleton,List.length_cons]
   ·exact li2 (.n (a.length) (.n ((joinD [32] (b :: r)).length) (.n ((b :: r).length) .o))) (nat_lit 0x7df653450065409464450063653950264650223) ha ih'
   ·simp
theorem joinD_asc:∀ (ws:List (List Nat)),(∀ w ∈ ws,Asc w)→Asc (joinD [32] ws):=by
 intro ws
 induction ws with
 | nil=>intro _;exact asc_nil
 | cons a r ih=>
  intro h
  have ha:=h a (by simp)
  cases r with
  | nil=>simpa [joinD] using ha
  | cons b r=>
   have ih':=ih fun x hx=>h x (by simp [hx])
   rw [joinD]
   ·exact asc_app (asc_app ha (asc_one (by exact li0 .o (nat_lit 1803888427010)))) ih'
   ·simp
theorem dg_lt {c:Nat} (h:dg c=true):48≤c∧c≤57:=by
 unfold dg at h;simp at h;exact li1 (.n c .o) (nat_lit 0x1f7194090e36634000dd75d75d75d75d6d02438db4080e36d01c38db4060e36d01438db4040e36d00c38db4020e36d00438db4000e3) h
theorem mks_free:∀ (ws:List (List Nat)) (s f:Int) (b:Bool),(∀ w ∈ ws,Wd w)→(s=0∨s=1)→0≤f→f + ws.length < 400→∀ x ∈ mks s f b ws,32 ∉ x∧Asc x:=by
 intro ws
 induction ws with
 | nil=>intro s f b _ _ _ _ x hx;simp [mks] at hx
 | cons w ws ih=>
  intro s f b h hs g0 g1 x hx
  simp only [List.length_cons] at g1
  have hn:=@nxf_ok s f
  have hd:=dec_ok (n:=f.toNat) (by exact li2 (.n (f.toNat) (.z f (.n (ws.length) .o))) (nat_lit 0x1f7da4002418dd71b4008d740091c6245635a44005d0009051551401964) g1 (ltn (f)))
  have d1:∀ y:List Nat,(∀ c ∈ y,c=46)→32 ∉ dec f.toNat ++ y∧Asc (dec f.toNat ++ y):=by
   intro y hy
   constructor
   ·intro hm;rw [List.mem_append] at hm;rcases hm with e | e
    ·have:=dg_lt (hd.1 _ e);exact(show False from li1 .o (nat_lit 8872594980274179) this.1).elim
    ·have:=hy _ e;exact(show False from li1 .o (nat_lit 8872732654108674) this).elim
   ·intro c hm;rw [List.mem_append] at hm;rcases hm with e | e
    ·have:=dg_lt (hd.1 _ e);exact li1 (.n c .o) (nat_lit 0x1f6900088d94090e3) this.2
    ·have:=hy _ e;exact li1 (.n c .o) (nat_lit 0x1f6900088db40e0a3) this
  rw [mks,List.mem_append,List.mem_cons] at hx
  rcases hx with hx | hx | hx
  ·split at hx
   ·rw [List.mem_singleton] at hx;subst hx;exact d1 _ (by simp)
   ·split at hx
    ·rw [List.mem_singleton] at hx;subst hx;exact d1 _ (by simp)
    ·simp at hx
  ·subst hx;exact⟨(h x (by simp)).2.1,(h x (by simp)).2.2.2.2⟩
  ·exact ih (1 - s) (nxf s f) false (fun y hy=>h y (by simp [hy])) (by exact li1 (.z s .o) (nat_lit 0x1f7584014a34016100128d005d610063610023) hs) (by exact li2 (.z (nxf s f) (.z f .o)) (nat_lit 0x1f7d68d00168e45a4400) g0 hn.1) (by exact li2 (.z (nxf s f) (.n (ws.length) (.z f .o))) (nat_lit 0x1f7d74002414559235914019635d0009051551401925) g1 hn.2) x hx
theorem rd_empty (s f:Int):rd s f false [[]] []=some []:=by
 have h1:=mkd_nil
 have h2:sC []=[]:=rfl
 rw [rd,if_neg (fun x=>h1 x.1),if_neg (by simp [h2])]
 simp [h1,rd]
theorem rd_line {s f:Int} {ws:List (List Nat)} (h:∀ w ∈ ws,Wd w) (hs:s=0∨s=1) (g0:0≤f) (g1:f + ws.length < 400):rd s f false (splitAt32 (joinD [32] (mks s f true ws))) []=some ws:=by
 cases ws with
 | nil=>exact rd_empty s f
 | cons w r=>
  rw [split_join]
  ·simpa using rd_mks (w :: r) s f true [] h hs g0 g1
  ·rw [mks];simp
  ·exact fun x hx=>(mks_free (w :: r) s f true h hs g0 g1 x hx).1
theorem rd_line2 {s f:Int} {ws:List (List Nat)} (h:∀ w ∈ ws,Wd w):rd s f false (splitAt32 (joinD [32] ws)) []=some ws:=by
 cases ws with
 | nil=>exact rd_empty s f
 | cons w r=>
  rw [split_join]
  ·simpa using rd_plain (w :: r) s f [] h
  ·simp
  ·exact fun x hx=>(h x hx).2.1
noncomputable def lw1:List St:=p_law.body.take 5
noncomputable def lw2:List St:=[.forR 4 .non (.bin .fmod (.call f_law_at [(.var 0),(.lit (.int 20))]) (.lit (.int 6))) b_lw]
noncomputable def lw3:List St:=[.asg 6 (.lst []),.forR 4 .non (.fn1 .len (.var 3)) b_lm]
noncomputable def lw4:List St:=p_law.body.drop 8
theorem p_lw:p_law=⟨1,lw1 ++ (lw2 ++ (lw3 ++ lw4))⟩:=rfl
theorem c_eqd (r:Option (List (List Nat))):cop .eq (dWords r) (dWords r)=some true:=by
 cases r with
 | none=>rfl
 | some l=>simp [dWords,c_eqls]
theorem law1_run (k:Nat) {ns:List Int} (hl:ns.length≤100):∃ (σ:Sg) (S F:Int),exs (callX tab (k+6)) lw1 (start 1 [.lst (ns.map .int)])=Ev.ok (.next,σ)∧(S=0∨S=1)∧1≤F∧F≤120∧LW σ ((ns.take 32).map .int) S F []:=by
 have sl:slc (.lst (ns.map .int)) .none (.int 32)=some (.lst ((ns.take 32).map .int),.fr):=by
  have g:(ns.map D.int).length≤big:=by simp;unfold big;exact li1 (.n (ns.length) .o) (nat_lit 0x1f6500000000018d94041a3) hl
  rw [slc_l,clip_n,clip_i,if_pos (by exact li0 .o (nat_lit 0x71740000a30a24b0d00025d000251000028c2892c3)),if_neg (by exact li0 .o (nat_lit 2086548865026)),Option.bind_some,Option.bind_some,if_pos g]
  simp [cut,List.map_take,List.take_eq_take_iff]
 have hl2:(ns.take 32).length≤100:=by simp;exact li1 (.n (min 32 ns.length) (.n (ns.length) .o)) (nat_lit 0x1f6501068dd71b92369000291c6d00028d9910002) (lnn (32) (ns.length))
 have et:=s_law_moves_told k hl2
 have e18:=s_law_at (k+5) (ns.take 32) (i:=18) (by exact li0 .o (nat_lit 23891284992)) (by exact li0 .o (nat_lit 0x5d020e0d0081)) hl2
 have e19:=s_law_at (k+5) (ns.take 32) (i:=19) (by exact li0 .o (nat_lit 23891547136)) (by exact li0 .o (nat_lit 0x5d020e0d00c1)) hl2
 obtain⟨v,hv⟩:∃ v,atv (ns.take 32) 18=v:=⟨_,rfl⟩
 obtain⟨u,hu⟩:∃ v,atv (ns.take 32) 19=v:=⟨_,rfl⟩
 rw [hv] at e18
 rw [hu] at e19
 refine⟨upd (upd (upd (upd (start 1 [.lst (ns.map .int)]) 0 ⟨.lst ((ns.take 32).map .int),true⟩) 1 ⟨.int (v % 2),false⟩) 2 ⟨.int (1 + u % 120),false⟩) 3 ⟨.lst [],true⟩,v % 2,1 + u % 120,?_,by exact li3 (.z (v % 2) (.z v (.z (v / 2) .o))) (nat_lit 0x1f7df7584018d84008d74500939500a45a44e54026124e5402923) (lmi (v) (2)).2.2 (ldi (v) (2)).1 (ldi (v) (2)).2,by exact li2 (.z (u % 120) (.z u (.z (u / 120) .o))) (nat_lit 0x1f7d64634014015a44e54081d8493950207923) (lmi (u) (120)).2.2 (ldi (u) (120)).1,by exact li2 (.z (u % 120) (.z u (.z (u / 120) .o))) (nat_lit 0x7df5902074634015d14081d3950207918493950207923) (lmi (u) (120)).2.2 (ldi (u) (120)).2,⟨rfl,rfl,rfl,rfl,by simp⟩⟩
 generalize (ns.take 32).map D.int=N at *
 generalize ns.map D.int=M at *
 have hh:=fun r:Fl×Sg=>ai sl (ai et (ai rf (ai e18 (ai (@v_fmod (v) (2) (by decide)) (ai e19 (ai (@v_fmod (u) (120) (by decide)) (Eq.refl r)))))))
 exact run_eq [.d _ _,.d _ _,.b false,.d _ _,.d _ _,.d _ _,.d _ _] (hh _)
theorem law4_run (k:Nat) {ns:List Int} (hl:ns.length≤100) {S F:Int} (hS:S=0∨S=1) (f0:1≤F) (f1:F≤120) {ws:List (List Nat)} (hw:ws.length≤5) {σ:Sg} (H:LW σ (ns.map .int) S F ws) (h6:σ 6=some ⟨.lst ((mks S F true ws).map .str),true⟩):
  (exs (callX tab (k+6)) lw4 σ).bind fin=Ev.ok (.bool true,.pl):=by
 obtain⟨a0,a1,a2,a3,wd⟩:=H
 have w5:∀ w ∈ ws,w.length≤5:=fun w h=>(wd w h).2.2.2.1
 have w8:∀ w ∈ ws,w.length≤8:=fun w h=>by have:=w5 w h;exact li1 (.n (w.length) .o) (nat_lit 8836784136192355) this
 have hm:=mks_len ws S F true w5 hS (by exact li1 (.z F .o) (nat_lit 8824903668741121) f0) (by exact li2 (.z F (.n (ws.length) .o)) (nat_lit 0x7df5d00090515648d94059164081e3) f1 hw)
 have hf:=mks_free ws S F true wd hS (by exact li1 (.z F .o) (nat_lit 8824903668741121) f0) (by exact li2 (.z F (.n (ws.length) .o)) (nat_lit 0x7df5d00090515648d94059164081e3) f1 hw)
 have e1:=s_number_line (k+5) ws hS (f:=F) (by exact li1 (.z F .o) (nat_lit 8824903668741121) f0) (by exact li1 (.z F .o) (nat_lit 0x7d740c0818d64081e3) f1) (by exact li1 (.n (ws.length) .o) (nat_lit 0x7d94020e3650163) hw) w5
 have j1:=m_join hm.2 (by exact li2 (.n ((mks S F true ws).length) (.n (ws.length) .o)) (nat_lit 0x7df65020e0e36539100a3650164) hw hm.1)
 have j2:=m_join w8 (by exact li1 (.n (ws.length) .o) (nat_lit 0x1f65020e0e3650163) hw)
 have L1:=joinD_len _ hm.2
 have L2:=joinD_len ws w8
 have A1:=joinD_asc _ fun x hx=>(hf x hx).2
 have s1:=s_split_line (k+4) (joinD [32] (mks S F true ws)) (by exact li3 (.n ((joinD [32] (mks S F true ws)).length) (.n (ws.length) (.n ((mks S F true ws).length) .o))) (nat_lit 0x7df7d94021a36539502636539100a5650164) hw hm.1 L1) hS (f:=F) (by exact li1 (.z F .o) (nat_lit 8824903668741121) f0) (by exact li1 (.z F .o) (nat_lit 0x1f5d00011c28d64081e3) f1)
 have s2:=s_split_line (k+4) (joinD [32] ws) (by exact li2 (.n ((joinD [32] ws).length) (.n (ws.length) .o)) (nat_lit 0x1f7d94021a3653910263650164) hw L2) hS (f:=F) (by exact li1 (.z F .o) (nat_lit 8824903668741121) f0) (by exact li1 (.z F .o) (nat_lit 0x1f5d00011c28d64081e3) f1)
 rw [rd_line wd hS (by exact li1 (.z F .o) (nat_lit 8824903668741121) f0) (by exact li2 (.z F (.n (ws.length) .o)) (nat_lit 0x7df5d00090515648d94059164081e3) f1 hw)] at s1
 rw [rd_line2 wd] at s2
 obtain⟨t,eb,tl,ta⟩:=s_law_bend (k+4) (f:=26) hl (by exact li3 (.n ((joinD [32] (mks S F true ws)).length) (.n (ws.length) (.n ((mks S F true ws).length) .o))) (nat_lit 0x1f7df6501080e36539502636539100a5650164) hw hm.1 L1) A1 (by exact li0 .o (nat_lit 23893382144)) (by exact li0 .o (nat_lit 0x5d01080d0281))
 have d1:=s_law_split (k+3) t (by exact li4 (.n (t.length) (.n (ws.length) (.n ((mks S F true ws).length) (.n ((joinD [32] (mks S F true ws)).length) .o)))) (nat_lit 0x1f7df7d94021a36514039a36539502666539100a5650164) hw hm.1 L1 tl) hS (f:=F) (by exact li1 (.z F .o) (nat_lit 8824903668741121) f0) (by exact li1 (.z F .o) (nat_lit 0x1f5d00011c28d64081e3) f1)
 have d2:=s_law_read (k+5) t (by exact li4 (.n (t.length) (.n (ws.length) (.n ((mks S F true ws).length) (.n ((joinD [32] (mks S F true ws)).length) .o)))) (nat_lit 0x1f7df7d94021a36514039a36539502666539100a5650164) hw hm.1 L1 tl) hS (f:=F) (by exact li1 (.z F .o) (nat_lit 8824903668741121) f0) (by exact li1 (.z F .o) (nat_lit 0x1f5d020c8d64081e3) f1)
 have ce:=c_eqd (rd S F false (splitAt32 t) [])
 have cn:cop .ne (.lst (ws.map .str)) (.lst (ws.map .str))=some false:=by rw [c_nels];simp
 simp only [rWords] at s1 s2
 have ks:(kWords (rd S F false (splitAt32 t) [])).isTr=false:=by cases rd S F false (splitAt32 t) [] <;> rfl
 generalize dWords (rd S F false (splitAt32 t) [])=DW at *
 generalize kWords (rd S F false (splitAt32 t) [])=KW at *
 generalize joinD [32] (mks S F true ws)=T1 at *
 generalize joinD [32] ws=T2 at *
 generalize (mks S F true ws).map D.str=MK at *
 generalize ws.map D.str=W at *
 generalize ns.map D.int=N at *
 simp [c_nes,asB_b,sto_pl,sto_bo,scal_s,rcv_j,e_lit,e_var,e_cmp,e_or,e_call,e_mth,e_nil,e_cons,x_asg,x_ret,x_iff,s_nil,s_cons,frzAll,Ev.bind_ok,Ev.of_some,upd,lw4,p_law,a0,a1,a2,a3,h6,e1,j1,j2,s1,s2,cn,eb,d1,d2,ce,fin_ret]
theorem law_is_true (k:Nat) {ns:List Int} (hl:ns.length≤100):runF (callX tab (k+6)) p_law [.lst (ns.map .int)]=Ev.ok (.bool true,.pl):=by
 obtain⟨σ1,S,F,x1,hS,f0,f1,H1⟩:=law1_run k hl
 have hl2:(ns.take 32).length≤100:=by simp;exact li1 (.n (min 32 ns.length) (.n (ns.length) .o)) (nat_lit 0x1f6501068dd71b92369000291c6d00028d9910002) (lnn (32) (ns.length))
 generalize ns.take 32=ms at *
 have e20:=s_law_at (k+5) ms (i:=20) (by exact li0 .o (nat_lit 23891809280)) (by exact li0 .o (nat_lit 0x5d020e0d0101)) hl2
 obtain⟨v,hv⟩:∃ v,atv ms 20=v:=⟨_,rfl⟩
 rw [hv] at e20
 obtain⟨n,hn⟩:∃ n,v % 6=n:=⟨_,rfl⟩
 have n0:0≤n∧n < 6:=by exact li4 (.z n (.z (v % 6) (.z v (.z (v / 6) .o)))) (nat_lit 0x1f7df7dc5d01a35a34005d14064e64069569539901984939901a59188e4) hn (lmi (v) (6)).2.2 (ldi (v) (6)).1 (ldi (v) (6)).2
 have r1:=range0 n0.1 (by exact li3 (.z n (.z (v % 6) (.z v (.z (v / 6) .o)))) (nat_lit 0x1f7df5d00040843e35d14064e64069584939901a59188e4) hn (lmi (v) (6)).2.2 (ldi (v) (6)).2)
 obtain⟨σ2,ws,x2,H2,l2⟩:=lw_loop (k+5) hl2 ((List.range n.toNat).map fun (i:Nat)=>(i:Int)) [] σ1 (by
  intro x hx
  rw [List.mem_map] at hx
  obtain⟨i,hi,rfl⟩:=hx
  rw [List.mem_range] at hi
  exact li5 (.n i (.z (v % 6) (.z n (.n (n.toNat) (.z v (.z (v / 6) .o)))))) (nat_lit 0x1f7df7df7174041958d65634005d14064e84069dd71b40099740095c6255665a54006124e84069e46a68d8964) hn hi (lmi (v) (6)).2.2 (ltn (n)) (ldi (v) (6)).2) (by simp;exact li3 (.z n (.z (v % 6) (.z v (.z (v / 6) .o)))) (nat_lit 0x7df7d64041a35d14064e64069584939901a59188e4) hn (lmi (v) (6)).2.2 (ldi (v) (6)).2) H1
 have hw:ws.length≤5:=by simp at l2;exact li5 (.n (ws.length) (.z (v % 6) (.z n (.n (n.toNat) (.z v (.z (v / 6) .o)))))) (nat_lit 0x1f7df7df6501635d14064e84069dd71b40099740095c6255665a54006124e84069e46668d8964) hn l2 (lmi (v) (6)).2.2 (ltn (n)) (ldi (v) (6)).2
 have y2:exs (callX tab (k+6)) lw2 σ1=Ev.ok (.next,σ2):=by
  have a0:=H1.a0
  clear H1 H2
  generalize ((List.range n.toNat).map fun (i:Nat)=>(i:Int)).map D.int=R at *
  generalize ms.map D.int=N at *
  have hh:=fun r:Fl×Sg=>ai a0 (ai e20 (ai (@v_fmod (v) (6) (by decide)) (ai (show rangeD 0 (v % 6)=some R by simp [hn,r1]) (ai x2 (Eq.refl r)))))
  exact run_eq [.r 0 _,.d _ _,.d _ _,.l _,.f _ _] (hh _)
 have r2:=range0 (n:=(ws.length:Int)) (by exact li0 (.n (ws.length) .o) (nat_lit 374748160)) (by exact li1 (.n (ws.length) .o) (nat_lit 0x7d740010210f563650163) hw)
 have H3:LW (upd σ2 6 ⟨.lst [],true⟩) (ms.map .int) S F ws:=by
  obtain⟨a0,a1,a2,a3,wd⟩:=H2
  exact⟨by simpa [upd] using a0,by simpa [upd] using a1,by simpa [upd] using a2,by simpa [upd] using a3,wd⟩
 obtain⟨σ3,x3,H4,h6⟩:=lm_loop (callX tab (k+6)) hS (by exact li1 (.z F .o) (nat_lit 8824903668741121) f0) (by exact li1 (.z F .o) (nat_lit 0x7d740c0818d64081e3) f1) (by exact li1 (.n (ws.length) .o) (nat_lit 0x7d94020e3650163) hw:ws.length≤50) ws [] S F [] (upd σ2 6 ⟨.lst [],true⟩) rfl hS (by simp) (by simp;exact li1 (.n (ws.length) .o) (nat_lit 0x7d94083834e3402650163) hw) H3 rfl
 have y3:exs (callX tab (k+6)) lw3 σ2=Ev.ok (.next,σ3):=by
  have a3:=H2.a3
  have hfl:fn1 .len (.lst (ws.map .str))=some (.int ws.length):=by
   rw [f_lenl,if_pos (by simp only [List.length_map];unfold big;exact li1 (.n (ws.length) .o) (nat_lit 0x7d9400000000063650163) hw),List.length_map]
  have er:(List.range (ws.length:Int).toNat)=List.range' ([]:List (List Nat)).length ws.length:=by
   rw [List.range_eq_range'];simp
  rw [er] at r2
  clear H1 H2 H3 H4 h6
  obtain⟨L,hL⟩:∃ L:Int,(ws.length:Int)=L:=⟨_,rfl⟩
  rw [hL] at hfl r2
  generalize ((List.range' ([]:List (List Nat)).length ws.length).map fun (i:Nat)=>(i:Int)).map D.int=R at *
  generalize ws.map D.str=W at *
  have hh:=fun r:Fl×Sg=>ai a3 (ai hfl (ai r2 (ai x3 (Eq.refl r))))
  exact run_eq [.r 3 _,.v _,.l _,.f _ _] (hh _)
 rw [runF_fin _ _ _ rfl,p_lw]
 show(exs (callX tab (k+6)) (lw1 ++ (lw2 ++ (lw3 ++ lw4))) (start 1 [.lst (ns.map .int)])).bind fin=_
 rw [exs_app,x1,Ev.bind_ok]
 show(exs (callX tab (k+6)) (lw2 ++ (lw3 ++ lw4)) σ1).bind fin=_
 rw [exs_app,y2,Ev.bind_ok]
 show(exs (callX tab (k+6)) (lw3 ++ lw4) σ2).bind fin=_
 rw [exs_app,y3,Ev.bind_ok]
 exact law4_run k hl2 hS f0 f1 hw H4 (by simpa using h6)
theorem law_true (ns:List Int) (h:ns.length≤63):runF (callX tab 11) p_law [.lst (ns.map .int)]=Ev.ok (.bool true,.pl):=law_is_true 5 (by exact li1 (.n (ns.length) .o) (nat_lit 0x1f6501068d940f0e3) h)
end Mine

section
set_option maxHeartbeats 8000000
namespace Mine
open PySem PySem.W PyProof.Rows
theorem j_recs:okRecs (recsOf topV)=true:=by kernel_rfl
theorem j_consts (P:Params):okConsts (topK P)=true:=by kernel_rfl
theorem j_blt (P:Params):okBlt (topK P)=true:=by kernel_rfl
theorem j_bm (P:Params):nsIn (topK P) mainGlobals "BadMove" = some (some (.ref 82)):=by kernel_rfl
set_option tactic.hygienic true in
theorem j_bad {P:Params} {h:Heap} (X:(topK P).In h):BadAt h 82:=by
 have n81:h.Ns 81 (h.nsMap 81):=.of_isNs (isNs_of_in X (N:=81) (by kernel_rfl))
 have n30:h.Ns 30 (h.nsMap 30):=.of_isNs (isNs_of_in X (N:=30) (by kernel_rfl))
 have some_of:∀ {N:Addr} {m:Str→Option Value} {n:Str} {v:Value},h.Ns N m→nsIn (topK P) N n=some (some v)→m n=some v:=by
  intro N m n v G e
  obtain⟨o,es,ep,ho,hdd,_,hf⟩:=G
  unfold nsIn at e
  split at e
  ·rename_i c d es' n' sl q
   have:=X _ _ q
   rw [ho] at this
   cases this
   cases hdd
   split at e
   ·rename_i en he
    cases e
    rw [← hf]
    unfold nsFind findBy
    rw [← Array.find?_toList,he]
    rfl
   ·split at e <;> cases e
  ·cases e
 refine⟨_,_,81,_,_,_,_,_,_,_,_,_,_,_,_,31,h.nsMap 81,h.nsMap 30,_,_,_,_,28,_,_,rfl,X 82 _ (by with_unfolding_all rfl),n81,ns_none_of X n81 (by kernel_rfl),ns_none_of X n81 (by kernel_rfl),ns_none_of X n81 (by kernel_rfl),X 31 _ (by with_unfolding_all rfl),n30,some_of n30 (by kernel_rfl),ns_none_of X n30 (by kernel_rfl),ns_none_of X n30 (by kernel_rfl),X 28 _ (by with_unfolding_all rfl),rfl,rfl,⟨27,_,_,_,rfl,X 27 _ (by with_unfolding_all rfl),rfl,by rfl⟩,?_⟩
 exact⟨rfl,rfl,rfl,rfl,rfl,rfl,rfl,rfl,rfl,rfl,rfl,rfl,rfl,⟨_,_,_,_,_,_,_,_,_,_,rfl,rfl⟩⟩
end Mine
end

section
set_option maxHeartbeats 8000000
namespace Mine
open PySem PySem.W PySem.Calls PyProof.Rows PyProof.V PySem.Spec
theorem ints_rd {h:Heap} {T:Addr→Prop} {vs:List Value} {ns:List Int} (hi:IntsAre vs ns):RdAll T h vs (ns.map .int):=by
 induction hi with
 | nil=>exact .nil
 | cons i t _ ih=>exact .cons (.int _ _) ih
theorem script_rd {P:Params} {h:Heap} {a:Addr} {vs:List Value} {ns:List Int} (w:Well P h (.ref a) (ofPy (PyData.list (ns.map PyData.int)))) (hL:h.IsList a vs.toArray) (hi:IntsAre vs ns):
  Rd (fun a=>∃ o,h.get? a=some o) h (.ref a) (.lst (ns.map .int)):=by
 obtain⟨o,ho,hc,n,hd⟩:=hL
 have hw:∃ vs',h.get? a=some { cls:=.type "list",data:=.seq vs' }:=by
  have e:ofPy (PyData.list (ns.map PyData.int))=.list (ofPys (ns.map PyData.int)):=by first | rfl | simp [ofPy]
  rw [e] at w
  cases w with
  | list hg _=>exact⟨_,hg⟩
 obtain⟨vs',hg⟩:=hw
 rw [ho] at hg
 cases hg
 exact .lst ⟨_,ho⟩ ho rfl hd rfl (by simpa using ints_rd hi)
theorem post_is (args:List WData):PySem.Challenge.rw_nt0432_01.row.claim.post args (.bool true) args=true:=by
 refine postW_of (X:=true) ?_ ?_ rfl
 ·kernel_rfl
 ·first | rfl | kernel_rfl | (simp [OpenLaw.row,PySem.Challenge.rw_nt0432_01];done)
theorem said:PySem.Challenge.rw_nt0432_01.wellSaid=true:=by
 delta OpenLaw.wellSaid
 repeat' with_reducible refine look_both ?_ ?_
 ·delta OpenRow.wellSaid
  with_reducible refine look_both (look_both ?_ ?_) ?_
  ·delta OpenRow.partSaid
   repeat' with_reducible refine look_both ?_ ?_
   ·delta looksOpen
    repeat' with_reducible refine look_both ?_ ?_
    all_goals decide +kernel
   all_goals decide +kernel
  all_goals decide +kernel
 all_goals decide +kernel
set_option tactic.hygienic true in
theorem holds:PySem.Challenge.rw_nt0432_01.Holds:=by
 refine holds_law said fun said=>?_
 let VV:Program:=topV
 refine holds_open (q:=VV) (loose:=topL) (Xt:=fun s=>xlAt topV [] s && recOk (RowW.records PySem.Challenge.rw_nt0432_01.row.toRowW) s) (XP:=XL topV []) (Yf:=topH.obs) (Ya:=topH.val) (YP:=topH.says) (N:=5982) ?hl topH.of topH.keeps (fun s e=>xl_of s (Bool.and_eq_true_iff.mp e).1) XL.keeps (by rfl) (by rfl) (by rfl) (fun s e=>recFacts_of (Bool.and_eq_true_iff.mp e).2) (by rfl) (by first | assumption | decide +kernel) (by decide +kernel) ⟨rfl,rfl,rfl,rfl,rfl,by decide +kernel⟩ ?hw ?hc
 case hl=>exact top_left
 case hw=>w_witness2
 case hc=>
  k_go0
  rename_i w s₀ s₁ mg mb G Y fa o pm doc kV ho hg KX X V GL T B TE TW w9 w8 M w7 w6 hcd ns hs hlay0 hL1 hr1 hl2 w4 w3 a vs ws hL ra w1 r0 hI hr hlen hcond K0 hD h₁ F N0
  refine law_run (F:=p_law) (nums:=numsOf [("script",0),("side",1),("full",2),("words",3),("i",4),("number",5),("marked",6),("ply",7),("text",8)]) (k:=11) (cb:=82) (W:=wld mg mb) (x:="script") (d:=.lst (ns.map .int)) (v:=.ref a)
   (by kernel_rfl) (by kernel_rfl) (by kernel_rfl) rfl rfl (by kernel_rfl) (by kernel_rfl) (stand_of KX T j_recs (j_consts _) (j_blt _) (j_bm _) (j_bad KX)) F (by first | rfl | decide) (script_rd w1 hL hI) (law_true ns (by omega)) fun h' tk' hk=>?_
  exact⟨.inl ⟨_,.bool true,[],rfl,fun _=>rfl,.bool _,post_is _,unshared_nil⟩,hk,rfl,hg⟩
end Mine
end

theorem PySem.Challenge.cw_nt0432_01_holds : PySem.Challenge.rw_nt0432_01.Holds :=
 Mine.holds
