import PyProof.Rows.All
import Wide.All
import OpenK.AllK
import Wide.FinOn
import Lean
import PySem.Challenge.RW_nt0351_01
open PySem PySem.W PyProof.Rows
set_option Elab.async false
namespace Mine
set_option maxRecDepth 100000
theorem const2 {A P : Prop} (g : P) (_ : A) : P := g
theorem go_on {P L T : Prop} {f : L → T → P} (x : (L : Prop) ×' (T : Prop) ×' (L → T → P)) (e : x = ⟨L, T, f⟩) (l : L) (t : T) : P := f l t
theorem const3 {A B P : Prop} (g : P) (_ : A) (_ : B) : P := g
-- The names ending in tw and a number: the head's tool would lay a copy of a big constant under that name; where the name stands already it goes on without, and the compiled file stays small.
theorem look1.tw5533117315765867420 : True := trivial
set_option Elab.async true in
theorem look1 : sreFenced PySem.Challenge.rw_nt0351_01.row.prog.main = true := by k_qdec
theorem look1_done : True := trivial
theorem look2.tw5533117315765867420 : True := trivial
set_option Elab.async true in
theorem look2 : ((moduleNames PySem.Challenge.rw_nt0351_01.row.prog.main.body).isEmpty || lookedIntoSs (moduleNames PySem.Challenge.rw_nt0351_01.row.prog.main.body) PySem.Challenge.rw_nt0351_01.row.prog.main.body) = true := by k_qdec
theorem look2_done : True := trivial
theorem look3.tw5533117315765867420 : True := trivial
set_option Elab.async true in
theorem look3 : namesResolve PySem.Challenge.rw_nt0351_01.row.prog = true := by k_qdec
theorem look3_done : True := trivial
theorem look4.tw5533117315765867420 : True := trivial
set_option Elab.async true in
theorem look4 : PySem.Challenge.rw_nt0351_01.row.prog.boundNames.all (fun n => !worldNames.contains n) = true := by k_qdec
theorem look4_done : True := trivial
theorem look5.tw5533117315765867420 : True := trivial
set_option Elab.async true in
theorem look5 : noRoadLSs { strict := !(importedModules PySem.Challenge.rw_nt0351_01.row.prog.main.body).all cThrough.contains, foot := none, bare := (["vars", "dir", "locals"] : List Str).filter (readsOut PySem.Challenge.rw_nt0351_01.row.prog PySem.Challenge.rw_nt0351_01.row.prog.main.body) } PySem.Challenge.rw_nt0351_01.row.prog.main.body = true := by k_qdec
theorem look5_done : True := trivial
theorem look6.tw5533117315765867420 : True := trivial
set_option Elab.async true in
theorem look6 : (namesMeet PySem.Challenge.rw_nt0351_01.row.prog PySem.Challenge.rw_nt0351_01.row.prog.main.body fun _ n => attrL n) = true := by k_qdec
theorem look6_done : True := trivial
theorem looks : looksOpen PySem.Challenge.rw_nt0351_01.row.prog = true := by
  unfold looksOpen
  exact look_both (look_both (look_both (look_both (look_both look1 look2) look3) look4) look5) look6
theorem said.tw5533117315765867420 : True := trivial
set_option Elab.async true in
theorem said : PySem.Challenge.rw_nt0351_01.wellSaid = true := by
  unfold OpenLaw.wellSaid OpenRow.wellSaid OpenRow.partSaid
  rw [looks]
  k_qdec
theorem said_done : True := trivial
set_option maxHeartbeats 8000000 in
noncomputable def pre : (L : Prop) ×' (T : Prop) ×' (L → T → PySem.Challenge.rw_nt0351_01.Holds) := by
  refine' ⟨_, _, fun hL hT => ?g⟩
  case g =>
    refine' const3 ?g2 ?hl ?hc
    case g2 =>
      w_on
      refine holds_law said fun _ => ?_
      k_head
      case hw => w_witness2
    case hl => exact hL
    case hc => exact hT
theorem left.tw3677731058962337584 : True := trivial
theorem left.tw3869423977792843166 : True := trivial
theorem left.tw1635147178913155160 : True := trivial
theorem left.tw8223231355198955708 : True := trivial
theorem left.tw1389217165368774023 : True := trivial
theorem left.tw5533117315765867420 : True := trivial
theorem left.tw4424423958146003767 : True := trivial
theorem left.tw12302685034617042704 : True := trivial
theorem left.tw5241154706078092604 : True := trivial
theorem left.tw12436348952736148238 : True := trivial
theorem left.tw9859870083146981791 : True := trivial
theorem left.tw16700508435385124860 : True := trivial
theorem left.tw17843237756364363044 : True := trivial
theorem left.tw1447299089289554553 : True := trivial
theorem left.tw12997541620905208745 : True := trivial
theorem left.tw2743211669790109402 : True := trivial
theorem left.tw4927496761294116228 : True := trivial
theorem left.tw12023544485869644428 : True := trivial
theorem left.tw10032533016382007469 : True := trivial
theorem left.tw6883907688505393538 : True := trivial
theorem left.tw17014002307350867007 : True := trivial
theorem left.tw15784543685413607451 : True := trivial
theorem left.tw11489376281424949397 : True := trivial
theorem left.tw14126844000526846292 : True := trivial
theorem left.tw11723337896469949870 : True := trivial
theorem left.tw1599709829766544441 : True := trivial
theorem left.tw14841474785589213233 : True := trivial
theorem left.tw13612445473930194723 : True := trivial
theorem left.tw7383466922819347247 : True := trivial
theorem left.tw15248823433397124647 : True := trivial
theorem left.tw2829597849042729800 : True := trivial
theorem left.tw9974907699682404144 : True := trivial
theorem left.tw1711239733658349044 : True := trivial
theorem left.tw4350884512671353810 : True := trivial
theorem left.tw12782903245148790160 : True := trivial
theorem left.tw4542541825098672310 : True := trivial
theorem left.tw8073908886150868386 : True := trivial
theorem left.tw13226833206374660533 : True := trivial
theorem left.tw5887850209532510023 : True := trivial
theorem left.tw4256641406850833979 : True := trivial
theorem left.tw7856722289336767411 : True := trivial
theorem left.tw5898860310758411966 : True := trivial
theorem left.tw15415397639968721783 : True := trivial
theorem left.tw14196573756848182512 : True := trivial
theorem left.tw15273746805940100752 : True := trivial
theorem left.tw4601418690812010711 : True := trivial
theorem left.tw5471574347014984010 : True := trivial
theorem left.tw5979233295252247645 : True := trivial
theorem left.tw1066925079118519654 : True := trivial
theorem left.tw5015176778083012706 : True := trivial
theorem left.tw7792888156242153162 : True := trivial
theorem left.tw7843870615901454594 : True := trivial
theorem left.tw7290501534801717446 : True := trivial
theorem left.tw4061779586667398343 : True := trivial
theorem left.tw11558512302602989142 : True := trivial
theorem left.tw6181344930624877610 : True := trivial
theorem left.tw16718163421302513040 : True := trivial
theorem left.tw12315566853318643478 : True := trivial
theorem left.tw4523142755951121244 : True := trivial
theorem left.tw17036744071539419096 : True := trivial
theorem left.tw1985274675474967393 : True := trivial
theorem left.tw6467780426542064644 : True := trivial
theorem left.tw7336946248030305814 : True := trivial
theorem left.tw15240273301694060522 : True := trivial
theorem left.tw13621995913637967754 : True := trivial
theorem left.tw15099661793649438041 : True := trivial
theorem left.tw14936824573435359795 : True := trivial
theorem left.tw12935179443516416754 : True := trivial
theorem left.tw2687931651891054171 : True := trivial
theorem left.tw17918731595228751264 : True := trivial
theorem left.tw3150591360373913280 : True := trivial
theorem left.tw10187066271848162098 : True := trivial
theorem left.tw1988294207759718101 : True := trivial
theorem left.tw9881974990498121512 : True := trivial
theorem left.tw15919823191328938754 : True := trivial
theorem left.tw18289767875218844580 : True := trivial
theorem left.tw9241849893194190339 : True := trivial
theorem left.tw7986412331376227898 : True := trivial
theorem left.tw14007281954563547404 : True := trivial
theorem left.tw17207796601729815717 : True := trivial
theorem left.tw10497113061955055993 : True := trivial
theorem left.tw1733358190782052672 : True := trivial
theorem left.tw2791146818333816019 : True := trivial
theorem left.tw17697796369020777600 : True := trivial
theorem left.tw14591101849549550829 : True := trivial
theorem left.tw7734492998386875766 : True := trivial
theorem left.tw17455788676648917504 : True := trivial
theorem left.tw1399665183164206025 : True := trivial
theorem left.tw8070862196266509549 : True := trivial
theorem left.tw16960728842414889776 : True := trivial
theorem left.tw17276252674101441275 : True := trivial
theorem left.tw7805062997515121479 : True := trivial
theorem left.tw14904296272429108295 : True := trivial
theorem left.tw6253372995550657977 : True := trivial
theorem left.tw11958156957937890614 : True := trivial
theorem left.tw18158236158231261745 : True := trivial
theorem left.tw16478796857054019708 : True := trivial
theorem left.tw17732492262327099572 : True := trivial
theorem left.tw4821453697003687529 : True := trivial
theorem left.tw5458372099047346347 : True := trivial
theorem left.tw5233231172979365235 : True := trivial
theorem left.tw6344129971342327896 : True := trivial
theorem left.tw11543651760816008696 : True := trivial
theorem left.tw12438852744482100789 : True := trivial
theorem left.tw6579484601361349225 : True := trivial
theorem left.tw10601313874151556489 : True := trivial
theorem left.tw3031371785057515284 : True := trivial
theorem left.tw1464559281597093305 : True := trivial
theorem left.tw15568081794291975298 : True := trivial
theorem left.tw1544766528295230410 : True := trivial
theorem left.tw8803520099591800177 : True := trivial
theorem left.tw15966324404689925951 : True := trivial
theorem left.tw1297496008851490162 : True := trivial
theorem left.tw6663245333425782320 : True := trivial
theorem left.tw16274329534696968090 : True := trivial
theorem left.tw1745764893773006261 : True := trivial
theorem left.tw13794604998122610100 : True := trivial
theorem left.tw9593448174364633727 : True := trivial
theorem left.tw12959562207316844193 : True := trivial
theorem left.tw15317189015397518194 : True := trivial
theorem left.tw3541312328011835874 : True := trivial
theorem left.tw14106924175503427885 : True := trivial
theorem left.tw6276884018509972219 : True := trivial
theorem left.tw14202437277625228298 : True := trivial
theorem left.tw13410999738686234494 : True := trivial
theorem left.tw13791379391923914911 : True := trivial
theorem left.tw10025962566823239327 : True := trivial
theorem left.tw7004683451600049562 : True := trivial
theorem left.tw7831521669703977055 : True := trivial
theorem left.tw10209169731344440265 : True := trivial
theorem left.tw9617616547176521384 : True := trivial
theorem left.tw13900878795584300207 : True := trivial
theorem left.tw7246926081072957796 : True := trivial
theorem left.tw7761515536421617958 : True := trivial
theorem left.tw1254135645399619788 : True := trivial
theorem left.tw11370268684683296699 : True := trivial
theorem left.tw1880143842471278353 : True := trivial
theorem left.tw1304717925136002927 : True := trivial
theorem left.tw7659320520700088669 : True := trivial
theorem left.tw2341726862095274966 : True := trivial
theorem left.tw15552159793137356616 : True := trivial
theorem left.tw3060770867945613701 : True := trivial
theorem left.tw2037518677745461029 : True := trivial
theorem left.tw8642940997837961351 : True := trivial
theorem left.tw15491290966592441326 : True := trivial
theorem left.tw18245542231536492863 : True := trivial
theorem left.tw16944556785005586410 : True := trivial
theorem left.tw12459664562214534592 : True := trivial
theorem left.tw12924136601568335405 : True := trivial
theorem left.tw3427510328666570934 : True := trivial
theorem left.tw7708542350379002418 : True := trivial
theorem left.tw4892868693751887647 : True := trivial
theorem left.tw8566509389450326392 : True := trivial
theorem left.tw5097588479848903219 : True := trivial
theorem left.tw16162645704336056335 : True := trivial
theorem left.tw11021664718710879662 : True := trivial
theorem left.tw15092336917629885173 : True := trivial
theorem left.tw1221678849379798446 : True := trivial
theorem left.tw12724409782858219842 : True := trivial
theorem left.tw13907339717669527527 : True := trivial
theorem left.tw9080412223593681421 : True := trivial
theorem left.tw8591743307194293080 : True := trivial
theorem left.tw1893376023881890633 : True := trivial
theorem left.tw5328464313782485826 : True := trivial
theorem left.tw3219837590169047859 : True := trivial
theorem left.tw9980767789842257941 : True := trivial
theorem left.tw11194817466689469313 : True := trivial
theorem left.tw14262933350132513526 : True := trivial
theorem left.tw9175227809439305611 : True := trivial
theorem left.tw5735630570236950586 : True := trivial
theorem left.tw4395567243408122132 : True := trivial
theorem left.tw18029117483783319497 : True := trivial
theorem left.tw6608153472847300867 : True := trivial
set_option maxHeartbeats 8000000 in
set_option Elab.async true in
theorem left : pre.1 := by
  have run : ∃ T : Prop, T → PySem.Challenge.rw_nt0351_01.Holds := by
    refine' ⟨_, fun hT => ?g⟩
    case g =>
      refine' const2 ?g2 ?hc
      case g2 =>
        w_on
        refine holds_law said fun _ => ?_
        k_head
        case hw => w_witness2
      case hc => exact hT
  exact ?hl
theorem left_done : left.heap_1_1 = left.heap_1_1 := rfl

/-- what a caller knows: frames, ledger, top -/
noncomputable abbrev Clm (w : World) (loose : List Str) (mean : ExcName → Option Value) (mg mb : Str → Option Value) (D : Nat) (f : Addr) (vs : List Value) (news : List (Addr × Obj))
    (ret : Heap → Addr → (Str → Option Value) → Shared → (Value → Shared → Prop) → Prop) : Prop :=
  ∀ (dp un : Nat) (gd : Option (List Code)) (cn : Str) (cs : Scope) (a : Addr) (ccd : Value) (cl : List (Str × Addr)) (outer : List Env) (A₀ : Around) (base h₀ : Heap) (L : Addr) (m : Str → Option Value) (s : Shared) (Q E : Value → Shared → Prop),
    Below A₀ base outer h₀ → Fr h₀ L s.heap m → (pre.heap_1 w.params).In h₀ → News h₀ L s.heap news → Top pre.view_1 loose mean mg mb h₀ → cs.kind = .function →
    dp + D < recursionLimit → un + 8 * D < cLine → ret h₀ L m s Q →
      wpAny (model PySem.Challenge.rw_nt0351_01.row.prog w) (ktrTop dp un gd cn cs L a ccd cl outer) (call (.ref f) vs) Q E s

noncomputable abbrev RetV (news : List (Addr × Obj)) (R : Tok → Value) (h₀ : Heap) (L : Addr) (m : Str → Option Value) (s : Shared) (Q : Value → Shared → Prop) : Prop :=
  ∀ (t : Tok) (h' : Heap) (tk' : Nat), Fr h₀ L h' m → News h₀ L h' news → Q (R t) { s with heap := h', toks := tk' }

theorem Clm.use {w : World} {loose : List Str} {mean : ExcName → Option Value} {mg mb : Str → Option Value} {D : Nat} {f : Addr} {vs : List Value} {news : List (Addr × Obj)}
    {ret : Heap → Addr → (Str → Option Value) → Shared → (Value → Shared → Prop) → Prop}
    {dp un : Nat} {gd : Option (List Code)} {cn : Str} {cs : Scope} {a : Addr} {ccd : Value} {cl : List (Str × Addr)} {outer : List Env} {A₀ : Around} {base h₀ : Heap} {L : Addr} {m : Str → Option Value} {s : Shared} {Q E : Value → Shared → Prop}
    (C : Clm w loose mean mg mb D f vs news ret)
    (B : Below A₀ base outer h₀) (F : Fr h₀ L s.heap m) (X : (pre.heap_1 w.params).In h₀) (N : News h₀ L s.heap news) (T : Top pre.view_1 loose mean mg mb h₀) (hk : cs.kind = .function)
    (hdp : dp + D < recursionLimit) (hun : un + 8 * D < cLine) (hr : ret h₀ L m s Q) :
    wpAny (model PySem.Challenge.rw_nt0351_01.row.prog w) (ktrTop dp un gd cn cs L a ccd cl outer) (call (.ref f) vs) Q E s :=
  C _ _ _ _ _ _ _ _ _ _ _ _ _ _ _ _ _ B F X N T hk hdp hun hr

theorem room1 {dp D d k : Nat} (h : dp + D < k) (hd : 1 + d ≤ D) : dp + 1 + d < k := by rw [Nat.add_assoc]; exact Nat.lt_of_le_of_lt (Nat.add_le_add_left hd dp) h
theorem units1 {un D d k : Nat} (h : un + 8 * D < k) (hd : 3 + 8 * d ≤ 8 * D) : un + 3 + 8 * d < k := by rw [Nat.add_assoc]; exact Nat.lt_of_le_of_lt (Nat.add_le_add_left hd un) h
section
variable {h₀ h' : Heap} {L : Addr} {m : Str → Option Value} {news news' : List (Addr × Obj)} {s : Shared} {Q : Value → Shared → Prop} {t : Tok} {tk' : Nat}
theorem endI {x y : Int} (hret : RetV news (fun t => .int x t) h₀ L m s Q) (e : y = x) (F : Fr h₀ L h' m) (N : News h₀ L h' news') (hs : ∀ p ∈ news, p ∈ news') : Q (.int y t) { s with heap := h', toks := tk' } := by
  subst e
  exact hret t h' tk' F (fun p hp => N p (hs p hp))
theorem endS {x y : Str} (hret : RetV news (fun t => .str x t) h₀ L m s Q) (e : y = x) (F : Fr h₀ L h' m) (N : News h₀ L h' news') (hs : ∀ p ∈ news, p ∈ news') : Q (.str y t) { s with heap := h', toks := tk' } := by
  subst e
  exact hret t h' tk' F (fun p hp => N p (hs p hp))
theorem endB {x y : Bool} (hret : RetV news (fun _ => .bool x) h₀ L m s Q) (e : y = x) (F : Fr h₀ L h' m) (N : News h₀ L h' news') (hs : ∀ p ∈ news, p ∈ news') : Q (.bool y) { s with heap := h', toks := tk' } := by
  subst e
  exact hret 0 h' tk' F (fun p hp => N p (hs p hp))
theorem sub_cons {l l' : List (Addr × Obj)} {x : Addr × Obj} (h : ∀ p ∈ l, p ∈ l') : ∀ p ∈ l, p ∈ x :: l' := fun p hp => .tail _ (h p hp)
theorem sub_self {l : List (Addr × Obj)} : ∀ p ∈ l, p ∈ l := fun _ h => h
end
section
variable {prog : Program} {w : World} {A : Around} {E : Value → Shared → Prop} {s : Shared}
theorem listK {K : Frag} {h : Heap} {a : Addr} {n : Nat} {l : List Value} {dd : Option Addr} {sl : Array (Option Value)} (X : K.In h) (hl : K.lookup a = some ⟨.type "list", dd, .seq l.toArray n, sl⟩) : h.IsList a l.toArray := ⟨_, X _ _ hl, rfl, n, rfl⟩
theorem item_anyL {value slice : PySem.Expr} {l : Addr} {vs : List Value} {ns : List Int} {k : Int} {u : Tok} {Q : Value → Shared → Prop} (ht : s.heap.IsList l vs.toArray) (hi : IntsAre vs ns)
    (h0 : 0 ≤ k) (h1 : k < ns.length) (hfit : k < 2 ^ 63) (h : ∀ t, Q (.int (ns.getD k.toNat 0) t) s)
    (hs : subscripted slice false (.ref l) (.int k u) = operate [.ref l, .int k u] (getItem (.ref l) (.int k u)) := by with_unfolding_all rfl) :
    wpAny (model prog w) A (subscriptTail value slice (.ref l) (.int k u)) Q E s := by
  obtain ⟨t, hx⟩ := hi.get k.toNat _ (ints_getD h0 h1)
  exact tail_any ht.typeIs slot_list_getitem.lookup (wpAny_getItem_list ht h0 hfit (by simpa using hx) (h t)) hs
theorem topListAny_K {K : Frag} {h₀ : Heap} {L a : Addr} {m : Str → Option Value} {n : Nat} {value slice : PySem.Expr} {l : List Value} {ns : List Int} {dd : Option Addr} {sl : Array (Option Value)} {k : Int} {u : Tok} {Q : Value → Shared → Prop} (F : Fr h₀ L s.heap m) (X₀ : K.In h₀)
    (hl : K.lookup a = some ⟨.type "list", dd, .seq l.toArray n, sl⟩) (hi : IntsAre l ns) (h0 : 0 ≤ k) (h1 : k < ns.length) (hfit : k < 2 ^ 63) (h : ∀ t, Q (.int (ns.getD k.toNat 0) t) s)
    (hs : subscripted slice false (.ref a) (.int k u) = operate [.ref a, .int k u] (getItem (.ref a) (.int k u)) := by with_unfolding_all rfl) :
    wpAny (model prog w) A (subscriptTail value slice (.ref a) (.int k u)) Q E s := item_anyL (listK (X₀.keeps F.keep) hl) hi h0 h1 hfit h hs
end
section
variable {prog : Program} {w : World} {A : Around} {E : Value → Shared → Prop} {s : Shared}
noncomputable def dataOf : List Value → Option (List PyData)
  | [] => some []
  | .int i _ :: r => (dataOf r).map (.int i :: ·)
  | .none :: r => (dataOf r).map (.none :: ·)
  | _ => none
theorem reads_dataOf {h : Heap} : ∀ {vs : List Value} {ds : List PyData}, dataOf vs = some ds → ReadsAll h vs ds []
  | [], ds, e => by cases e; exact .nil
  | .int i t :: r, ds, e => by
    simp only [dataOf, Option.map_eq_some_iff] at e
    obtain ⟨d, e1, rfl⟩ := e
    exact .cons (.int i t) (reads_dataOf e1)
  | .none :: r, ds, e => by
    simp only [dataOf, Option.map_eq_some_iff] at e
    obtain ⟨d, e1, rfl⟩ := e
    exact .cons .none (reads_dataOf e1)
  | .bool _ :: _, _, e | .str _ _ :: _, _, e | .ref _ :: _, _, e => by cases e
theorem none_in_tup {t : Addr} {vs : List Value} {ds : List PyData} {b : Bool} {Q : Value → Shared → Prop} (ht : IsTup s.heap t vs.toArray) (rs : dataOf vs = some ds) (hc : PyData.canLayAll0 ds = true)
    (hb : (ds.any fun y => PyData.eqv y .none) = b) (hu : A.units + 2 < cLine) (h : Q (.bool b) s) : wpAny (model prog w) A (compareOp .In .none (.ref t)) Q E s := by
  obtain ⟨o, ho, h1, n, h2⟩ := ht
  refine SeqAt.in_tuple_reads (Reads.tuple ho h1 h2 (by simpa using reads_dataOf rs)) Reads.none hc rfl ?_ (by rw [hb]; exact h)
  have : PyData.depth .none ≤ 1 := by decide
  omega
end
noncomputable abbrev tupObj (vs : List Value) : Obj := { cls := .type "tuple", data := .seq vs.toArray }
noncomputable abbrev tup7 (a b c d e f g : Int) (t₁ t₂ t₃ t₄ t₅ t₆ t₇ : Tok) : Obj := { cls := .type "tuple", data := .seq #[.int a t₁, .int b t₂, .int c t₃, .int d t₄, .int e t₅, .int f t₆, .int g t₇] }
noncomputable abbrev RetT7 (news : List (Addr × Obj)) (a b c d e f g : Int) (h₀ : Heap) (L : Addr) (m : Str → Option Value) (s : Shared) (Q : Value → Shared → Prop) : Prop :=
  ∀ (q : Addr) (t₁ t₂ t₃ t₄ t₅ t₆ t₇ : Tok) (h' : Heap) (tk' : Nat), Fr h₀ L h' m → News h₀ L h' ((q, tup7 a b c d e f g t₁ t₂ t₃ t₄ t₅ t₆ t₇) :: news) → AllLt q news → Q (.ref q) { s with heap := h', toks := tk' }
noncomputable abbrev RetO (news : List (Addr × Obj)) (o : Option Int) (h₀ : Heap) (L : Addr) (m : Str → Option Value) (s : Shared) (Q : Value → Shared → Prop) : Prop :=
  (o = none → ∀ (h' : Heap) (tk' : Nat), Fr h₀ L h' m → News h₀ L h' news → Q .none { s with heap := h', toks := tk' }) ∧
  (∀ i, o = some i → ∀ (t : Tok) (h' : Heap) (tk' : Nat), Fr h₀ L h' m → News h₀ L h' news → Q (.int i t) { s with heap := h', toks := tk' })
theorem ledger_sub {h₀ h' : Heap} {L : Addr} {l l' : List (Addr × Obj)} (N : News h₀ L h' l') (hs : ∀ p ∈ l, p ∈ l') : News h₀ L h' l := fun p hp => N p (hs p hp)
theorem sub_both {l l' : List (Addr × Obj)} {x : Addr × Obj} (h : ∀ p ∈ l, p ∈ l') : ∀ p ∈ x :: l, p ∈ x :: l' := fun p hp => by
  rcases List.mem_cons.mp hp with rfl | hp
  · exact .head _
  · exact .tail _ (h p hp)
theorem low1 {q : Addr} {l : List (Addr × Obj)} {a : Prop} (h : a ∧ AllLt q l) : AllLt q l := h.2
theorem low2 {q : Addr} {l : List (Addr × Obj)} {a b : Prop} (h : a ∧ b ∧ AllLt q l) : AllLt q l := h.2.2
theorem low3 {q : Addr} {l : List (Addr × Obj)} {a b c : Prop} (h : a ∧ b ∧ c ∧ AllLt q l) : AllLt q l := h.2.2.2
theorem low4 {q : Addr} {l : List (Addr × Obj)} {a b c d : Prop} (h : a ∧ b ∧ c ∧ d ∧ AllLt q l) : AllLt q l := h.2.2.2.2
noncomputable abbrev RetS (news : List (Addr × Obj)) (x : Str) (k : Nat) (h₀ : Heap) (L : Addr) (m : Str → Option Value) (s : Shared) (Q : Value → Shared → Prop) : Prop :=
  ∀ (t : Tok) (h' : Heap) (tk' : Nat), x.length ≤ k → Fr h₀ L h' m → News h₀ L h' news → Q (.str x t) { s with heap := h', toks := tk' }
theorem endT {h₀ h' : Heap} {L : Addr} {m : Str → Option Value} {news news' : List (Addr × Obj)} {s : Shared} {Q : Value → Shared → Prop} {t : Tok} {tk' k : Nat} {x y : Str} (hret : RetS news x k h₀ L m s Q) (e : y = x) (F : Fr h₀ L h' m) (N : News h₀ L h' news') (hs : ∀ p ∈ news, p ∈ news') (hk : y.length ≤ k) : Q (.str y t) { s with heap := h', toks := tk' } := by
  subst e
  exact hret t h' tk' hk F (fun p hp => N p (hs p hp))
noncomputable abbrev rdD (P : Params) (k1 k2 k3 : Tok) (x : Str) (t1 : Tok) (a : Int) (t2 : Tok) (b : Bool) : Obj :=
  dictOf [⟨PyData.keyHash P (Str.ofString "text"), .str (Str.ofString "text") k1, .str x t1⟩, ⟨PyData.keyHash P (Str.ofString "at"), .str (Str.ofString "at") k2, .int a t2⟩, ⟨PyData.keyHash P (Str.ofString "is_wrong"), .str (Str.ofString "is_wrong") k3, .bool b⟩] 3
noncomputable abbrev rdL (P : Params) (rd dx : Addr) (k1 k2 k3 : Tok) (x : Str) (t1 : Tok) (a : Int) (t2 : Tok) (b : Bool) (news : List (Addr × Obj)) : List (Addr × Obj) :=
  (rd, instObj 291 dx) :: (dx, rdD P k1 k2 k3 x t1 a t2 b) :: news
theorem ne_of_low {d : Addr} {l : List (Addr × Obj)} (h : AllLt d l) : ∀ p ∈ l, p.1 ≠ d := fun p hp => Nat.ne_of_lt (ktn_ltOf h p hp)
theorem pull1 {h₀ h : Heap} {L : Addr} {a x y : Addr × Obj} {l : List (Addr × Obj)} (N : News h₀ L h (a :: x :: y :: l)) : News h₀ L h (x :: y :: a :: l) := ledger_sub N (by intro p hp; simp only [List.mem_cons] at hp ⊢; rcases hp with h | h | h | h <;> simp [h])
theorem pull2 {h₀ h : Heap} {L : Addr} {a b x y : Addr × Obj} {l : List (Addr × Obj)} (N : News h₀ L h (a :: b :: x :: y :: l)) : News h₀ L h (x :: y :: a :: b :: l) := ledger_sub N (by intro p hp; simp only [List.mem_cons] at hp ⊢; rcases hp with h | h | h | h | h <;> simp [h])
theorem pull3 {h₀ h : Heap} {L : Addr} {a b c x y : Addr × Obj} {l : List (Addr × Obj)} (N : News h₀ L h (a :: b :: c :: x :: y :: l)) : News h₀ L h (x :: y :: a :: b :: c :: l) := ledger_sub N (by intro p hp; simp only [List.mem_cons] at hp ⊢; rcases hp with h | h | h | h | h | h <;> simp [h])
theorem pull4 {h₀ h : Heap} {L : Addr} {a b c d x y : Addr × Obj} {l : List (Addr × Obj)} (N : News h₀ L h (a :: b :: c :: d :: x :: y :: l)) : News h₀ L h (x :: y :: a :: b :: c :: d :: l) := ledger_sub N (by intro p hp; simp only [List.mem_cons] at hp ⊢; rcases hp with h | h | h | h | h | h | h <;> simp [h])

local macro_rules | `(tactic| walk_at $s:str) => `(tactic| k_extra $s)
section
variable {w : World} {loose : List Str} {mean : ExcName → Option Value} {mg mb : Str → Option Value} {news : List (Addr × Obj)}

theorem fd {a b c : Int} (h : 0 ≤ b) (e : a / b = c) : a.fdiv b = c := by rw [Int.fdiv_eq_ediv_of_nonneg _ h, e]
theorem fm {a b c : Int} (h : 0 ≤ b) (e : a % b = c) : a.fmod b = c := by rw [Int.fmod_eq_emod_of_nonneg _ h, e]
noncomputable def dfy (y : Int) : Int := 365 * (y - 1970) + (y - 1969) / 4 - (y - 1901) / 100 + (y - 1601) / 400
noncomputable def leap (y : Int) : Bool := decide (y % 4 = 0) && (!decide (y % 100 = 0) || decide (y % 400 = 0))
noncomputable def aheadL : List Int := [0, 31, 59, 90, 120, 151, 181, 212, 243, 273, 304, 334, 365]
noncomputable def ahead (m : Int) : Int := aheadL.getD m.toNat 0
noncomputable def da (m : Int) (b : Bool) : Int := ahead m + if b = true ∧ 1 < m then 1 else 0
theorem da_t {x : Int} {b : Bool} (h : b = true) (h1 : 1 < x) : [0, 31, 59, 90, 120, 151, 181, 212, 243, 273, 304, 334, 365].getD x.toNat 0 + 1 = da x b := by unfold da; rw [if_pos ⟨h, h1⟩]; rfl
theorem da_f1 {x : Int} {b : Bool} (h1 : ¬ 1 < x) : [0, 31, 59, 90, 120, 151, 181, 212, 243, 273, 304, 334, 365].getD x.toNat 0 + 0 = da x b := by unfold da; rw [if_neg (fun h => h1 h.2)]; rfl
theorem da_f2 {x : Int} {b : Bool} (h : ¬ b = true) : [0, 31, 59, 90, 120, 151, 181, 212, 243, 273, 304, 334, 365].getD x.toNat 0 + 0 = da x b := by unfold da; rw [if_neg (fun g => h g.1)]; rfl
theorem ind {Y k : Int} (hk : 0 < k) : (if Y % k = 0 then (1 : Int) else 0) = Y / k - (Y - 1) / k := by
  have h1 := Int.emod_add_mul_ediv Y k
  have h2 := Int.emod_nonneg Y (Int.ne_of_gt hk)
  have h3 := Int.emod_lt_of_pos Y hk
  generalize Y % k = r at *
  generalize Y / k = q at *
  subst h1
  by_cases h : r = 0
  · subst h
    rw [if_pos rfl, show 0 + k * q - 1 = (k - 1) + k * (q - 1) by rw [Int.mul_sub]; omega, Int.add_mul_ediv_left _ _ (Int.ne_of_gt hk), Int.ediv_eq_zero_of_lt (Int.le_sub_one_of_lt hk) (Int.sub_one_lt_of_le (Int.le_refl k))]
    omega
  · rw [if_neg h, show r + k * q - 1 = (r - 1) + k * q by omega, Int.add_mul_ediv_left _ _ (Int.ne_of_gt hk), Int.ediv_eq_zero_of_lt (by omega) (by omega)]
    omega
theorem mod100_4 {Y : Int} (h : Y % 100 = 0) : Y % 4 = 0 := by omega
theorem mod400_100 {Y : Int} (h : Y % 400 = 0) : Y % 100 = 0 := by omega
theorem leap_days (Y : Int) : (if leap Y = true then (1 : Int) else 0) = Y / 4 - (Y - 1) / 4 - (Y / 100 - (Y - 1) / 100) + (Y / 400 - (Y - 1) / 400) := by
  rw [← ind (by decide), ← ind (by decide), ← ind (by decide)]
  unfold leap
  by_cases h3 : Y % 400 = 0
  · have h2 := mod400_100 h3
    have h1 := mod100_4 h2
    simp [h1, h2, h3]
  · by_cases h2 : Y % 100 = 0
    · have h1 := mod100_4 h2
      simp [h1, h2, h3]
    · by_cases h1 : Y % 4 = 0 <;> simp [h1, h2, h3]
theorem dfy_alt (Y : Int) : dfy Y = 365 * Y + (Y - 1) / 4 - (Y - 1) / 100 + (Y - 1) / 400 - 719527 := by
  unfold dfy
  rw [show Y - 1969 = (Y - 1) + 4 * (-492) by omega, show Y - 1901 = (Y - 1) + 100 * (-19) by omega, show Y - 1601 = (Y - 1) + 400 * (-4) by omega, Int.add_mul_ediv_left _ _ (by decide), Int.add_mul_ediv_left _ _ (by decide), Int.add_mul_ediv_left _ _ (by decide)]
  generalize (Y - 1) / 4 = a, (Y - 1) / 100 = b, (Y - 1) / 400 = c
  omega
theorem dfy_one (Y : Int) : dfy (Y + 1) = dfy Y + (365 + if leap Y = true then 1 else 0) := by
  rw [dfy_alt, dfy_alt, leap_days, Int.add_sub_cancel]
  generalize (Y - 1) / 4 = a, (Y - 1) / 100 = b, (Y - 1) / 400 = c, Y / 4 = d, Y / 100 = e, Y / 400 = f
  omega
theorem dfy_step (y : Int) : dfy y + 365 ≤ dfy (y + 1) ∧ dfy (y + 1) ≤ dfy y + 366 := by rw [dfy_one]; split <;> omega
theorem dfy_prev (y : Int) : dfy (y - 1) + 365 ≤ dfy y := by have h := (dfy_step (y - 1)).1; rwa [Int.sub_add_cancel] at h
theorem dfy_mono_nat (y : Int) : ∀ n : Nat, dfy y + 365 * n ≤ dfy (y + n)
  | 0 => by simp
  | n + 1 => by
    have h1 := dfy_mono_nat y n
    have h2 := (dfy_step (y + n)).1
    rw [show y + ((n + 1 : Nat) : Int) = y + n + 1 from (Int.add_assoc y n 1).symm]; omega
theorem dfy_mono {x y : Int} (h : x ≤ y) : dfy x + 365 * (y - x) ≤ dfy y := by
  obtain ⟨n, rfl⟩ := Int.le.dest h
  have := dfy_mono_nat x n
  rwa [Int.add_comm x n, Int.add_sub_cancel, Int.add_comm (n : Int) x]
open Classical in
noncomputable def yod (d : Int) : Int := if h : ∃ y, dfy y ≤ d ∧ d < dfy (y + 1) then h.choose else 0
theorem yod_eq {d y : Int} (h1 : dfy y ≤ d) (h2 : d < dfy (y + 1)) : y = yod d := by
  have h : ∃ y, dfy y ≤ d ∧ d < dfy (y + 1) := ⟨y, h1, h2⟩
  unfold yod
  rw [dif_pos h]
  have ⟨a, b⟩ := h.choose_spec
  generalize h.choose = z at a b
  by_cases hlt : y < z
  · have := dfy_mono (show y + 1 ≤ z by omega); omega
  · by_cases hgt : z < y
    · have := dfy_mono (show z + 1 ≤ y by omega); omega
    · omega
theorem yod_dn {y d : Int} (h : d < dfy y) : (dfy (y - 1) - d).toNat < (dfy y - d).toNat := by have := dfy_prev y; omega
theorem toNat_less {d p q : Int} (h : p < q) (hp : p ≤ d) : (d - q + 1).toNat < (d - p + 1).toNat := by omega
theorem dfy_lt (y : Int) : dfy y < dfy (y + 1) := Int.lt_of_lt_of_le (Int.lt_add_of_pos_right _ (by decide)) (dfy_step y).1
theorem yod_up {y d : Int} (h : dfy (y + 1) ≤ d) : (d - dfy (y + 1 + 1) + 1).toNat < (d - dfy (y + 1) + 1).toNat := toNat_less (dfy_lt _) h

section
set_option maxHeartbeats 4000000 in
set_option pp.deepTerms false in
theorem day_of_ok (x : Int) (t : Tok) : Clm w loose mean mg mb 1 29 [.int x t] news (RetV news fun t => .int (x / 86400000) t) := by
  w_on
  w_strict (
    k_with_none
    k_with "sub" => first | exact sub_self | (refine sub_cons ?_; k_extra "sub")
    k_with "compareOp In none ref" => (k_here; k_dflt (first | (refine' none_in_tup (b := false) ?N ?r ?c ?b ?u ?_; (case N => exact News.isTup (by k_asm) (by k_mem)); (case r => rfl); (case c => rfl); (case b => rfl); (case u => ktr_units); k_whole) | (refine' none_in_tup (b := true) ?N ?r ?c ?b ?u ?_; (case N => exact News.isTup (by k_asm) (by k_mem)); (case r => rfl); (case c => rfl); (case b => rfl); (case u => ktr_units); k_whole)))
    k_with "subc" => first | exact sub_self | (refine sub_both ?_; k_extra "subc") | (refine sub_cons ?_; k_extra "subc")
    k_with "low" => first | assumption | exact allLt_of (by assumption) | exact low1 (by assumption) | exact low2 (by assumption) | exact low3 (by assumption) | exact low4 (by assumption)
    k_with "mem" => first | exact sub_self | (k_extra "sub") | (refine List.forall_mem_cons.mpr ⟨?_, ?_⟩; k_mem; k_extra "mem")
    k_with "ne" => first | assumption | exact List.forall_mem_nil _ | exact ne_of_low (by k_extra "low") | (refine' List.forall_mem_cons.mpr ⟨?a, ?b⟩; (case a => k_ne); (case b => k_extra "ne"))
    k_with "pull" => first | k_asm | exact pull1 (by k_asm) | exact pull2 (by k_asm) | exact pull3 (by k_asm) | exact pull4 (by k_asm)
    k_with "memq" => first | with_reducible assumption | exact List.Mem.head _ | (refine' List.Mem.tail _ ?_; k_extra "memq")
    intro dp un gd cn cs a ccd cl outer A₀ base h₀ L m s Q E B F X N T hk hdp hun hret
    refine wpAny_call ?_
    k_dflt cell_enter
    k_steps
    all_goals (refine' endI hret ?e1 ?e2 ?e3 ?e4; (case e2 => k_asm); (case e3 => k_asm); (case e4 => k_extra "sub"); (case e1 => exact fd (by decide) rfl)))
end

section
set_option maxHeartbeats 4000000 in
set_option pp.deepTerms false in
theorem time_in_day_ok (x : Int) (t : Tok) : Clm w loose mean mg mb 1 36 [.int x t] news (RetV news fun t => .int (x % 86400000) t) := by
  w_on
  w_strict (
    k_with_none
    k_with "sub" => first | exact sub_self | (refine sub_cons ?_; k_extra "sub")
    k_with "compareOp In none ref" => (k_here; k_dflt (first | (refine' none_in_tup (b := false) ?N ?r ?c ?b ?u ?_; (case N => exact News.isTup (by k_asm) (by k_mem)); (case r => rfl); (case c => rfl); (case b => rfl); (case u => ktr_units); k_whole) | (refine' none_in_tup (b := true) ?N ?r ?c ?b ?u ?_; (case N => exact News.isTup (by k_asm) (by k_mem)); (case r => rfl); (case c => rfl); (case b => rfl); (case u => ktr_units); k_whole)))
    k_with "subc" => first | exact sub_self | (refine sub_both ?_; k_extra "subc") | (refine sub_cons ?_; k_extra "subc")
    k_with "low" => first | assumption | exact allLt_of (by assumption) | exact low1 (by assumption) | exact low2 (by assumption) | exact low3 (by assumption) | exact low4 (by assumption)
    k_with "mem" => first | exact sub_self | (k_extra "sub") | (refine List.forall_mem_cons.mpr ⟨?_, ?_⟩; k_mem; k_extra "mem")
    k_with "ne" => first | assumption | exact List.forall_mem_nil _ | exact ne_of_low (by k_extra "low") | (refine' List.forall_mem_cons.mpr ⟨?a, ?b⟩; (case a => k_ne); (case b => k_extra "ne"))
    k_with "pull" => first | k_asm | exact pull1 (by k_asm) | exact pull2 (by k_asm) | exact pull3 (by k_asm) | exact pull4 (by k_asm)
    k_with "memq" => first | with_reducible assumption | exact List.Mem.head _ | (refine' List.Mem.tail _ ?_; k_extra "memq")
    intro dp un gd cn cs a ccd cl outer A₀ base h₀ L m s Q E B F X N T hk hdp hun hret
    refine wpAny_call ?_
    k_dflt cell_enter
    k_steps
    all_goals (refine' endI hret ?e1 ?e2 ?e3 ?e4; (case e2 => k_asm); (case e3 => k_asm); (case e4 => k_extra "sub"); (case e1 => exact fm (by decide) rfl)))
end

section
set_option maxHeartbeats 4000000 in
set_option pp.deepTerms false in
theorem is_leap_year_ok (x : Int) (t : Tok) : Clm w loose mean mg mb 1 43 [.int x t] news (RetV news fun t => .bool (leap x)) := by
  w_on
  w_strict (
    k_with_none
    k_with "sub" => first | exact sub_self | (refine sub_cons ?_; k_extra "sub")
    k_with "compareOp In none ref" => (k_here; k_dflt (first | (refine' none_in_tup (b := false) ?N ?r ?c ?b ?u ?_; (case N => exact News.isTup (by k_asm) (by k_mem)); (case r => rfl); (case c => rfl); (case b => rfl); (case u => ktr_units); k_whole) | (refine' none_in_tup (b := true) ?N ?r ?c ?b ?u ?_; (case N => exact News.isTup (by k_asm) (by k_mem)); (case r => rfl); (case c => rfl); (case b => rfl); (case u => ktr_units); k_whole)))
    k_with "subc" => first | exact sub_self | (refine sub_both ?_; k_extra "subc") | (refine sub_cons ?_; k_extra "subc")
    k_with "low" => first | assumption | exact allLt_of (by assumption) | exact low1 (by assumption) | exact low2 (by assumption) | exact low3 (by assumption) | exact low4 (by assumption)
    k_with "mem" => first | exact sub_self | (k_extra "sub") | (refine List.forall_mem_cons.mpr ⟨?_, ?_⟩; k_mem; k_extra "mem")
    k_with "ne" => first | assumption | exact List.forall_mem_nil _ | exact ne_of_low (by k_extra "low") | (refine' List.forall_mem_cons.mpr ⟨?a, ?b⟩; (case a => k_ne); (case b => k_extra "ne"))
    k_with "pull" => first | k_asm | exact pull1 (by k_asm) | exact pull2 (by k_asm) | exact pull3 (by k_asm) | exact pull4 (by k_asm)
    k_with "memq" => first | with_reducible assumption | exact List.Mem.head _ | (refine' List.Mem.tail _ ?_; k_extra "memq")
    intro dp un gd cn cs a ccd cl outer A₀ base h₀ L m s Q E B F X N T hk hdp hun hret
    refine wpAny_call ?_
    k_dflt cell_enter
    k_steps
    all_goals (refine' endB hret ?e1 ?e2 ?e3 ?e4; (case e2 => k_asm); (case e3 => k_asm); (case e4 => k_extra "sub"); (case e1 => ((simp only [Int.fmod_eq_emod_of_nonneg _ (show (0:Int) ≤ 4 by decide), Int.fmod_eq_emod_of_nonneg _ (show (0:Int) ≤ 100 by decide), Int.fmod_eq_emod_of_nonneg _ (show (0:Int) ≤ 400 by decide)] at *); simp_all [leap]; try (first | rfl | (apply Bool.eq_iff_iff.mpr; simp))))))
end

section
set_option maxHeartbeats 4000000 in
set_option pp.deepTerms false in
theorem day_from_year_ok (x : Int) (t : Tok) : Clm w loose mean mg mb 1 50 [.int x t] news (RetV news fun t => .int (dfy x) t) := by
  w_on
  w_strict (
    k_with_none
    k_with "sub" => first | exact sub_self | (refine sub_cons ?_; k_extra "sub")
    k_with "compareOp In none ref" => (k_here; k_dflt (first | (refine' none_in_tup (b := false) ?N ?r ?c ?b ?u ?_; (case N => exact News.isTup (by k_asm) (by k_mem)); (case r => rfl); (case c => rfl); (case b => rfl); (case u => ktr_units); k_whole) | (refine' none_in_tup (b := true) ?N ?r ?c ?b ?u ?_; (case N => exact News.isTup (by k_asm) (by k_mem)); (case r => rfl); (case c => rfl); (case b => rfl); (case u => ktr_units); k_whole)))
    k_with "subc" => first | exact sub_self | (refine sub_both ?_; k_extra "subc") | (refine sub_cons ?_; k_extra "subc")
    k_with "low" => first | assumption | exact allLt_of (by assumption) | exact low1 (by assumption) | exact low2 (by assumption) | exact low3 (by assumption) | exact low4 (by assumption)
    k_with "mem" => first | exact sub_self | (k_extra "sub") | (refine List.forall_mem_cons.mpr ⟨?_, ?_⟩; k_mem; k_extra "mem")
    k_with "ne" => first | assumption | exact List.forall_mem_nil _ | exact ne_of_low (by k_extra "low") | (refine' List.forall_mem_cons.mpr ⟨?a, ?b⟩; (case a => k_ne); (case b => k_extra "ne"))
    k_with "pull" => first | k_asm | exact pull1 (by k_asm) | exact pull2 (by k_asm) | exact pull3 (by k_asm) | exact pull4 (by k_asm)
    k_with "memq" => first | with_reducible assumption | exact List.Mem.head _ | (refine' List.Mem.tail _ ?_; k_extra "memq")
    intro dp un gd cn cs a ccd cl outer A₀ base h₀ L m s Q E B F X N T hk hdp hun hret
    refine wpAny_call ?_
    k_dflt cell_enter
    k_steps
    all_goals (refine' endI hret ?e1 ?e2 ?e3 ?e4; (case e2 => k_asm); (case e3 => k_asm); (case e4 => k_extra "sub"); (case e1 => simp only [Int.fdiv_eq_ediv_of_nonneg _ (by decide : (0:Int) ≤ 4), Int.fdiv_eq_ediv_of_nonneg _ (by decide : (0:Int) ≤ 100), Int.fdiv_eq_ediv_of_nonneg _ (by decide : (0:Int) ≤ 400)]; rfl)))
end

section
set_option maxHeartbeats 4000000 in
set_option pp.deepTerms false in
theorem days_ahead_ok (x : Int) (t : Tok) (b : Bool) (h0 : 0 ≤ x) (h1 : x ≤ 12) : Clm w loose mean mg mb 1 78 [.int x t, .bool b] news (RetV news fun t => .int (da x b) t) := by
  w_on
  w_strict (
    k_with_none
    k_with "sub" => first | exact sub_self | (refine sub_cons ?_; k_extra "sub")
    k_with "compareOp In none ref" => (k_here; k_dflt (first | (refine' none_in_tup (b := false) ?N ?r ?c ?b ?u ?_; (case N => exact News.isTup (by k_asm) (by k_mem)); (case r => rfl); (case c => rfl); (case b => rfl); (case u => ktr_units); k_whole) | (refine' none_in_tup (b := true) ?N ?r ?c ?b ?u ?_; (case N => exact News.isTup (by k_asm) (by k_mem)); (case r => rfl); (case c => rfl); (case b => rfl); (case u => ktr_units); k_whole)))
    k_with "subc" => first | exact sub_self | (refine sub_both ?_; k_extra "subc") | (refine sub_cons ?_; k_extra "subc")
    k_with "low" => first | assumption | exact allLt_of (by assumption) | exact low1 (by assumption) | exact low2 (by assumption) | exact low3 (by assumption) | exact low4 (by assumption)
    k_with "mem" => first | exact sub_self | (k_extra "sub") | (refine List.forall_mem_cons.mpr ⟨?_, ?_⟩; k_mem; k_extra "mem")
    k_with "ne" => first | assumption | exact List.forall_mem_nil _ | exact ne_of_low (by k_extra "low") | (refine' List.forall_mem_cons.mpr ⟨?a, ?b⟩; (case a => k_ne); (case b => k_extra "ne"))
    k_with "pull" => first | k_asm | exact pull1 (by k_asm) | exact pull2 (by k_asm) | exact pull3 (by k_asm) | exact pull4 (by k_asm)
    k_with "memq" => first | with_reducible assumption | exact List.Mem.head _ | (refine' List.Mem.tail _ ?_; k_extra "memq")
    k_with "subscriptTail" => k_dflt (refine' topListAny_K ?F ?X ?l ?i ?k3 ?k4 ?k5 ?_; (case F => k_asm); (case X => k_asm); (case l => k_is); (case i => l_ints); (case k3 => l_idx); (case k4 => l_idx); (case k5 => l_idx); k_whole; intro _)
    intro dp un gd cn cs a ccd cl outer A₀ base h₀ L m s Q E B F X N T hk hdp hun hret
    refine wpAny_call ?_
    k_dflt cell_enter
    k_steps
    all_goals (refine' endI hret ?e1 ?e2 ?e3 ?e4; (case e2 => k_asm); (case e3 => k_asm); (case e4 => k_extra "sub"); (case e1 => first | exact da_t (by assumption) (by omega) | exact da_f1 (by omega) | exact da_f2 (by simpa using (by assumption)))))
end

section
set_option maxHeartbeats 4000000 in
set_option pp.deepTerms false in
theorem year_of_day_ok (d : Int) (t : Tok) : Clm w loose mean mg mb 2 57 [.int d t] news (RetV news fun t => .int (yod d) t) := by
  w_on
  w_strict (
    k_with_none
    k_with "sub" => first | exact sub_self | (refine sub_cons ?_; k_extra "sub")
    k_with "compareOp In none ref" => (k_here; k_dflt (first | (refine' none_in_tup (b := false) ?N ?r ?c ?b ?u ?_; (case N => exact News.isTup (by k_asm) (by k_mem)); (case r => rfl); (case c => rfl); (case b => rfl); (case u => ktr_units); k_whole) | (refine' none_in_tup (b := true) ?N ?r ?c ?b ?u ?_; (case N => exact News.isTup (by k_asm) (by k_mem)); (case r => rfl); (case c => rfl); (case b => rfl); (case u => ktr_units); k_whole)))
    k_with "subc" => first | exact sub_self | (refine sub_both ?_; k_extra "subc") | (refine sub_cons ?_; k_extra "subc")
    k_with "low" => first | assumption | exact allLt_of (by assumption) | exact low1 (by assumption) | exact low2 (by assumption) | exact low3 (by assumption) | exact low4 (by assumption)
    k_with "mem" => first | exact sub_self | (k_extra "sub") | (refine List.forall_mem_cons.mpr ⟨?_, ?_⟩; k_mem; k_extra "mem")
    k_with "ne" => first | assumption | exact List.forall_mem_nil _ | exact ne_of_low (by k_extra "low") | (refine' List.forall_mem_cons.mpr ⟨?a, ?b⟩; (case a => k_ne); (case b => k_extra "ne"))
    k_with "pull" => first | k_asm | exact pull1 (by k_asm) | exact pull2 (by k_asm) | exact pull3 (by k_asm) | exact pull4 (by k_asm)
    k_with "memq" => first | with_reducible assumption | exact List.Mem.head _ | (refine' List.Mem.tail _ ?_; k_extra "memq")
    k_with "call ref" => (first
        | ((with_reducible show wpAny _ _ (call (Value.ref 50) _) _ _ _); k_dflt (refine' Clm.use (day_from_year_ok _ _ ) ?u1 ?u2 ?u3 ?u4 ?u5 ?u6 ?u7 ?u8 ?_; (case u1 => k_asm); (case u2 => k_asm); (case u3 => k_asm); (case u4 => k_asm); (case u5 => k_asm); (case u6 => first | exact rfl | assumption); (case u7 => first | exact room1 hdp (Nat.le_of_ble_eq_true rfl) | ktr_room); (case u8 => first | exact units1 hun (Nat.le_of_ble_eq_true rfl) | ktr_units)); intro t9 h9 tk9 F9 N9; (all_goals ((try dsimp only); (try k_sweep); (try k_fold)))))
    k_with "exec While Compare cons nil" => k_while (fun _ y => True) (fun _ y => (dfy y - d).toNat) "year"
    k_with "exec While Compare cons nil" => k_while (fun _ y => dfy y ≤ d) (fun _ y => (d - dfy (y + 1) + 1).toNat) "year"
    k_with "measure" => first | exact yod_dn (by omega) | exact yod_up (by omega)
    k_with "state" => first | exact trivial | omega
    intro dp un gd cn cs a ccd cl outer A₀ base h₀ L m s Q E B F X N T hk hdp hun hret
    refine wpAny_call ?_
    k_dflt cell_enter
    k_steps
    all_goals (refine' endI hret ?e1 ?e2 ?e3 ?e4; (case e2 => k_asm); (case e3 => k_asm); (case e4 => k_extra "sub"); (case e1 => exact yod_eq (by omega) (by omega))))
end

end

section
set_option linter.unusedVariables false
variable {w : World} {loose : List Str} {mean : ExcName → Option Value} {mg mb : Str → Option Value} {news : List (Addr × Obj)}

theorem dfy_ex : ∀ (k : Nat) (y d : Int), dfy y ≤ d → d < dfy (y + k) → ∃ z, dfy z ≤ d ∧ d < dfy (z + 1)
  | 0, y, d, h1, h2 => by simp at h2; omega
  | k + 1, y, d, h1, h2 => by
    by_cases h : d < dfy (y + 1)
    · exact ⟨y, h1, h⟩
    · exact dfy_ex k (y + 1) d (by omega) (by rw [show y + 1 + (k : Int) = y + ((k + 1 : Nat) : Int) by omega]; exact h2)
theorem yod_spec (d : Int) : dfy (yod d) ≤ d ∧ d < dfy (yod d + 1) := by
  have e0 : dfy 1970 = 0 := by decide
  have h1 := dfy_mono (show (1970 - (d.natAbs : Int)) ≤ 1970 by omega)
  have h2 := dfy_mono (show (1970 : Int) ≤ 1970 + (d.natAbs + 1 : Nat) by omega)
  have h3 := dfy_ex (d.natAbs + d.natAbs + 1) (1970 - d.natAbs) d (by omega) (by
    rw [show (1970 - (d.natAbs : Int)) + ((d.natAbs + d.natAbs + 1 : Nat) : Int) = 1970 + (d.natAbs + 1 : Nat) by omega]; omega)
  unfold yod
  rw [dif_pos h3]
  exact h3.choose_spec
theorem da_vals (b : Bool) : da 0 b = 0 ∧ da 1 b = 31 ∧ da 2 b = da 1 b + (28 + if b = true then 1 else 0) ∧ da 3 b = da 2 b + 31 ∧ da 4 b = da 3 b + 30 ∧ da 5 b = da 4 b + 31 ∧ da 6 b = da 5 b + 30
    ∧ da 7 b = da 6 b + 31 ∧ da 8 b = da 7 b + 31 ∧ da 9 b = da 8 b + 30 ∧ da 10 b = da 9 b + 31 ∧ da 11 b = da 10 b + 30 ∧ da 12 b = da 11 b + 31 := by cases b <;> decide
theorem dfy_len (y : Int) : dfy (y + 1) = dfy y + da 12 (leap y) := by
  rw [dfy_one]; congr 1; unfold da; cases leap y <;> rfl
theorem da_mono : ∀ (i j : Fin 13) (b : Bool), i ≤ j → da i.val b ≤ da j.val b := by decide +kernel
theorem da_months : ∀ (i : Fin 12) (b : Bool), da i.val b + 28 ≤ da (i.val + 1) b ∧ da (i.val + 1) b ≤ da i.val b + 31 := by decide +kernel
noncomputable def moy (p : Int) (b : Bool) : Int := if p < da 1 b then 0 else if p < da 2 b then 1 else if p < da 3 b then 2 else if p < da 4 b then 3 else if p < da 5 b then 4 else if p < da 6 b then 5
  else if p < da 7 b then 6 else if p < da 8 b then 7 else if p < da 9 b then 8 else if p < da 10 b then 9 else if p < da 11 b then 10 else 11
theorem moy_all : ∀ (p : Fin 366) (b : Bool), (p.val : Int) < da 12 b → 0 ≤ moy p.val b ∧ moy p.val b ≤ 11 ∧ da (moy p.val b) b ≤ p.val ∧ (p.val : Int) < da (moy p.val b + 1) b := by decide +kernel
theorem le_of_da {i j : Int} {b : Bool} (h0 : 0 ≤ i) (h1 : i ≤ j) (h2 : j ≤ 12) : da i b ≤ da j b := by
  have h := da_mono ⟨i.toNat, by omega⟩ ⟨j.toNat, by omega⟩ b (by show i.toNat ≤ j.toNat; omega)
  have e1 : ((i.toNat : Nat) : Int) = i := by omega
  have e2 : ((j.toNat : Nat) : Int) = j := by omega
  rw [e1, e2] at h; exact h
theorem moy_spec {p : Int} {b : Bool} (h0 : 0 ≤ p) (h1 : p < da 12 b) : 0 ≤ moy p b ∧ moy p b ≤ 11 ∧ da (moy p b) b ≤ p ∧ p < da (moy p b + 1) b := by
  have hb : da 12 b ≤ 366 := by cases b <;> decide
  have h := moy_all ⟨p.toNat, by omega⟩ b
  have e1 : ((p.toNat : Nat) : Int) = p := by omega
  rw [e1] at h; exact h h1
theorem moy_neg {p : Int} {b : Bool} (h : p < da 1 b) : moy p b = 0 := if_pos h
theorem moy_eq {m p : Int} {b : Bool} (h0 : 0 ≤ m) (h1 : m ≤ 11) (h2 : m = 0 ∨ da m b ≤ p) (h3 : p < da (m + 1) b) : m = moy p b := by
  rcases h2 with rfl | h2
  · exact (moy_neg h3).symm
  · have hp : 0 ≤ p := by have := le_of_da (b := b) (Int.le_refl 0) h0 (by omega); have e : da 0 b = 0 := by cases b <;> decide
                          omega
    have h4 := le_of_da (b := b) (show 0 ≤ m + 1 by omega) (show m + 1 ≤ 12 by omega) (Int.le_refl 12)
    have s := moy_spec hp (Int.lt_of_lt_of_le h3 h4)
    generalize moy p b = k at s
    by_cases hc : m < k
    · have := le_of_da (b := b) (show 0 ≤ m + 1 by omega) (show m + 1 ≤ k by omega) (by omega); omega
    · by_cases hd : k < m
      · have := le_of_da (b := b) (show 0 ≤ k + 1 by omega) (show k + 1 ≤ m by omega) (by omega); omega
      · omega
theorem da_month {m : Int} {b : Bool} (h0 : 0 ≤ m) (h1 : m ≤ 11) : da m b + 28 ≤ da (m + 1) b ∧ da (m + 1) b ≤ da m b + 31 := by
  have h := da_months ⟨m.toNat, by omega⟩ b
  have e1 : ((m.toNat : Nat) : Int) = m := by omega
  rw [e1] at h; exact h
noncomputable def Yr (x : Int) : Int := yod (x / 86400000)
noncomputable def Dy (x : Int) : Int := x / 86400000 - dfy (Yr x)
noncomputable def Mo (x : Int) : Int := moy (Dy x) (leap (Yr x))
noncomputable def Dt (x : Int) : Int := Dy x - da (Mo x) (leap (Yr x)) + 1
noncomputable def Hr (x : Int) : Int := x % 86400000 / 3600000
noncomputable def Mi (x : Int) : Int := x % 86400000 / 60000 % 60
noncomputable def Se (x : Int) : Int := x % 86400000 / 1000 % 60
noncomputable def Ms (x : Int) : Int := x % 1000
theorem Dy_bounds (x : Int) : 0 ≤ Dy x ∧ Dy x < da 12 (leap (Yr x)) := by
  have h := yod_spec (x / 86400000)
  have e := dfy_len (Yr x)
  unfold Dy
  unfold Yr at *
  omega
theorem moy_next {m p : Int} {b : Bool} (h0 : 0 ≤ m) (h1 : m ≤ 11) (h2 : da (m + 1) b ≤ p) (h3 : p < da 12 b) : m + 1 ≤ 11 := by
  by_cases h : m = 11
  · subst h; exact absurd h2 (by show ¬ da 12 b ≤ p; omega)
  · omega

section
set_option maxHeartbeats 4000000 in
set_option pp.deepTerms false in
theorem year_of_ok (x : Int) (t : Tok) : Clm w loose mean mg mb 3 64 [.int x t] news (RetV news fun t => .int (Yr x) t) := by
  w_on
  w_strict (
    k_with_none
    k_with "sub" => first | exact sub_self | (refine sub_cons ?_; k_extra "sub")
    k_with "compareOp In none ref" => (k_here; k_dflt (first | (refine' none_in_tup (b := false) ?N ?r ?c ?b ?u ?_; (case N => exact News.isTup (by k_asm) (by k_mem)); (case r => rfl); (case c => rfl); (case b => rfl); (case u => ktr_units); k_whole) | (refine' none_in_tup (b := true) ?N ?r ?c ?b ?u ?_; (case N => exact News.isTup (by k_asm) (by k_mem)); (case r => rfl); (case c => rfl); (case b => rfl); (case u => ktr_units); k_whole)))
    k_with "subc" => first | exact sub_self | (refine sub_both ?_; k_extra "subc") | (refine sub_cons ?_; k_extra "subc")
    k_with "low" => first | assumption | exact allLt_of (by assumption) | exact low1 (by assumption) | exact low2 (by assumption) | exact low3 (by assumption) | exact low4 (by assumption)
    k_with "mem" => first | exact sub_self | (k_extra "sub") | (refine List.forall_mem_cons.mpr ⟨?_, ?_⟩; k_mem; k_extra "mem")
    k_with "ne" => first | assumption | exact List.forall_mem_nil _ | exact ne_of_low (by k_extra "low") | (refine' List.forall_mem_cons.mpr ⟨?a, ?b⟩; (case a => k_ne); (case b => k_extra "ne"))
    k_with "pull" => first | k_asm | exact pull1 (by k_asm) | exact pull2 (by k_asm) | exact pull3 (by k_asm) | exact pull4 (by k_asm)
    k_with "memq" => first | with_reducible assumption | exact List.Mem.head _ | (refine' List.Mem.tail _ ?_; k_extra "memq")
    k_with "call ref" => (first
        | ((with_reducible show wpAny _ _ (call (Value.ref 29) _) _ _ _); k_dflt (refine' Clm.use (day_of_ok _ _ ) ?u1 ?u2 ?u3 ?u4 ?u5 ?u6 ?u7 ?u8 ?_; (case u1 => k_asm); (case u2 => k_asm); (case u3 => k_asm); (case u4 => k_asm); (case u5 => k_asm); (case u6 => first | exact rfl | assumption); (case u7 => first | exact room1 hdp (Nat.le_of_ble_eq_true rfl) | ktr_room); (case u8 => first | exact units1 hun (Nat.le_of_ble_eq_true rfl) | ktr_units)); intro t9 h9 tk9 F9 N9; (all_goals ((try dsimp only); (try k_sweep); (try k_fold))))
        | ((with_reducible show wpAny _ _ (call (Value.ref 57) _) _ _ _); k_dflt (refine' Clm.use (year_of_day_ok _ _ ) ?u1 ?u2 ?u3 ?u4 ?u5 ?u6 ?u7 ?u8 ?_; (case u1 => k_asm); (case u2 => k_asm); (case u3 => k_asm); (case u4 => k_asm); (case u5 => k_asm); (case u6 => first | exact rfl | assumption); (case u7 => first | exact room1 hdp (Nat.le_of_ble_eq_true rfl) | ktr_room); (case u8 => first | exact units1 hun (Nat.le_of_ble_eq_true rfl) | ktr_units)); intro t9 h9 tk9 F9 N9; (all_goals ((try dsimp only); (try k_sweep); (try k_fold)))))
    intro dp un gd cn cs a ccd cl outer A₀ base h₀ L m s Q E B F X N T hk hdp hun hret
    refine wpAny_call ?_
    k_dflt cell_enter
    k_steps
    all_goals (refine' endI hret ?e1 ?e2 ?e3 ?e4; (case e2 => k_asm); (case e3 => k_asm); (case e4 => k_extra "sub"); (case e1 => rfl)))
end

section
set_option maxHeartbeats 4000000 in
set_option pp.deepTerms false in
theorem day_in_year_ok (x : Int) (t : Tok) : Clm w loose mean mg mb 4 71 [.int x t] news (RetV news fun t => .int (Dy x) t) := by
  w_on
  w_strict (
    k_with_none
    k_with "sub" => first | exact sub_self | (refine sub_cons ?_; k_extra "sub")
    k_with "compareOp In none ref" => (k_here; k_dflt (first | (refine' none_in_tup (b := false) ?N ?r ?c ?b ?u ?_; (case N => exact News.isTup (by k_asm) (by k_mem)); (case r => rfl); (case c => rfl); (case b => rfl); (case u => ktr_units); k_whole) | (refine' none_in_tup (b := true) ?N ?r ?c ?b ?u ?_; (case N => exact News.isTup (by k_asm) (by k_mem)); (case r => rfl); (case c => rfl); (case b => rfl); (case u => ktr_units); k_whole)))
    k_with "subc" => first | exact sub_self | (refine sub_both ?_; k_extra "subc") | (refine sub_cons ?_; k_extra "subc")
    k_with "low" => first | assumption | exact allLt_of (by assumption) | exact low1 (by assumption) | exact low2 (by assumption) | exact low3 (by assumption) | exact low4 (by assumption)
    k_with "mem" => first | exact sub_self | (k_extra "sub") | (refine List.forall_mem_cons.mpr ⟨?_, ?_⟩; k_mem; k_extra "mem")
    k_with "ne" => first | assumption | exact List.forall_mem_nil _ | exact ne_of_low (by k_extra "low") | (refine' List.forall_mem_cons.mpr ⟨?a, ?b⟩; (case a => k_ne); (case b => k_extra "ne"))
    k_with "pull" => first | k_asm | exact pull1 (by k_asm) | exact pull2 (by k_asm) | exact pull3 (by k_asm) | exact pull4 (by k_asm)
    k_with "memq" => first | with_reducible assumption | exact List.Mem.head _ | (refine' List.Mem.tail _ ?_; k_extra "memq")
    k_with "call ref" => (first
        | ((with_reducible show wpAny _ _ (call (Value.ref 29) _) _ _ _); k_dflt (refine' Clm.use (day_of_ok _ _ ) ?u1 ?u2 ?u3 ?u4 ?u5 ?u6 ?u7 ?u8 ?_; (case u1 => k_asm); (case u2 => k_asm); (case u3 => k_asm); (case u4 => k_asm); (case u5 => k_asm); (case u6 => first | exact rfl | assumption); (case u7 => first | exact room1 hdp (Nat.le_of_ble_eq_true rfl) | ktr_room); (case u8 => first | exact units1 hun (Nat.le_of_ble_eq_true rfl) | ktr_units)); intro t9 h9 tk9 F9 N9; (all_goals ((try dsimp only); (try k_sweep); (try k_fold))))
        | ((with_reducible show wpAny _ _ (call (Value.ref 50) _) _ _ _); k_dflt (refine' Clm.use (day_from_year_ok _ _ ) ?u1 ?u2 ?u3 ?u4 ?u5 ?u6 ?u7 ?u8 ?_; (case u1 => k_asm); (case u2 => k_asm); (case u3 => k_asm); (case u4 => k_asm); (case u5 => k_asm); (case u6 => first | exact rfl | assumption); (case u7 => first | exact room1 hdp (Nat.le_of_ble_eq_true rfl) | ktr_room); (case u8 => first | exact units1 hun (Nat.le_of_ble_eq_true rfl) | ktr_units)); intro t9 h9 tk9 F9 N9; (all_goals ((try dsimp only); (try k_sweep); (try k_fold))))
        | ((with_reducible show wpAny _ _ (call (Value.ref 64) _) _ _ _); k_dflt (refine' Clm.use (year_of_ok _ _ ) ?u1 ?u2 ?u3 ?u4 ?u5 ?u6 ?u7 ?u8 ?_; (case u1 => k_asm); (case u2 => k_asm); (case u3 => k_asm); (case u4 => k_asm); (case u5 => k_asm); (case u6 => first | exact rfl | assumption); (case u7 => first | exact room1 hdp (Nat.le_of_ble_eq_true rfl) | ktr_room); (case u8 => first | exact units1 hun (Nat.le_of_ble_eq_true rfl) | ktr_units)); intro t9 h9 tk9 F9 N9; (all_goals ((try dsimp only); (try k_sweep); (try k_fold)))))
    intro dp un gd cn cs a ccd cl outer A₀ base h₀ L m s Q E B F X N T hk hdp hun hret
    refine wpAny_call ?_
    k_dflt cell_enter
    k_steps
    all_goals (refine' endI hret ?e1 ?e2 ?e3 ?e4; (case e2 => k_asm); (case e3 => k_asm); (case e4 => k_extra "sub"); (case e1 => rfl)))
end

section
set_option maxHeartbeats 4000000 in
set_option pp.deepTerms false in
theorem days_of_month_ok (x y : Int) (t u : Tok) (h0 : 0 ≤ y) (h1 : y ≤ 11) : Clm w loose mean mg mb 2 85 [.int x t, .int y u] news (RetV news fun t => .int (da (y + 1) (leap x) - da y (leap x)) t) := by
  w_on
  w_strict (
    k_with_none
    k_with "sub" => first | exact sub_self | (refine sub_cons ?_; k_extra "sub")
    k_with "compareOp In none ref" => (k_here; k_dflt (first | (refine' none_in_tup (b := false) ?N ?r ?c ?b ?u ?_; (case N => exact News.isTup (by k_asm) (by k_mem)); (case r => rfl); (case c => rfl); (case b => rfl); (case u => ktr_units); k_whole) | (refine' none_in_tup (b := true) ?N ?r ?c ?b ?u ?_; (case N => exact News.isTup (by k_asm) (by k_mem)); (case r => rfl); (case c => rfl); (case b => rfl); (case u => ktr_units); k_whole)))
    k_with "subc" => first | exact sub_self | (refine sub_both ?_; k_extra "subc") | (refine sub_cons ?_; k_extra "subc")
    k_with "low" => first | assumption | exact allLt_of (by assumption) | exact low1 (by assumption) | exact low2 (by assumption) | exact low3 (by assumption) | exact low4 (by assumption)
    k_with "mem" => first | exact sub_self | (k_extra "sub") | (refine List.forall_mem_cons.mpr ⟨?_, ?_⟩; k_mem; k_extra "mem")
    k_with "ne" => first | assumption | exact List.forall_mem_nil _ | exact ne_of_low (by k_extra "low") | (refine' List.forall_mem_cons.mpr ⟨?a, ?b⟩; (case a => k_ne); (case b => k_extra "ne"))
    k_with "pull" => first | k_asm | exact pull1 (by k_asm) | exact pull2 (by k_asm) | exact pull3 (by k_asm) | exact pull4 (by k_asm)
    k_with "memq" => first | with_reducible assumption | exact List.Mem.head _ | (refine' List.Mem.tail _ ?_; k_extra "memq")
    k_with "call ref" => (first
        | ((with_reducible show wpAny _ _ (call (Value.ref 43) _) _ _ _); k_dflt (refine' Clm.use (is_leap_year_ok _ _ ) ?u1 ?u2 ?u3 ?u4 ?u5 ?u6 ?u7 ?u8 ?_; (case u1 => k_asm); (case u2 => k_asm); (case u3 => k_asm); (case u4 => k_asm); (case u5 => k_asm); (case u6 => first | exact rfl | assumption); (case u7 => first | exact room1 hdp (Nat.le_of_ble_eq_true rfl) | ktr_room); (case u8 => first | exact units1 hun (Nat.le_of_ble_eq_true rfl) | ktr_units)); intro t9 h9 tk9 F9 N9; (all_goals ((try dsimp only); (try k_sweep); (try k_fold))))
        | ((with_reducible show wpAny _ _ (call (Value.ref 78) _) _ _ _); k_dflt (refine' Clm.use (days_ahead_ok _ _ _ ?p0 ?p1) ?u1 ?u2 ?u3 ?u4 ?u5 ?u6 ?u7 ?u8 ?_; (case u1 => k_asm); (case u2 => k_asm); (case u3 => k_asm); (case u4 => k_asm); (case u5 => k_asm); (case u6 => first | exact rfl | assumption); (case u7 => first | exact room1 hdp (Nat.le_of_ble_eq_true rfl) | ktr_room); (case u8 => first | exact units1 hun (Nat.le_of_ble_eq_true rfl) | ktr_units); (case p0 => l_idx); (case p1 => l_idx)); intro t9 h9 tk9 F9 N9; (all_goals ((try dsimp only); (try k_sweep); (try k_fold)))))
    intro dp un gd cn cs a ccd cl outer A₀ base h₀ L m s Q E B F X N T hk hdp hun hret
    refine wpAny_call ?_
    k_dflt cell_enter
    k_steps
    all_goals (refine' endI hret ?e1 ?e2 ?e3 ?e4; (case e2 => k_asm); (case e3 => k_asm); (case e4 => k_extra "sub"); (case e1 => rfl)))
end

section
set_option maxHeartbeats 4000000 in
set_option pp.deepTerms false in
theorem month_of_ok (x : Int) (t : Tok) : Clm w loose mean mg mb 5 92 [.int x t] news (RetV news fun t => .int (Mo x) t) := by
  w_on
  w_strict (
    k_with_none
    k_with "sub" => first | exact sub_self | (refine sub_cons ?_; k_extra "sub")
    k_with "compareOp In none ref" => (k_here; k_dflt (first | (refine' none_in_tup (b := false) ?N ?r ?c ?b ?u ?_; (case N => exact News.isTup (by k_asm) (by k_mem)); (case r => rfl); (case c => rfl); (case b => rfl); (case u => ktr_units); k_whole) | (refine' none_in_tup (b := true) ?N ?r ?c ?b ?u ?_; (case N => exact News.isTup (by k_asm) (by k_mem)); (case r => rfl); (case c => rfl); (case b => rfl); (case u => ktr_units); k_whole)))
    k_with "subc" => first | exact sub_self | (refine sub_both ?_; k_extra "subc") | (refine sub_cons ?_; k_extra "subc")
    k_with "low" => first | assumption | exact allLt_of (by assumption) | exact low1 (by assumption) | exact low2 (by assumption) | exact low3 (by assumption) | exact low4 (by assumption)
    k_with "mem" => first | exact sub_self | (k_extra "sub") | (refine List.forall_mem_cons.mpr ⟨?_, ?_⟩; k_mem; k_extra "mem")
    k_with "ne" => first | assumption | exact List.forall_mem_nil _ | exact ne_of_low (by k_extra "low") | (refine' List.forall_mem_cons.mpr ⟨?a, ?b⟩; (case a => k_ne); (case b => k_extra "ne"))
    k_with "pull" => first | k_asm | exact pull1 (by k_asm) | exact pull2 (by k_asm) | exact pull3 (by k_asm) | exact pull4 (by k_asm)
    k_with "memq" => first | with_reducible assumption | exact List.Mem.head _ | (refine' List.Mem.tail _ ?_; k_extra "memq")
    k_with "call ref" => (first
        | ((with_reducible show wpAny _ _ (call (Value.ref 43) _) _ _ _); k_dflt (refine' Clm.use (is_leap_year_ok _ _ ) ?u1 ?u2 ?u3 ?u4 ?u5 ?u6 ?u7 ?u8 ?_; (case u1 => k_asm); (case u2 => k_asm); (case u3 => k_asm); (case u4 => k_asm); (case u5 => k_asm); (case u6 => first | exact rfl | assumption); (case u7 => first | exact room1 hdp (Nat.le_of_ble_eq_true rfl) | ktr_room); (case u8 => first | exact units1 hun (Nat.le_of_ble_eq_true rfl) | ktr_units)); intro t9 h9 tk9 F9 N9; (all_goals ((try dsimp only); (try k_sweep); (try k_fold))))
        | ((with_reducible show wpAny _ _ (call (Value.ref 64) _) _ _ _); k_dflt (refine' Clm.use (year_of_ok _ _ ) ?u1 ?u2 ?u3 ?u4 ?u5 ?u6 ?u7 ?u8 ?_; (case u1 => k_asm); (case u2 => k_asm); (case u3 => k_asm); (case u4 => k_asm); (case u5 => k_asm); (case u6 => first | exact rfl | assumption); (case u7 => first | exact room1 hdp (Nat.le_of_ble_eq_true rfl) | ktr_room); (case u8 => first | exact units1 hun (Nat.le_of_ble_eq_true rfl) | ktr_units)); intro t9 h9 tk9 F9 N9; (all_goals ((try dsimp only); (try k_sweep); (try k_fold))))
        | ((with_reducible show wpAny _ _ (call (Value.ref 71) _) _ _ _); k_dflt (refine' Clm.use (day_in_year_ok _ _ ) ?u1 ?u2 ?u3 ?u4 ?u5 ?u6 ?u7 ?u8 ?_; (case u1 => k_asm); (case u2 => k_asm); (case u3 => k_asm); (case u4 => k_asm); (case u5 => k_asm); (case u6 => first | exact rfl | assumption); (case u7 => first | exact room1 hdp (Nat.le_of_ble_eq_true rfl) | ktr_room); (case u8 => first | exact units1 hun (Nat.le_of_ble_eq_true rfl) | ktr_units)); intro t9 h9 tk9 F9 N9; (all_goals ((try dsimp only); (try k_sweep); (try k_fold))))
        | ((with_reducible show wpAny _ _ (call (Value.ref 78) _) _ _ _); k_dflt (refine' Clm.use (days_ahead_ok _ _ _ ?p0 ?p1) ?u1 ?u2 ?u3 ?u4 ?u5 ?u6 ?u7 ?u8 ?_; (case u1 => k_asm); (case u2 => k_asm); (case u3 => k_asm); (case u4 => k_asm); (case u5 => k_asm); (case u6 => first | exact rfl | assumption); (case u7 => first | exact room1 hdp (Nat.le_of_ble_eq_true rfl) | ktr_room); (case u8 => first | exact units1 hun (Nat.le_of_ble_eq_true rfl) | ktr_units); (case p0 => l_idx); (case p1 => l_idx)); intro t9 h9 tk9 F9 N9; (all_goals ((try dsimp only); (try k_sweep); (try k_fold)))))
    k_with "exec While Compare cons nil" => k_while (fun _ m => 0 ≤ m ∧ m ≤ 11 ∧ (m = 0 ∨ da m (leap (Yr x)) ≤ Dy x)) (fun _ m => (12 - m).toNat) "month"
    k_with "state" => first | (refine ⟨by omega, by omega, Or.inl rfl⟩) | (exact ⟨by omega, moy_next (by omega) (by omega) (by assumption) (Dy_bounds x).2, Or.inr (by assumption)⟩)
    intro dp un gd cn cs a ccd cl outer A₀ base h₀ L m s Q E B F X N T hk hdp hun hret
    refine wpAny_call ?_
    k_dflt cell_enter
    k_steps
    all_goals (refine' endI hret ?e1 ?e2 ?e3 ?e4; (case e2 => k_asm); (case e3 => k_asm); (case e4 => k_extra "sub"); (case e1 => exact moy_eq (by omega) (by omega) (by omega) (by omega))))
end

end

section
set_option linter.unusedVariables false
variable {w : World} {loose : List Str} {mean : ExcName → Option Value} {mg mb : Str → Option Value} {news : List (Addr × Obj)}

theorem Mo_bounds (x : Int) : 0 ≤ Mo x ∧ Mo x ≤ 11 :=
  have h := moy_spec (Dy_bounds x).1 (Dy_bounds x).2
  ⟨h.1, h.2.1⟩
noncomputable def mkday (y m d : Int) : Int := dfy (y + m / 12) + da (m % 12) (leap (y + m / 12)) + d - 1
noncomputable def mktime (h m s u : Int) : Int := h * 3600000 + m * 60000 + s * 1000 + u
noncomputable def mkdate (d t : Int) : Int := d * 86400000 + t
noncomputable def clip (x : Int) : Option Int := if x.natAbs ≤ 8640000000000000 then some x else none
theorem abs_n (x : Int) : (if x < 0 then -x else x) = (x.natAbs : Int) := by split <;> omega

theorem mod12_0 (x : Int) : 0 ≤ x.fmod 12 := by rw [Int.fmod_eq_emod_of_nonneg _ (by decide)]; omega
theorem mod12_1 (x : Int) : x.fmod 12 ≤ 12 := by rw [Int.fmod_eq_emod_of_nonneg _ (by decide)]; omega
theorem mkday_of (y m d : Int) : dfy (y + m.fdiv 12) + da (m.fmod 12) (leap (y + m.fdiv 12)) + d - 1 = mkday y m d := by
  rw [Int.fmod_eq_emod_of_nonneg _ (by decide), Int.fdiv_eq_ediv_of_nonneg _ (by decide)]; rfl
section
set_option maxHeartbeats 4000000 in
set_option pp.deepTerms false in
theorem date_of_ok (x : Int) (t : Tok) : Clm w loose mean mg mb 6 99 [.int x t] news (RetV news fun t => .int (Dt x) t) := by
  w_on
  w_strict (
    k_with_none
    k_with "sub" => first | exact sub_self | (refine sub_cons ?_; k_extra "sub")
    k_with "compareOp In none ref" => (k_here; k_dflt (first | (refine' none_in_tup (b := false) ?N ?r ?c ?b ?u ?_; (case N => exact News.isTup (by k_asm) (by k_mem)); (case r => rfl); (case c => rfl); (case b => rfl); (case u => ktr_units); k_whole) | (refine' none_in_tup (b := true) ?N ?r ?c ?b ?u ?_; (case N => exact News.isTup (by k_asm) (by k_mem)); (case r => rfl); (case c => rfl); (case b => rfl); (case u => ktr_units); k_whole)))
    k_with "subc" => first | exact sub_self | (refine sub_both ?_; k_extra "subc") | (refine sub_cons ?_; k_extra "subc")
    k_with "low" => first | assumption | exact allLt_of (by assumption) | exact low1 (by assumption) | exact low2 (by assumption) | exact low3 (by assumption) | exact low4 (by assumption)
    k_with "mem" => first | exact sub_self | (k_extra "sub") | (refine List.forall_mem_cons.mpr ⟨?_, ?_⟩; k_mem; k_extra "mem")
    k_with "ne" => first | assumption | exact List.forall_mem_nil _ | exact ne_of_low (by k_extra "low") | (refine' List.forall_mem_cons.mpr ⟨?a, ?b⟩; (case a => k_ne); (case b => k_extra "ne"))
    k_with "pull" => first | k_asm | exact pull1 (by k_asm) | exact pull2 (by k_asm) | exact pull3 (by k_asm) | exact pull4 (by k_asm)
    k_with "memq" => first | with_reducible assumption | exact List.Mem.head _ | (refine' List.Mem.tail _ ?_; k_extra "memq")
    k_with "call ref" => (first
        | ((with_reducible show wpAny _ _ (call (Value.ref 71) _) _ _ _); k_dflt (refine' Clm.use (day_in_year_ok _ _ ) ?u1 ?u2 ?u3 ?u4 ?u5 ?u6 ?u7 ?u8 ?_; (case u1 => k_asm); (case u2 => k_asm); (case u3 => k_asm); (case u4 => k_asm); (case u5 => k_asm); (case u6 => first | exact rfl | assumption); (case u7 => first | exact room1 hdp (Nat.le_of_ble_eq_true rfl) | ktr_room); (case u8 => first | exact units1 hun (Nat.le_of_ble_eq_true rfl) | ktr_units)); intro t9 h9 tk9 F9 N9; (all_goals ((try dsimp only); (try k_sweep); (try k_fold))))
        | ((with_reducible show wpAny _ _ (call (Value.ref 92) _) _ _ _); k_dflt (refine' Clm.use (month_of_ok _ _ ) ?u1 ?u2 ?u3 ?u4 ?u5 ?u6 ?u7 ?u8 ?_; (case u1 => k_asm); (case u2 => k_asm); (case u3 => k_asm); (case u4 => k_asm); (case u5 => k_asm); (case u6 => first | exact rfl | assumption); (case u7 => first | exact room1 hdp (Nat.le_of_ble_eq_true rfl) | ktr_room); (case u8 => first | exact units1 hun (Nat.le_of_ble_eq_true rfl) | ktr_units)); intro t9 h9 tk9 F9 N9; (all_goals ((try dsimp only); (try k_sweep); (try k_fold))))
        | ((with_reducible show wpAny _ _ (call (Value.ref 43) _) _ _ _); k_dflt (refine' Clm.use (is_leap_year_ok _ _ ) ?u1 ?u2 ?u3 ?u4 ?u5 ?u6 ?u7 ?u8 ?_; (case u1 => k_asm); (case u2 => k_asm); (case u3 => k_asm); (case u4 => k_asm); (case u5 => k_asm); (case u6 => first | exact rfl | assumption); (case u7 => first | exact room1 hdp (Nat.le_of_ble_eq_true rfl) | ktr_room); (case u8 => first | exact units1 hun (Nat.le_of_ble_eq_true rfl) | ktr_units)); intro t9 h9 tk9 F9 N9; (all_goals ((try dsimp only); (try k_sweep); (try k_fold))))
        | ((with_reducible show wpAny _ _ (call (Value.ref 64) _) _ _ _); k_dflt (refine' Clm.use (year_of_ok _ _ ) ?u1 ?u2 ?u3 ?u4 ?u5 ?u6 ?u7 ?u8 ?_; (case u1 => k_asm); (case u2 => k_asm); (case u3 => k_asm); (case u4 => k_asm); (case u5 => k_asm); (case u6 => first | exact rfl | assumption); (case u7 => first | exact room1 hdp (Nat.le_of_ble_eq_true rfl) | ktr_room); (case u8 => first | exact units1 hun (Nat.le_of_ble_eq_true rfl) | ktr_units)); intro t9 h9 tk9 F9 N9; (all_goals ((try dsimp only); (try k_sweep); (try k_fold))))
        | ((with_reducible show wpAny _ _ (call (Value.ref 78) _) _ _ _); k_dflt (refine' Clm.use (days_ahead_ok _ _ _ ?p0 ?p1) ?u1 ?u2 ?u3 ?u4 ?u5 ?u6 ?u7 ?u8 ?_; (case u1 => k_asm); (case u2 => k_asm); (case u3 => k_asm); (case u4 => k_asm); (case u5 => k_asm); (case u6 => first | exact rfl | assumption); (case u7 => first | exact room1 hdp (Nat.le_of_ble_eq_true rfl) | ktr_room); (case u8 => first | exact units1 hun (Nat.le_of_ble_eq_true rfl) | ktr_units); (case p0 => (first | exact (Mo_bounds _).1 | exact Int.le_trans (Mo_bounds _).2 (by decide) | exact mod12_0 _ | exact mod12_1 _ | l_idx)); (case p1 => (first | exact (Mo_bounds _).1 | exact Int.le_trans (Mo_bounds _).2 (by decide) | exact mod12_0 _ | exact mod12_1 _ | l_idx))); intro t9 h9 tk9 F9 N9; (all_goals ((try dsimp only); (try k_sweep); (try k_fold)))))
    intro dp un gd cn cs a ccd cl outer A₀ base h₀ L m s Q E B F X N T hk hdp hun hret
    refine wpAny_call ?_
    k_dflt cell_enter
    k_steps
    all_goals (refine' endI hret ?e1 ?e2 ?e3 ?e4; (case e2 => k_asm); (case e3 => k_asm); (case e4 => k_extra "sub"); (case e1 => rfl)))
end

section
set_option maxHeartbeats 4000000 in
set_option pp.deepTerms false in
theorem hour_of_ok (x : Int) (t : Tok) : Clm w loose mean mg mb 2 106 [.int x t] news (RetV news fun t => .int (Hr x) t) := by
  w_on
  w_strict (
    k_with_none
    k_with "sub" => first | exact sub_self | (refine sub_cons ?_; k_extra "sub")
    k_with "compareOp In none ref" => (k_here; k_dflt (first | (refine' none_in_tup (b := false) ?N ?r ?c ?b ?u ?_; (case N => exact News.isTup (by k_asm) (by k_mem)); (case r => rfl); (case c => rfl); (case b => rfl); (case u => ktr_units); k_whole) | (refine' none_in_tup (b := true) ?N ?r ?c ?b ?u ?_; (case N => exact News.isTup (by k_asm) (by k_mem)); (case r => rfl); (case c => rfl); (case b => rfl); (case u => ktr_units); k_whole)))
    k_with "subc" => first | exact sub_self | (refine sub_both ?_; k_extra "subc") | (refine sub_cons ?_; k_extra "subc")
    k_with "low" => first | assumption | exact allLt_of (by assumption) | exact low1 (by assumption) | exact low2 (by assumption) | exact low3 (by assumption) | exact low4 (by assumption)
    k_with "mem" => first | exact sub_self | (k_extra "sub") | (refine List.forall_mem_cons.mpr ⟨?_, ?_⟩; k_mem; k_extra "mem")
    k_with "ne" => first | assumption | exact List.forall_mem_nil _ | exact ne_of_low (by k_extra "low") | (refine' List.forall_mem_cons.mpr ⟨?a, ?b⟩; (case a => k_ne); (case b => k_extra "ne"))
    k_with "pull" => first | k_asm | exact pull1 (by k_asm) | exact pull2 (by k_asm) | exact pull3 (by k_asm) | exact pull4 (by k_asm)
    k_with "memq" => first | with_reducible assumption | exact List.Mem.head _ | (refine' List.Mem.tail _ ?_; k_extra "memq")
    k_with "call ref" => (first
        | ((with_reducible show wpAny _ _ (call (Value.ref 36) _) _ _ _); k_dflt (refine' Clm.use (time_in_day_ok _ _ ) ?u1 ?u2 ?u3 ?u4 ?u5 ?u6 ?u7 ?u8 ?_; (case u1 => k_asm); (case u2 => k_asm); (case u3 => k_asm); (case u4 => k_asm); (case u5 => k_asm); (case u6 => first | exact rfl | assumption); (case u7 => first | exact room1 hdp (Nat.le_of_ble_eq_true rfl) | ktr_room); (case u8 => first | exact units1 hun (Nat.le_of_ble_eq_true rfl) | ktr_units)); intro t9 h9 tk9 F9 N9; (all_goals ((try dsimp only); (try k_sweep); (try k_fold)))))
    intro dp un gd cn cs a ccd cl outer A₀ base h₀ L m s Q E B F X N T hk hdp hun hret
    refine wpAny_call ?_
    k_dflt cell_enter
    k_steps
    all_goals (refine' endI hret ?e1 ?e2 ?e3 ?e4; (case e2 => k_asm); (case e3 => k_asm); (case e4 => k_extra "sub"); (case e1 => exact fd (by decide) rfl)))
end

section
set_option maxHeartbeats 4000000 in
set_option pp.deepTerms false in
theorem minute_of_ok (x : Int) (t : Tok) : Clm w loose mean mg mb 2 113 [.int x t] news (RetV news fun t => .int (Mi x) t) := by
  w_on
  w_strict (
    k_with_none
    k_with "sub" => first | exact sub_self | (refine sub_cons ?_; k_extra "sub")
    k_with "compareOp In none ref" => (k_here; k_dflt (first | (refine' none_in_tup (b := false) ?N ?r ?c ?b ?u ?_; (case N => exact News.isTup (by k_asm) (by k_mem)); (case r => rfl); (case c => rfl); (case b => rfl); (case u => ktr_units); k_whole) | (refine' none_in_tup (b := true) ?N ?r ?c ?b ?u ?_; (case N => exact News.isTup (by k_asm) (by k_mem)); (case r => rfl); (case c => rfl); (case b => rfl); (case u => ktr_units); k_whole)))
    k_with "subc" => first | exact sub_self | (refine sub_both ?_; k_extra "subc") | (refine sub_cons ?_; k_extra "subc")
    k_with "low" => first | assumption | exact allLt_of (by assumption) | exact low1 (by assumption) | exact low2 (by assumption) | exact low3 (by assumption) | exact low4 (by assumption)
    k_with "mem" => first | exact sub_self | (k_extra "sub") | (refine List.forall_mem_cons.mpr ⟨?_, ?_⟩; k_mem; k_extra "mem")
    k_with "ne" => first | assumption | exact List.forall_mem_nil _ | exact ne_of_low (by k_extra "low") | (refine' List.forall_mem_cons.mpr ⟨?a, ?b⟩; (case a => k_ne); (case b => k_extra "ne"))
    k_with "pull" => first | k_asm | exact pull1 (by k_asm) | exact pull2 (by k_asm) | exact pull3 (by k_asm) | exact pull4 (by k_asm)
    k_with "memq" => first | with_reducible assumption | exact List.Mem.head _ | (refine' List.Mem.tail _ ?_; k_extra "memq")
    k_with "call ref" => (first
        | ((with_reducible show wpAny _ _ (call (Value.ref 36) _) _ _ _); k_dflt (refine' Clm.use (time_in_day_ok _ _ ) ?u1 ?u2 ?u3 ?u4 ?u5 ?u6 ?u7 ?u8 ?_; (case u1 => k_asm); (case u2 => k_asm); (case u3 => k_asm); (case u4 => k_asm); (case u5 => k_asm); (case u6 => first | exact rfl | assumption); (case u7 => first | exact room1 hdp (Nat.le_of_ble_eq_true rfl) | ktr_room); (case u8 => first | exact units1 hun (Nat.le_of_ble_eq_true rfl) | ktr_units)); intro t9 h9 tk9 F9 N9; (all_goals ((try dsimp only); (try k_sweep); (try k_fold)))))
    intro dp un gd cn cs a ccd cl outer A₀ base h₀ L m s Q E B F X N T hk hdp hun hret
    refine wpAny_call ?_
    k_dflt cell_enter
    k_steps
    all_goals (refine' endI hret ?e1 ?e2 ?e3 ?e4; (case e2 => k_asm); (case e3 => k_asm); (case e4 => k_extra "sub"); (case e1 => (rw [fd (by decide) rfl]; exact fm (by decide) rfl))))
end

section
set_option maxHeartbeats 4000000 in
set_option pp.deepTerms false in
theorem second_of_ok (x : Int) (t : Tok) : Clm w loose mean mg mb 2 120 [.int x t] news (RetV news fun t => .int (Se x) t) := by
  w_on
  w_strict (
    k_with_none
    k_with "sub" => first | exact sub_self | (refine sub_cons ?_; k_extra "sub")
    k_with "compareOp In none ref" => (k_here; k_dflt (first | (refine' none_in_tup (b := false) ?N ?r ?c ?b ?u ?_; (case N => exact News.isTup (by k_asm) (by k_mem)); (case r => rfl); (case c => rfl); (case b => rfl); (case u => ktr_units); k_whole) | (refine' none_in_tup (b := true) ?N ?r ?c ?b ?u ?_; (case N => exact News.isTup (by k_asm) (by k_mem)); (case r => rfl); (case c => rfl); (case b => rfl); (case u => ktr_units); k_whole)))
    k_with "subc" => first | exact sub_self | (refine sub_both ?_; k_extra "subc") | (refine sub_cons ?_; k_extra "subc")
    k_with "low" => first | assumption | exact allLt_of (by assumption) | exact low1 (by assumption) | exact low2 (by assumption) | exact low3 (by assumption) | exact low4 (by assumption)
    k_with "mem" => first | exact sub_self | (k_extra "sub") | (refine List.forall_mem_cons.mpr ⟨?_, ?_⟩; k_mem; k_extra "mem")
    k_with "ne" => first | assumption | exact List.forall_mem_nil _ | exact ne_of_low (by k_extra "low") | (refine' List.forall_mem_cons.mpr ⟨?a, ?b⟩; (case a => k_ne); (case b => k_extra "ne"))
    k_with "pull" => first | k_asm | exact pull1 (by k_asm) | exact pull2 (by k_asm) | exact pull3 (by k_asm) | exact pull4 (by k_asm)
    k_with "memq" => first | with_reducible assumption | exact List.Mem.head _ | (refine' List.Mem.tail _ ?_; k_extra "memq")
    k_with "call ref" => (first
        | ((with_reducible show wpAny _ _ (call (Value.ref 36) _) _ _ _); k_dflt (refine' Clm.use (time_in_day_ok _ _ ) ?u1 ?u2 ?u3 ?u4 ?u5 ?u6 ?u7 ?u8 ?_; (case u1 => k_asm); (case u2 => k_asm); (case u3 => k_asm); (case u4 => k_asm); (case u5 => k_asm); (case u6 => first | exact rfl | assumption); (case u7 => first | exact room1 hdp (Nat.le_of_ble_eq_true rfl) | ktr_room); (case u8 => first | exact units1 hun (Nat.le_of_ble_eq_true rfl) | ktr_units)); intro t9 h9 tk9 F9 N9; (all_goals ((try dsimp only); (try k_sweep); (try k_fold)))))
    intro dp un gd cn cs a ccd cl outer A₀ base h₀ L m s Q E B F X N T hk hdp hun hret
    refine wpAny_call ?_
    k_dflt cell_enter
    k_steps
    all_goals (refine' endI hret ?e1 ?e2 ?e3 ?e4; (case e2 => k_asm); (case e3 => k_asm); (case e4 => k_extra "sub"); (case e1 => (rw [fd (by decide) rfl]; exact fm (by decide) rfl))))
end

section
set_option maxHeartbeats 4000000 in
set_option pp.deepTerms false in
theorem ms_of_ok (x : Int) (t : Tok) : Clm w loose mean mg mb 2 127 [.int x t] news (RetV news fun t => .int (Ms x) t) := by
  w_on
  w_strict (
    k_with_none
    k_with "sub" => first | exact sub_self | (refine sub_cons ?_; k_extra "sub")
    k_with "compareOp In none ref" => (k_here; k_dflt (first | (refine' none_in_tup (b := false) ?N ?r ?c ?b ?u ?_; (case N => exact News.isTup (by k_asm) (by k_mem)); (case r => rfl); (case c => rfl); (case b => rfl); (case u => ktr_units); k_whole) | (refine' none_in_tup (b := true) ?N ?r ?c ?b ?u ?_; (case N => exact News.isTup (by k_asm) (by k_mem)); (case r => rfl); (case c => rfl); (case b => rfl); (case u => ktr_units); k_whole)))
    k_with "subc" => first | exact sub_self | (refine sub_both ?_; k_extra "subc") | (refine sub_cons ?_; k_extra "subc")
    k_with "low" => first | assumption | exact allLt_of (by assumption) | exact low1 (by assumption) | exact low2 (by assumption) | exact low3 (by assumption) | exact low4 (by assumption)
    k_with "mem" => first | exact sub_self | (k_extra "sub") | (refine List.forall_mem_cons.mpr ⟨?_, ?_⟩; k_mem; k_extra "mem")
    k_with "ne" => first | assumption | exact List.forall_mem_nil _ | exact ne_of_low (by k_extra "low") | (refine' List.forall_mem_cons.mpr ⟨?a, ?b⟩; (case a => k_ne); (case b => k_extra "ne"))
    k_with "pull" => first | k_asm | exact pull1 (by k_asm) | exact pull2 (by k_asm) | exact pull3 (by k_asm) | exact pull4 (by k_asm)
    k_with "memq" => first | with_reducible assumption | exact List.Mem.head _ | (refine' List.Mem.tail _ ?_; k_extra "memq")
    k_with "call ref" => (first
        | ((with_reducible show wpAny _ _ (call (Value.ref 36) _) _ _ _); k_dflt (refine' Clm.use (time_in_day_ok _ _ ) ?u1 ?u2 ?u3 ?u4 ?u5 ?u6 ?u7 ?u8 ?_; (case u1 => k_asm); (case u2 => k_asm); (case u3 => k_asm); (case u4 => k_asm); (case u5 => k_asm); (case u6 => first | exact rfl | assumption); (case u7 => first | exact room1 hdp (Nat.le_of_ble_eq_true rfl) | ktr_room); (case u8 => first | exact units1 hun (Nat.le_of_ble_eq_true rfl) | ktr_units)); intro t9 h9 tk9 F9 N9; (all_goals ((try dsimp only); (try k_sweep); (try k_fold)))))
    intro dp un gd cn cs a ccd cl outer A₀ base h₀ L m s Q E B F X N T hk hdp hun hret
    refine wpAny_call ?_
    k_dflt cell_enter
    k_steps
    all_goals (refine' endI hret ?e1 ?e2 ?e3 ?e4; (case e2 => k_asm); (case e3 => k_asm); (case e4 => k_extra "sub"); (case e1 => exact fm (by decide) rfl)))
end

section
set_option maxHeartbeats 4000000 in
set_option pp.deepTerms false in
theorem fields_of_ok (x : Int) (t : Tok) : Clm w loose mean mg mb 7 134 [.int x t] news (RetT7 news (Yr x) (Mo x) (Dt x) (Hr x) (Mi x) (Se x) (Ms x)) := by
  w_on
  w_strict (
    k_with_none
    k_with "sub" => first | exact sub_self | (refine sub_cons ?_; k_extra "sub")
    k_with "compareOp In none ref" => (k_here; k_dflt (first | (refine' none_in_tup (b := false) ?N ?r ?c ?b ?u ?_; (case N => exact News.isTup (by k_asm) (by k_mem)); (case r => rfl); (case c => rfl); (case b => rfl); (case u => ktr_units); k_whole) | (refine' none_in_tup (b := true) ?N ?r ?c ?b ?u ?_; (case N => exact News.isTup (by k_asm) (by k_mem)); (case r => rfl); (case c => rfl); (case b => rfl); (case u => ktr_units); k_whole)))
    k_with "subc" => first | exact sub_self | (refine sub_both ?_; k_extra "subc") | (refine sub_cons ?_; k_extra "subc")
    k_with "low" => first | assumption | exact allLt_of (by assumption) | exact low1 (by assumption) | exact low2 (by assumption) | exact low3 (by assumption) | exact low4 (by assumption)
    k_with "mem" => first | exact sub_self | (k_extra "sub") | (refine List.forall_mem_cons.mpr ⟨?_, ?_⟩; k_mem; k_extra "mem")
    k_with "ne" => first | assumption | exact List.forall_mem_nil _ | exact ne_of_low (by k_extra "low") | (refine' List.forall_mem_cons.mpr ⟨?a, ?b⟩; (case a => k_ne); (case b => k_extra "ne"))
    k_with "pull" => first | k_asm | exact pull1 (by k_asm) | exact pull2 (by k_asm) | exact pull3 (by k_asm) | exact pull4 (by k_asm)
    k_with "memq" => first | with_reducible assumption | exact List.Mem.head _ | (refine' List.Mem.tail _ ?_; k_extra "memq")
    k_with "call ref" => (first
        | ((with_reducible show wpAny _ _ (call (Value.ref 64) _) _ _ _); k_dflt (refine' Clm.use (year_of_ok _ _ ) ?u1 ?u2 ?u3 ?u4 ?u5 ?u6 ?u7 ?u8 ?_; (case u1 => k_asm); (case u2 => k_asm); (case u3 => k_asm); (case u4 => k_asm); (case u5 => k_asm); (case u6 => first | exact rfl | assumption); (case u7 => first | exact room1 hdp (Nat.le_of_ble_eq_true rfl) | ktr_room); (case u8 => first | exact units1 hun (Nat.le_of_ble_eq_true rfl) | ktr_units)); intro t9 h9 tk9 F9 N9; (all_goals ((try dsimp only); (try k_sweep); (try k_fold))))
        | ((with_reducible show wpAny _ _ (call (Value.ref 92) _) _ _ _); k_dflt (refine' Clm.use (month_of_ok _ _ ) ?u1 ?u2 ?u3 ?u4 ?u5 ?u6 ?u7 ?u8 ?_; (case u1 => k_asm); (case u2 => k_asm); (case u3 => k_asm); (case u4 => k_asm); (case u5 => k_asm); (case u6 => first | exact rfl | assumption); (case u7 => first | exact room1 hdp (Nat.le_of_ble_eq_true rfl) | ktr_room); (case u8 => first | exact units1 hun (Nat.le_of_ble_eq_true rfl) | ktr_units)); intro t9 h9 tk9 F9 N9; (all_goals ((try dsimp only); (try k_sweep); (try k_fold))))
        | ((with_reducible show wpAny _ _ (call (Value.ref 99) _) _ _ _); k_dflt (refine' Clm.use (date_of_ok _ _ ) ?u1 ?u2 ?u3 ?u4 ?u5 ?u6 ?u7 ?u8 ?_; (case u1 => k_asm); (case u2 => k_asm); (case u3 => k_asm); (case u4 => k_asm); (case u5 => k_asm); (case u6 => first | exact rfl | assumption); (case u7 => first | exact room1 hdp (Nat.le_of_ble_eq_true rfl) | ktr_room); (case u8 => first | exact units1 hun (Nat.le_of_ble_eq_true rfl) | ktr_units)); intro t9 h9 tk9 F9 N9; (all_goals ((try dsimp only); (try k_sweep); (try k_fold))))
        | ((with_reducible show wpAny _ _ (call (Value.ref 106) _) _ _ _); k_dflt (refine' Clm.use (hour_of_ok _ _ ) ?u1 ?u2 ?u3 ?u4 ?u5 ?u6 ?u7 ?u8 ?_; (case u1 => k_asm); (case u2 => k_asm); (case u3 => k_asm); (case u4 => k_asm); (case u5 => k_asm); (case u6 => first | exact rfl | assumption); (case u7 => first | exact room1 hdp (Nat.le_of_ble_eq_true rfl) | ktr_room); (case u8 => first | exact units1 hun (Nat.le_of_ble_eq_true rfl) | ktr_units)); intro t9 h9 tk9 F9 N9; (all_goals ((try dsimp only); (try k_sweep); (try k_fold))))
        | ((with_reducible show wpAny _ _ (call (Value.ref 113) _) _ _ _); k_dflt (refine' Clm.use (minute_of_ok _ _ ) ?u1 ?u2 ?u3 ?u4 ?u5 ?u6 ?u7 ?u8 ?_; (case u1 => k_asm); (case u2 => k_asm); (case u3 => k_asm); (case u4 => k_asm); (case u5 => k_asm); (case u6 => first | exact rfl | assumption); (case u7 => first | exact room1 hdp (Nat.le_of_ble_eq_true rfl) | ktr_room); (case u8 => first | exact units1 hun (Nat.le_of_ble_eq_true rfl) | ktr_units)); intro t9 h9 tk9 F9 N9; (all_goals ((try dsimp only); (try k_sweep); (try k_fold))))
        | ((with_reducible show wpAny _ _ (call (Value.ref 120) _) _ _ _); k_dflt (refine' Clm.use (second_of_ok _ _ ) ?u1 ?u2 ?u3 ?u4 ?u5 ?u6 ?u7 ?u8 ?_; (case u1 => k_asm); (case u2 => k_asm); (case u3 => k_asm); (case u4 => k_asm); (case u5 => k_asm); (case u6 => first | exact rfl | assumption); (case u7 => first | exact room1 hdp (Nat.le_of_ble_eq_true rfl) | ktr_room); (case u8 => first | exact units1 hun (Nat.le_of_ble_eq_true rfl) | ktr_units)); intro t9 h9 tk9 F9 N9; (all_goals ((try dsimp only); (try k_sweep); (try k_fold))))
        | ((with_reducible show wpAny _ _ (call (Value.ref 127) _) _ _ _); k_dflt (refine' Clm.use (ms_of_ok _ _ ) ?u1 ?u2 ?u3 ?u4 ?u5 ?u6 ?u7 ?u8 ?_; (case u1 => k_asm); (case u2 => k_asm); (case u3 => k_asm); (case u4 => k_asm); (case u5 => k_asm); (case u6 => first | exact rfl | assumption); (case u7 => first | exact room1 hdp (Nat.le_of_ble_eq_true rfl) | ktr_room); (case u8 => first | exact units1 hun (Nat.le_of_ble_eq_true rfl) | ktr_units)); intro t9 h9 tk9 F9 N9; (all_goals ((try dsimp only); (try k_sweep); (try k_fold)))))
    intro dp un gd cn cs a ccd cl outer A₀ base h₀ L m s Q E B F X N T hk hdp hun hret
    refine wpAny_call ?_
    k_dflt cell_enter
    k_steps
    all_goals (refine' hret _ _ _ _ _ _ _ _ _ _ ?e1 (ledger_sub (by k_asm) ?e2) ?e3; (case e1 => k_asm); (case e2 => k_extra "subc"); (case e3 => k_extra "low")))
end

section
set_option maxHeartbeats 4000000 in
set_option pp.deepTerms false in
theorem make_time_ok (x y z u : Int) (t t1 t2 t3 : Tok) : Clm w loose mean mg mb 1 141 [.int x t, .int y t1, .int z t2, .int u t3] news (RetV news fun t => .int (mktime x y z u) t) := by
  w_on
  w_strict (
    k_with_none
    k_with "sub" => first | exact sub_self | (refine sub_cons ?_; k_extra "sub")
    k_with "compareOp In none ref" => (k_here; k_dflt (first | (refine' none_in_tup (b := false) ?N ?r ?c ?b ?u ?_; (case N => exact News.isTup (by k_asm) (by k_mem)); (case r => rfl); (case c => rfl); (case b => rfl); (case u => ktr_units); k_whole) | (refine' none_in_tup (b := true) ?N ?r ?c ?b ?u ?_; (case N => exact News.isTup (by k_asm) (by k_mem)); (case r => rfl); (case c => rfl); (case b => rfl); (case u => ktr_units); k_whole)))
    k_with "subc" => first | exact sub_self | (refine sub_both ?_; k_extra "subc") | (refine sub_cons ?_; k_extra "subc")
    k_with "low" => first | assumption | exact allLt_of (by assumption) | exact low1 (by assumption) | exact low2 (by assumption) | exact low3 (by assumption) | exact low4 (by assumption)
    k_with "mem" => first | exact sub_self | (k_extra "sub") | (refine List.forall_mem_cons.mpr ⟨?_, ?_⟩; k_mem; k_extra "mem")
    k_with "ne" => first | assumption | exact List.forall_mem_nil _ | exact ne_of_low (by k_extra "low") | (refine' List.forall_mem_cons.mpr ⟨?a, ?b⟩; (case a => k_ne); (case b => k_extra "ne"))
    k_with "pull" => first | k_asm | exact pull1 (by k_asm) | exact pull2 (by k_asm) | exact pull3 (by k_asm) | exact pull4 (by k_asm)
    k_with "memq" => first | with_reducible assumption | exact List.Mem.head _ | (refine' List.Mem.tail _ ?_; k_extra "memq")
    intro dp un gd cn cs a ccd cl outer A₀ base h₀ L m s Q E B F X N T hk hdp hun hret
    refine wpAny_call ?_
    k_dflt cell_enter
    k_steps
    all_goals (refine' endI hret ?e1 ?e2 ?e3 ?e4; (case e2 => k_asm); (case e3 => k_asm); (case e4 => k_extra "sub"); (case e1 => rfl)))
end

section
set_option maxHeartbeats 4000000 in
set_option pp.deepTerms false in
theorem make_day_ok (x y z : Int) (t t1 t2 : Tok) : Clm w loose mean mg mb 2 148 [.int x t, .int y t1, .int z t2] news (RetV news fun t => .int (mkday x y z) t) := by
  w_on
  w_strict (
    k_with_none
    k_with "sub" => first | exact sub_self | (refine sub_cons ?_; k_extra "sub")
    k_with "compareOp In none ref" => (k_here; k_dflt (first | (refine' none_in_tup (b := false) ?N ?r ?c ?b ?u ?_; (case N => exact News.isTup (by k_asm) (by k_mem)); (case r => rfl); (case c => rfl); (case b => rfl); (case u => ktr_units); k_whole) | (refine' none_in_tup (b := true) ?N ?r ?c ?b ?u ?_; (case N => exact News.isTup (by k_asm) (by k_mem)); (case r => rfl); (case c => rfl); (case b => rfl); (case u => ktr_units); k_whole)))
    k_with "subc" => first | exact sub_self | (refine sub_both ?_; k_extra "subc") | (refine sub_cons ?_; k_extra "subc")
    k_with "low" => first | assumption | exact allLt_of (by assumption) | exact low1 (by assumption) | exact low2 (by assumption) | exact low3 (by assumption) | exact low4 (by assumption)
    k_with "mem" => first | exact sub_self | (k_extra "sub") | (refine List.forall_mem_cons.mpr ⟨?_, ?_⟩; k_mem; k_extra "mem")
    k_with "ne" => first | assumption | exact List.forall_mem_nil _ | exact ne_of_low (by k_extra "low") | (refine' List.forall_mem_cons.mpr ⟨?a, ?b⟩; (case a => k_ne); (case b => k_extra "ne"))
    k_with "pull" => first | k_asm | exact pull1 (by k_asm) | exact pull2 (by k_asm) | exact pull3 (by k_asm) | exact pull4 (by k_asm)
    k_with "memq" => first | with_reducible assumption | exact List.Mem.head _ | (refine' List.Mem.tail _ ?_; k_extra "memq")
    k_with "call ref" => (first
        | ((with_reducible show wpAny _ _ (call (Value.ref 50) _) _ _ _); k_dflt (refine' Clm.use (day_from_year_ok _ _ ) ?u1 ?u2 ?u3 ?u4 ?u5 ?u6 ?u7 ?u8 ?_; (case u1 => k_asm); (case u2 => k_asm); (case u3 => k_asm); (case u4 => k_asm); (case u5 => k_asm); (case u6 => first | exact rfl | assumption); (case u7 => first | exact room1 hdp (Nat.le_of_ble_eq_true rfl) | ktr_room); (case u8 => first | exact units1 hun (Nat.le_of_ble_eq_true rfl) | ktr_units)); intro t9 h9 tk9 F9 N9; (all_goals ((try dsimp only); (try k_sweep); (try k_fold))))
        | ((with_reducible show wpAny _ _ (call (Value.ref 43) _) _ _ _); k_dflt (refine' Clm.use (is_leap_year_ok _ _ ) ?u1 ?u2 ?u3 ?u4 ?u5 ?u6 ?u7 ?u8 ?_; (case u1 => k_asm); (case u2 => k_asm); (case u3 => k_asm); (case u4 => k_asm); (case u5 => k_asm); (case u6 => first | exact rfl | assumption); (case u7 => first | exact room1 hdp (Nat.le_of_ble_eq_true rfl) | ktr_room); (case u8 => first | exact units1 hun (Nat.le_of_ble_eq_true rfl) | ktr_units)); intro t9 h9 tk9 F9 N9; (all_goals ((try dsimp only); (try k_sweep); (try k_fold))))
        | ((with_reducible show wpAny _ _ (call (Value.ref 78) _) _ _ _); k_dflt (refine' Clm.use (days_ahead_ok _ _ _ ?p0 ?p1) ?u1 ?u2 ?u3 ?u4 ?u5 ?u6 ?u7 ?u8 ?_; (case u1 => k_asm); (case u2 => k_asm); (case u3 => k_asm); (case u4 => k_asm); (case u5 => k_asm); (case u6 => first | exact rfl | assumption); (case u7 => first | exact room1 hdp (Nat.le_of_ble_eq_true rfl) | ktr_room); (case u8 => first | exact units1 hun (Nat.le_of_ble_eq_true rfl) | ktr_units); (case p0 => (first | exact (Mo_bounds _).1 | exact Int.le_trans (Mo_bounds _).2 (by decide) | exact mod12_0 _ | exact mod12_1 _ | l_idx)); (case p1 => (first | exact (Mo_bounds _).1 | exact Int.le_trans (Mo_bounds _).2 (by decide) | exact mod12_0 _ | exact mod12_1 _ | l_idx))); intro t9 h9 tk9 F9 N9; (all_goals ((try dsimp only); (try k_sweep); (try k_fold)))))
    intro dp un gd cn cs a ccd cl outer A₀ base h₀ L m s Q E B F X N T hk hdp hun hret
    refine wpAny_call ?_
    k_dflt cell_enter
    k_steps
    all_goals (refine' endI hret ?e1 ?e2 ?e3 ?e4; (case e2 => k_asm); (case e3 => k_asm); (case e4 => k_extra "sub"); (case e1 => exact mkday_of _ _ _)))
end

section
set_option maxHeartbeats 4000000 in
set_option pp.deepTerms false in
theorem make_date_ok (x y : Int) (t t1 : Tok) : Clm w loose mean mg mb 1 155 [.int x t, .int y t1] news (RetV news fun t => .int (mkdate x y) t) := by
  w_on
  w_strict (
    k_with_none
    k_with "sub" => first | exact sub_self | (refine sub_cons ?_; k_extra "sub")
    k_with "compareOp In none ref" => (k_here; k_dflt (first | (refine' none_in_tup (b := false) ?N ?r ?c ?b ?u ?_; (case N => exact News.isTup (by k_asm) (by k_mem)); (case r => rfl); (case c => rfl); (case b => rfl); (case u => ktr_units); k_whole) | (refine' none_in_tup (b := true) ?N ?r ?c ?b ?u ?_; (case N => exact News.isTup (by k_asm) (by k_mem)); (case r => rfl); (case c => rfl); (case b => rfl); (case u => ktr_units); k_whole)))
    k_with "subc" => first | exact sub_self | (refine sub_both ?_; k_extra "subc") | (refine sub_cons ?_; k_extra "subc")
    k_with "low" => first | assumption | exact allLt_of (by assumption) | exact low1 (by assumption) | exact low2 (by assumption) | exact low3 (by assumption) | exact low4 (by assumption)
    k_with "mem" => first | exact sub_self | (k_extra "sub") | (refine List.forall_mem_cons.mpr ⟨?_, ?_⟩; k_mem; k_extra "mem")
    k_with "ne" => first | assumption | exact List.forall_mem_nil _ | exact ne_of_low (by k_extra "low") | (refine' List.forall_mem_cons.mpr ⟨?a, ?b⟩; (case a => k_ne); (case b => k_extra "ne"))
    k_with "pull" => first | k_asm | exact pull1 (by k_asm) | exact pull2 (by k_asm) | exact pull3 (by k_asm) | exact pull4 (by k_asm)
    k_with "memq" => first | with_reducible assumption | exact List.Mem.head _ | (refine' List.Mem.tail _ ?_; k_extra "memq")
    intro dp un gd cn cs a ccd cl outer A₀ base h₀ L m s Q E B F X N T hk hdp hun hret
    refine wpAny_call ?_
    k_dflt cell_enter
    k_steps
    all_goals (refine' endI hret ?e1 ?e2 ?e3 ?e4; (case e2 => k_asm); (case e3 => k_asm); (case e4 => k_extra "sub"); (case e1 => rfl)))
end

section
set_option maxHeartbeats 4000000 in
set_option pp.deepTerms false in
theorem time_clip_ok (x : Int) (t : Tok) : Clm w loose mean mg mb 1 162 [.int x t] news (RetO news (clip x)) := by
  w_on
  w_strict (
    k_with_none
    k_with "sub" => first | exact sub_self | (refine sub_cons ?_; k_extra "sub")
    k_with "compareOp In none ref" => (k_here; k_dflt (first | (refine' none_in_tup (b := false) ?N ?r ?c ?b ?u ?_; (case N => exact News.isTup (by k_asm) (by k_mem)); (case r => rfl); (case c => rfl); (case b => rfl); (case u => ktr_units); k_whole) | (refine' none_in_tup (b := true) ?N ?r ?c ?b ?u ?_; (case N => exact News.isTup (by k_asm) (by k_mem)); (case r => rfl); (case c => rfl); (case b => rfl); (case u => ktr_units); k_whole)))
    k_with "subc" => first | exact sub_self | (refine sub_both ?_; k_extra "subc") | (refine sub_cons ?_; k_extra "subc")
    k_with "low" => first | assumption | exact allLt_of (by assumption) | exact low1 (by assumption) | exact low2 (by assumption) | exact low3 (by assumption) | exact low4 (by assumption)
    k_with "mem" => first | exact sub_self | (k_extra "sub") | (refine List.forall_mem_cons.mpr ⟨?_, ?_⟩; k_mem; k_extra "mem")
    k_with "ne" => first | assumption | exact List.forall_mem_nil _ | exact ne_of_low (by k_extra "low") | (refine' List.forall_mem_cons.mpr ⟨?a, ?b⟩; (case a => k_ne); (case b => k_extra "ne"))
    k_with "pull" => first | k_asm | exact pull1 (by k_asm) | exact pull2 (by k_asm) | exact pull3 (by k_asm) | exact pull4 (by k_asm)
    k_with "memq" => first | with_reducible assumption | exact List.Mem.head _ | (refine' List.Mem.tail _ ?_; k_extra "memq")
    intro dp un gd cn cs a ccd cl outer A₀ base h₀ L m s Q E B F X N T hk hdp hun hret
    refine wpAny_call ?_
    k_dflt cell_enter
    k_steps
    all_goals (simp only [abs_n] at *; first | (refine' hret.2 _ ?e0 _ _ _ ?e1 ?e2; (case e0 => (unfold clip; rw [if_pos (by omega)])); (case e1 => k_asm); (case e2 => k_asm)) | (refine' hret.1 ?e0 _ _ ?e1 ?e2; (case e0 => (unfold clip; rw [if_neg (by omega)])); (case e1 => k_asm); (case e2 => k_asm))))
end

section
set_option maxHeartbeats 4000000 in
set_option pp.deepTerms false in
theorem utc_of_ok (x y : Int) (t t1 : Tok) : Clm w loose mean mg mb 1 176 [.int x t, .int y t1] news (RetV news fun t => .int (x - y * 60000) t) := by
  w_on
  w_strict (
    k_with_none
    k_with "sub" => first | exact sub_self | (refine sub_cons ?_; k_extra "sub")
    k_with "compareOp In none ref" => (k_here; k_dflt (first | (refine' none_in_tup (b := false) ?N ?r ?c ?b ?u ?_; (case N => exact News.isTup (by k_asm) (by k_mem)); (case r => rfl); (case c => rfl); (case b => rfl); (case u => ktr_units); k_whole) | (refine' none_in_tup (b := true) ?N ?r ?c ?b ?u ?_; (case N => exact News.isTup (by k_asm) (by k_mem)); (case r => rfl); (case c => rfl); (case b => rfl); (case u => ktr_units); k_whole)))
    k_with "subc" => first | exact sub_self | (refine sub_both ?_; k_extra "subc") | (refine sub_cons ?_; k_extra "subc")
    k_with "low" => first | assumption | exact allLt_of (by assumption) | exact low1 (by assumption) | exact low2 (by assumption) | exact low3 (by assumption) | exact low4 (by assumption)
    k_with "mem" => first | exact sub_self | (k_extra "sub") | (refine List.forall_mem_cons.mpr ⟨?_, ?_⟩; k_mem; k_extra "mem")
    k_with "ne" => first | assumption | exact List.forall_mem_nil _ | exact ne_of_low (by k_extra "low") | (refine' List.forall_mem_cons.mpr ⟨?a, ?b⟩; (case a => k_ne); (case b => k_extra "ne"))
    k_with "pull" => first | k_asm | exact pull1 (by k_asm) | exact pull2 (by k_asm) | exact pull3 (by k_asm) | exact pull4 (by k_asm)
    k_with "memq" => first | with_reducible assumption | exact List.Mem.head _ | (refine' List.Mem.tail _ ?_; k_extra "memq")
    intro dp un gd cn cs a ccd cl outer A₀ base h₀ L m s Q E B F X N T hk hdp hun hret
    refine wpAny_call ?_
    k_dflt cell_enter
    k_steps
    all_goals (refine' endI hret ?e1 ?e2 ?e3 ?e4; (case e2 => k_asm); (case e3 => k_asm); (case e4 => k_extra "sub"); (case e1 => rfl)))
end

section
set_option maxHeartbeats 4000000 in
set_option pp.deepTerms false in
theorem make_day_n_ok (y z : Int) (t1 t2 : Tok) : Clm w loose mean mg mb 2 148 [.none, .int y t1, .int z t2] news (RetV news fun _ => .none) := by
  w_on
  w_strict (
    k_with_none
    k_with "sub" => first | exact sub_self | (refine sub_cons ?_; k_extra "sub")
    k_with "compareOp In none ref" => (k_here; k_dflt (first | (refine' none_in_tup (b := false) ?N ?r ?c ?b ?u ?_; (case N => exact News.isTup (by k_asm) (by k_mem)); (case r => rfl); (case c => rfl); (case b => rfl); (case u => ktr_units); k_whole) | (refine' none_in_tup (b := true) ?N ?r ?c ?b ?u ?_; (case N => exact News.isTup (by k_asm) (by k_mem)); (case r => rfl); (case c => rfl); (case b => rfl); (case u => ktr_units); k_whole)))
    k_with "subc" => first | exact sub_self | (refine sub_both ?_; k_extra "subc") | (refine sub_cons ?_; k_extra "subc")
    k_with "low" => first | assumption | exact allLt_of (by assumption) | exact low1 (by assumption) | exact low2 (by assumption) | exact low3 (by assumption) | exact low4 (by assumption)
    k_with "mem" => first | exact sub_self | (k_extra "sub") | (refine List.forall_mem_cons.mpr ⟨?_, ?_⟩; k_mem; k_extra "mem")
    k_with "ne" => first | assumption | exact List.forall_mem_nil _ | exact ne_of_low (by k_extra "low") | (refine' List.forall_mem_cons.mpr ⟨?a, ?b⟩; (case a => k_ne); (case b => k_extra "ne"))
    k_with "pull" => first | k_asm | exact pull1 (by k_asm) | exact pull2 (by k_asm) | exact pull3 (by k_asm) | exact pull4 (by k_asm)
    k_with "memq" => first | with_reducible assumption | exact List.Mem.head _ | (refine' List.Mem.tail _ ?_; k_extra "memq")
    k_with "call ref" => (first
        | ((with_reducible show wpAny _ _ (call (Value.ref 50) _) _ _ _); k_dflt (refine' Clm.use (day_from_year_ok _ _ ) ?u1 ?u2 ?u3 ?u4 ?u5 ?u6 ?u7 ?u8 ?_; (case u1 => k_asm); (case u2 => k_asm); (case u3 => k_asm); (case u4 => k_asm); (case u5 => k_asm); (case u6 => first | exact rfl | assumption); (case u7 => first | exact room1 hdp (Nat.le_of_ble_eq_true rfl) | ktr_room); (case u8 => first | exact units1 hun (Nat.le_of_ble_eq_true rfl) | ktr_units)); intro t9 h9 tk9 F9 N9; (all_goals ((try dsimp only); (try k_sweep); (try k_fold))))
        | ((with_reducible show wpAny _ _ (call (Value.ref 43) _) _ _ _); k_dflt (refine' Clm.use (is_leap_year_ok _ _ ) ?u1 ?u2 ?u3 ?u4 ?u5 ?u6 ?u7 ?u8 ?_; (case u1 => k_asm); (case u2 => k_asm); (case u3 => k_asm); (case u4 => k_asm); (case u5 => k_asm); (case u6 => first | exact rfl | assumption); (case u7 => first | exact room1 hdp (Nat.le_of_ble_eq_true rfl) | ktr_room); (case u8 => first | exact units1 hun (Nat.le_of_ble_eq_true rfl) | ktr_units)); intro t9 h9 tk9 F9 N9; (all_goals ((try dsimp only); (try k_sweep); (try k_fold))))
        | ((with_reducible show wpAny _ _ (call (Value.ref 78) _) _ _ _); k_dflt (refine' Clm.use (days_ahead_ok _ _ _ ?p0 ?p1) ?u1 ?u2 ?u3 ?u4 ?u5 ?u6 ?u7 ?u8 ?_; (case u1 => k_asm); (case u2 => k_asm); (case u3 => k_asm); (case u4 => k_asm); (case u5 => k_asm); (case u6 => first | exact rfl | assumption); (case u7 => first | exact room1 hdp (Nat.le_of_ble_eq_true rfl) | ktr_room); (case u8 => first | exact units1 hun (Nat.le_of_ble_eq_true rfl) | ktr_units); (case p0 => l_idx); (case p1 => l_idx)); intro t9 h9 tk9 F9 N9; (all_goals ((try dsimp only); (try k_sweep); (try k_fold)))))
    intro dp un gd cn cs a ccd cl outer A₀ base h₀ L m s Q E B F X N T hk hdp hun hret
    refine wpAny_call ?_
    k_dflt cell_enter
    k_steps
    all_goals (refine' hret 0 _ _ ?e1 ?e2; (case e1 => k_asm); (case e2 => exact ledger_sub (by k_asm) (by k_extra "sub"))))
end

section
set_option maxHeartbeats 4000000 in
set_option pp.deepTerms false in
theorem make_time_n_ok (x y z : Int) (t t1 t2 : Tok) : Clm w loose mean mg mb 1 141 [.int x t, .int y t1, .int z t2, .none] news (RetV news fun _ => .none) := by
  w_on
  w_strict (
    k_with_none
    k_with "sub" => first | exact sub_self | (refine sub_cons ?_; k_extra "sub")
    k_with "compareOp In none ref" => (k_here; k_dflt (first | (refine' none_in_tup (b := false) ?N ?r ?c ?b ?u ?_; (case N => exact News.isTup (by k_asm) (by k_mem)); (case r => rfl); (case c => rfl); (case b => rfl); (case u => ktr_units); k_whole) | (refine' none_in_tup (b := true) ?N ?r ?c ?b ?u ?_; (case N => exact News.isTup (by k_asm) (by k_mem)); (case r => rfl); (case c => rfl); (case b => rfl); (case u => ktr_units); k_whole)))
    k_with "subc" => first | exact sub_self | (refine sub_both ?_; k_extra "subc") | (refine sub_cons ?_; k_extra "subc")
    k_with "low" => first | assumption | exact allLt_of (by assumption) | exact low1 (by assumption) | exact low2 (by assumption) | exact low3 (by assumption) | exact low4 (by assumption)
    k_with "mem" => first | exact sub_self | (k_extra "sub") | (refine List.forall_mem_cons.mpr ⟨?_, ?_⟩; k_mem; k_extra "mem")
    k_with "ne" => first | assumption | exact List.forall_mem_nil _ | exact ne_of_low (by k_extra "low") | (refine' List.forall_mem_cons.mpr ⟨?a, ?b⟩; (case a => k_ne); (case b => k_extra "ne"))
    k_with "pull" => first | k_asm | exact pull1 (by k_asm) | exact pull2 (by k_asm) | exact pull3 (by k_asm) | exact pull4 (by k_asm)
    k_with "memq" => first | with_reducible assumption | exact List.Mem.head _ | (refine' List.Mem.tail _ ?_; k_extra "memq")
    intro dp un gd cn cs a ccd cl outer A₀ base h₀ L m s Q E B F X N T hk hdp hun hret
    refine wpAny_call ?_
    k_dflt cell_enter
    k_steps
    all_goals (refine' hret 0 _ _ ?e1 ?e2; (case e1 => k_asm); (case e2 => exact ledger_sub (by k_asm) (by k_extra "sub"))))
end

section
set_option maxHeartbeats 4000000 in
set_option pp.deepTerms false in
theorem make_date_n_ok (x : Int) (t : Tok) : Clm w loose mean mg mb 1 155 [.none, .int x t] news (RetV news fun _ => .none) := by
  w_on
  w_strict (
    k_with_none
    k_with "sub" => first | exact sub_self | (refine sub_cons ?_; k_extra "sub")
    k_with "compareOp In none ref" => (k_here; k_dflt (first | (refine' none_in_tup (b := false) ?N ?r ?c ?b ?u ?_; (case N => exact News.isTup (by k_asm) (by k_mem)); (case r => rfl); (case c => rfl); (case b => rfl); (case u => ktr_units); k_whole) | (refine' none_in_tup (b := true) ?N ?r ?c ?b ?u ?_; (case N => exact News.isTup (by k_asm) (by k_mem)); (case r => rfl); (case c => rfl); (case b => rfl); (case u => ktr_units); k_whole)))
    k_with "subc" => first | exact sub_self | (refine sub_both ?_; k_extra "subc") | (refine sub_cons ?_; k_extra "subc")
    k_with "low" => first | assumption | exact allLt_of (by assumption) | exact low1 (by assumption) | exact low2 (by assumption) | exact low3 (by assumption) | exact low4 (by assumption)
    k_with "mem" => first | exact sub_self | (k_extra "sub") | (refine List.forall_mem_cons.mpr ⟨?_, ?_⟩; k_mem; k_extra "mem")
    k_with "ne" => first | assumption | exact List.forall_mem_nil _ | exact ne_of_low (by k_extra "low") | (refine' List.forall_mem_cons.mpr ⟨?a, ?b⟩; (case a => k_ne); (case b => k_extra "ne"))
    k_with "pull" => first | k_asm | exact pull1 (by k_asm) | exact pull2 (by k_asm) | exact pull3 (by k_asm) | exact pull4 (by k_asm)
    k_with "memq" => first | with_reducible assumption | exact List.Mem.head _ | (refine' List.Mem.tail _ ?_; k_extra "memq")
    intro dp un gd cn cs a ccd cl outer A₀ base h₀ L m s Q E B F X N T hk hdp hun hret
    refine wpAny_call ?_
    k_dflt cell_enter
    k_steps
    all_goals (refine' hret 0 _ _ ?e1 ?e2; (case e1 => k_asm); (case e2 => exact ledger_sub (by k_asm) (by k_extra "sub"))))
end

section
set_option maxHeartbeats 4000000 in
set_option pp.deepTerms false in
theorem time_clip_n_ok  : Clm w loose mean mg mb 1 162 [.none] news (RetV news fun _ => .none) := by
  w_on
  w_strict (
    k_with_none
    k_with "sub" => first | exact sub_self | (refine sub_cons ?_; k_extra "sub")
    k_with "compareOp In none ref" => (k_here; k_dflt (first | (refine' none_in_tup (b := false) ?N ?r ?c ?b ?u ?_; (case N => exact News.isTup (by k_asm) (by k_mem)); (case r => rfl); (case c => rfl); (case b => rfl); (case u => ktr_units); k_whole) | (refine' none_in_tup (b := true) ?N ?r ?c ?b ?u ?_; (case N => exact News.isTup (by k_asm) (by k_mem)); (case r => rfl); (case c => rfl); (case b => rfl); (case u => ktr_units); k_whole)))
    k_with "subc" => first | exact sub_self | (refine sub_both ?_; k_extra "subc") | (refine sub_cons ?_; k_extra "subc")
    k_with "low" => first | assumption | exact allLt_of (by assumption) | exact low1 (by assumption) | exact low2 (by assumption) | exact low3 (by assumption) | exact low4 (by assumption)
    k_with "mem" => first | exact sub_self | (k_extra "sub") | (refine List.forall_mem_cons.mpr ⟨?_, ?_⟩; k_mem; k_extra "mem")
    k_with "ne" => first | assumption | exact List.forall_mem_nil _ | exact ne_of_low (by k_extra "low") | (refine' List.forall_mem_cons.mpr ⟨?a, ?b⟩; (case a => k_ne); (case b => k_extra "ne"))
    k_with "pull" => first | k_asm | exact pull1 (by k_asm) | exact pull2 (by k_asm) | exact pull3 (by k_asm) | exact pull4 (by k_asm)
    k_with "memq" => first | with_reducible assumption | exact List.Mem.head _ | (refine' List.Mem.tail _ ?_; k_extra "memq")
    intro dp un gd cn cs a ccd cl outer A₀ base h₀ L m s Q E B F X N T hk hdp hun hret
    refine wpAny_call ?_
    k_dflt cell_enter
    k_steps
    all_goals (refine' hret 0 _ _ ?e1 ?e2; (case e1 => k_asm); (case e2 => exact ledger_sub (by k_asm) (by k_extra "sub"))))
end

end

section
set_option linter.unusedVariables false
variable {w : World} {loose : List Str} {mean : ExcName → Option Value} {mg mb : Str → Option Value} {news : List (Addr × Obj)}

section
set_option maxHeartbeats 4000000 in
set_option pp.deepTerms false in
theorem time_of_fields_ok (a b c d e f g : Int) (t₁ t₂ t₃ t₄ t₅ t₆ t₇ : Tok) (q : Addr) (hq : (q, tup7 a b c d e f g t₁ t₂ t₃ t₄ t₅ t₆ t₇) ∈ news) : Clm w loose mean mg mb 4 169 [.ref q] news (RetV news fun t => .int (mkdate (mkday a b c) (mktime d e f g)) t) := by
  w_on
  w_strict (
    k_with_none
    k_with "sub" => first | exact sub_self | (refine sub_cons ?_; k_extra "sub")
    k_with "compareOp In none ref" => (k_here; k_dflt (first | (refine' none_in_tup (b := false) ?N ?r ?c ?b ?u ?_; (case N => exact News.isTup (by k_asm) (by k_mem)); (case r => rfl); (case c => rfl); (case b => rfl); (case u => ktr_units); k_whole) | (refine' none_in_tup (b := true) ?N ?r ?c ?b ?u ?_; (case N => exact News.isTup (by k_asm) (by k_mem)); (case r => rfl); (case c => rfl); (case b => rfl); (case u => ktr_units); k_whole)))
    k_with "subc" => first | exact sub_self | (refine sub_both ?_; k_extra "subc") | (refine sub_cons ?_; k_extra "subc")
    k_with "low" => first | assumption | exact allLt_of (by assumption) | exact low1 (by assumption) | exact low2 (by assumption) | exact low3 (by assumption) | exact low4 (by assumption)
    k_with "mem" => first | exact sub_self | (k_extra "sub") | (refine List.forall_mem_cons.mpr ⟨?_, ?_⟩; k_mem; k_extra "mem")
    k_with "ne" => first | assumption | exact List.forall_mem_nil _ | exact ne_of_low (by k_extra "low") | (refine' List.forall_mem_cons.mpr ⟨?a, ?b⟩; (case a => k_ne); (case b => k_extra "ne"))
    k_with "pull" => first | k_asm | exact pull1 (by k_asm) | exact pull2 (by k_asm) | exact pull3 (by k_asm) | exact pull4 (by k_asm)
    k_with "memq" => first | with_reducible assumption | exact List.Mem.head _ | (refine' List.Mem.tail _ ?_; k_extra "memq")
    k_with "call ref" => (first
        | ((with_reducible show wpAny _ _ (call (Value.ref 155) _) _ _ _); k_dflt (refine' Clm.use (make_date_ok _ _ _ _ ) ?u1 ?u2 ?u3 ?u4 ?u5 ?u6 ?u7 ?u8 ?_; (case u1 => k_asm); (case u2 => k_asm); (case u3 => k_asm); (case u4 => k_asm); (case u5 => k_asm); (case u6 => first | exact rfl | assumption); (case u7 => first | exact room1 hdp (Nat.le_of_ble_eq_true rfl) | ktr_room); (case u8 => first | exact units1 hun (Nat.le_of_ble_eq_true rfl) | ktr_units)); intro t9 h9 tk9 F9 N9; (all_goals ((try dsimp only); (try k_sweep); (try k_fold))))
        | ((with_reducible show wpAny _ _ (call (Value.ref 148) _) _ _ _); k_dflt (refine' Clm.use (make_day_ok _ _ _ _ _ _ ) ?u1 ?u2 ?u3 ?u4 ?u5 ?u6 ?u7 ?u8 ?_; (case u1 => k_asm); (case u2 => k_asm); (case u3 => k_asm); (case u4 => k_asm); (case u5 => k_asm); (case u6 => first | exact rfl | assumption); (case u7 => first | exact room1 hdp (Nat.le_of_ble_eq_true rfl) | ktr_room); (case u8 => first | exact units1 hun (Nat.le_of_ble_eq_true rfl) | ktr_units)); intro t9 h9 tk9 F9 N9; (all_goals ((try dsimp only); (try k_sweep); (try k_fold))))
        | ((with_reducible show wpAny _ _ (call (Value.ref 141) _) _ _ _); k_dflt (refine' Clm.use (make_time_ok _ _ _ _ _ _ _ _ ) ?u1 ?u2 ?u3 ?u4 ?u5 ?u6 ?u7 ?u8 ?_; (case u1 => k_asm); (case u2 => k_asm); (case u3 => k_asm); (case u4 => k_asm); (case u5 => k_asm); (case u6 => first | exact rfl | assumption); (case u7 => first | exact room1 hdp (Nat.le_of_ble_eq_true rfl) | ktr_room); (case u8 => first | exact units1 hun (Nat.le_of_ble_eq_true rfl) | ktr_units)); intro t9 h9 tk9 F9 N9; (all_goals ((try dsimp only); (try k_sweep); (try k_fold)))))
    intro dp un gd cn cs a9 ccd cl outer A₀ base h₀ L m s Q E B F X N T hk hdp hun hret
    refine wpAny_call ?_
    k_dflt cell_enter
    k_steps
    all_goals (refine' endI hret ?e1 ?e2 ?e3 ?e4; (case e2 => k_asm); (case e3 => k_asm); (case e4 => k_extra "sub"); (case e1 => rfl)))
end

end

theorem find_digF : ∀ i : Fin 10, Txt.find (Str.ofString "0123456789") ⟨#[48 + i.val]⟩ = (i.val : Int) := by decide +kernel
theorem find_dig {c : Nat} (h1 : 48 ≤ c) (h2 : c ≤ 57) : Txt.find (Str.ofString "0123456789") ⟨#[c]⟩ = (c : Int) - 48 := by
  obtain ⟨k, rfl⟩ := Nat.exists_eq_add_of_le h1
  rw [find_digF ⟨k, Nat.lt_of_add_lt_add_left (n := 48) (Nat.lt_succ_of_le h2)⟩]
  show (k : Int) = ((48 : Nat) : Int) + (k : Int) - 48
  omega
theorem find_no {c : Nat} (h : ¬ (48 ≤ c ∧ c ≤ 57)) : Txt.find (Str.ofString "0123456789") ⟨#[c]⟩ = -1 := by
  have e := StrLaws.found_one (Str.ofString "0123456789") c
  have e2 : (Str.ofString "0123456789").cps.toList = [48, 49, 50, 51, 52, 53, 54, 55, 56, 57] := by decide +kernel
  have e3 : decide (c ∈ (Str.ofString "0123456789").cps.toList) = false := by
    rw [e2]
    have a : ∀ z ∈ [48, 49, 50, 51, 52, 53, 54, 55, 56, 57], 48 ≤ z ∧ z ≤ 57 := by decide
    exact decide_eq_false fun hm => h (a c hm)
  rw [e3] at e
  unfold Txt.find
  have e4 : (PySem.Builtin.Str.occurrences (Str.ofString "0123456789") ⟨#[c]⟩ 0 (Str.ofString "0123456789").length 1).isEmpty = true := by simpa using e
  rw [List.isEmpty_iff.mp e4]
theorem find_neg {c : Nat} (h : Txt.find (Str.ofString "0123456789") ⟨#[c]⟩ < 0) : ¬ (48 ≤ c ∧ c ≤ 57) := fun g => by rw [find_dig g.1 g.2] at h; omega
theorem find_pos {c : Nat} (h : ¬ Txt.find (Str.ofString "0123456789") ⟨#[c]⟩ < 0) : 48 ≤ c ∧ c ≤ 57 := by
  by_cases g : 48 ≤ c ∧ c ≤ 57
  · exact g
  · rw [find_no g] at h; omega
noncomputable def nofL : Int → List Int → Option Int
  | a, [] => some a
  | a, c :: r => if 48 ≤ c ∧ c ≤ 57 then nofL (a * 10 + (c - 48)) r else none
theorem nofL_append : ∀ (p q : List Int) (a : Int), nofL a (p ++ q) = (nofL a p).bind fun b => nofL b q
  | [], q, a => rfl
  | c :: r, q, a => by
    simp only [List.cons_append, nofL]
    split
    · exact nofL_append r q _
    · rfl
noncomputable def nof (x : Str) : Option Int := if x.length = 0 then none else nofL 0 (KStt.codes x)
theorem nof_empty {x : Str} (h : (x == Str.ofString "") = true) : nof x = none := by
  have e : x = Str.ofString "" := by simpa using h
  subst e
  rfl
theorem nof_stop {x : Str} {pre post : List Int} {k : Int} {c : Nat} (hP : nofL 0 pre = some k) (e : KStt.codes x = pre ++ (c : Int) :: post) (h : Txt.find (Str.ofString "0123456789") ⟨#[c]⟩ < 0) : nof x = none := by
  unfold nof
  split
  · rfl
  · have g := find_neg h
    rw [e, nofL_append, hP, Option.bind_some, nofL, if_neg (by omega)]
theorem nof_step {pre : List Int} {k : Int} {c : Nat} (hP : nofL 0 pre = some k) (h : ¬ Txt.find (Str.ofString "0123456789") ⟨#[c]⟩ < 0) :
    nofL 0 (pre ++ [(c : Int)]) = some (k * 10 + Txt.find (Str.ofString "0123456789") ⟨#[c]⟩) := by
  have g := find_pos h
  rw [nofL_append, hP, Option.bind_some, find_dig g.1 g.2, nofL, if_pos (by omega), nofL]
theorem nof_done {x : Str} {k : Int} (h : nofL 0 (KStt.codes x) = some k) (hx : (x == Str.ofString "") = false) : nof x = some k := by
  unfold nof
  rw [if_neg, h]
  intro e
  have e2 : x = Str.ofString "" := Str.ext' (by rw [show (Str.ofString "").cps = #[] from by decide +kernel]; exact Array.size_eq_zero_iff.mp e)
  rw [e2] at hx
  simp at hx

theorem pad_lt {n w : Nat} (g : ¬ (n = 0 ∧ w = 0)) : n / 10 + (w - 1) < n + w := by
  rcases Nat.eq_zero_or_pos n with rfl | hn
  · rw [Nat.zero_div, Nat.zero_add, Nat.zero_add]
    exact Nat.sub_lt (Nat.pos_of_ne_zero fun e => g ⟨rfl, e⟩) Nat.one_pos
  · exact Nat.add_lt_add_of_lt_of_le (Nat.div_lt_self hn (by decide)) (Nat.sub_le w 1)
noncomputable def padF : Nat → Nat → Nat → List Nat
  | 0, _, _ => []
  | k + 1, n, w => if n = 0 ∧ w = 0 then [] else padF k (n / 10) (w - 1) ++ [48 + n % 10]
theorem padF_more : ∀ (k n w : Nat), n + w ≤ k → padF (k + 1) n w = padF k n w
  | 0, n, w, h => by
    obtain ⟨rfl, rfl⟩ := Nat.add_eq_zero_iff.mp (Nat.le_zero.mp h)
    rfl
  | k + 1, n, w, h => by
    show (if n = 0 ∧ w = 0 then [] else padF (k + 1) (n / 10) (w - 1) ++ [48 + n % 10]) = (if n = 0 ∧ w = 0 then [] else padF k (n / 10) (w - 1) ++ [48 + n % 10])
    by_cases g : n = 0 ∧ w = 0
    · rw [if_pos g, if_pos g]
    · rw [if_neg g, if_neg g, padF_more k (n / 10) (w - 1) (Nat.le_of_lt_succ (Nat.lt_of_lt_of_le (pad_lt g) h))]
theorem padF_any (n w : Nat) : ∀ k, n + w ≤ k → padF k n w = padF (n + w) n w := by
  intro k h
  obtain ⟨j, rfl⟩ := Nat.exists_eq_add_of_le h
  clear h
  induction j with
  | zero => rfl
  | succ j ih => rw [← ih]; exact padF_more _ n w (Nat.le_add_right _ _)
noncomputable def padL (n w : Nat) : List Nat := padF (n + w) n w
theorem padL_eq (n w : Nat) : padL n w = if n = 0 ∧ w = 0 then [] else padL (n / 10) (w - 1) ++ [48 + n % 10] := by
  by_cases g : n = 0 ∧ w = 0
  · obtain ⟨rfl, rfl⟩ := g; rfl
  · rw [if_neg g]
    have hl := pad_lt g
    obtain ⟨k, hk⟩ := Nat.exists_eq_add_of_le' (Nat.lt_of_le_of_lt (Nat.zero_le _) hl)
    show padF (n + w) n w = padF (n / 10 + (w - 1)) (n / 10) (w - 1) ++ _
    rw [hk, ← padF_any (n / 10) (w - 1) k (Nat.le_of_lt_succ (Nat.lt_of_lt_of_eq hl hk))]
    exact if_neg g
noncomputable def padS (n w : Nat) : Str := ⟨(padL n w).toArray⟩
theorem item_digF : ∀ i : Fin 10, Txt.item (Str.ofString "0123456789") (i.val : Int) = ⟨#[48 + i.val]⟩ := by decide +kernel
theorem item_dig {k : Int} (h0 : 0 ≤ k) (h1 : k < 10) : Txt.item (Str.ofString "0123456789") k = ⟨#[48 + k.toNat]⟩ := by
  have h := item_digF ⟨k.toNat, (Int.toNat_lt h0).mpr h1⟩
  rwa [show (((⟨k.toNat, (Int.toNat_lt h0).mpr h1⟩ : Fin 10).val : Nat) : Int) = k from Int.toNat_of_nonneg h0] at h
theorem padS_len (n w : Nat) : (padS n w).length = (padL n w).length := by simp [padS, Str.length]
noncomputable def PadInv (n₀ w : Int) (n : Int) (f : Str) : Prop := 0 ≤ n ∧ padS n₀.toNat w.toNat = padS n.toNat (w.toNat - f.length) ++ f
theorem pad_len {n₀ w n : Int} {f : Str} (h : PadInv n₀ w n f) (hl : (padS n₀.toNat w.toNat).length ≤ 20) : f.length ≤ 20 := by
  rw [h.2, Str.length_append] at hl; omega
theorem pad_start {n w : Int} (h : 0 ≤ n) : PadInv n w n (Str.ofString "") := ⟨h, by
  have e : Str.ofString "" = Str.empty := by decide +kernel
  rw [e, Str.append_empty]; rfl⟩
theorem pad_some {w n : Nat} {v : Int} {l : Nat} (hw : w = v.toNat) (hc : 0 < (n : Int) ∨ (l : Int) < v) : ¬ (n = 0 ∧ w - l = 0) := by
  rintro ⟨rfl, hz⟩
  rcases hc with hc | hc
  · exact absurd hc (by decide)
  · exact absurd (hw ▸ Int.lt_toNat.mpr hc) (Nat.not_lt.mpr (Nat.le_of_sub_eq_zero hz))
theorem pad_turn {n₀ w n : Int} {f : Str} (h : PadInv n₀ w n f) (hc : 0 < n ∨ (f.length : Int) < w) : PadInv n₀ w (n.fdiv 10) (Txt.item (Str.ofString "0123456789") (n.fmod 10) ++ f) := by
  obtain ⟨h0, e⟩ := h
  obtain ⟨k, rfl⟩ := Int.eq_ofNat_of_zero_le h0
  have ed : (k : Int).fdiv 10 = ((k / 10 : Nat) : Int) := Int.fdiv_eq_ediv_of_nonneg _ (by decide)
  have em : (k : Int).fmod 10 = ((k % 10 : Nat) : Int) := Int.fmod_eq_emod_of_nonneg _ (by decide)
  have ei : Txt.item (Str.ofString "0123456789") ((k % 10 : Nat) : Int) = ⟨#[48 + k % 10]⟩ := item_digF ⟨k % 10, Nat.mod_lt _ (by decide)⟩
  rw [ed, em, ei]
  refine ⟨Int.natCast_nonneg _, ?_⟩
  have e1 : padL k (w.toNat - f.length) = padL (k / 10) (w.toNat - f.length - 1) ++ [48 + k % 10] := by
    conv => lhs; rw [padL_eq]
    rw [if_neg (pad_some rfl hc)]
  have e2 : padS k (w.toNat - f.length) = padS (k / 10) (w.toNat - f.length - 1) ++ ⟨#[48 + k % 10]⟩ := by
    apply Str.ext'
    rw [Str.cps_append]
    unfold padS
    rw [e1]; simp
  rw [e]
  show padS k _ ++ f = padS (k / 10) (w.toNat - (_ ++ f).length) ++ (_ ++ f)
  rw [e2, Str.append_assoc, Str.length_append, Nat.sub_sub, Nat.add_comm f.length 1]; rfl
theorem pad_less {w n : Int} {f : Str} (h0 : 0 ≤ n) (hc : 0 < n ∨ (f.length : Int) < w) : (n.fdiv 10).toNat + (w.toNat - (Txt.item (Str.ofString "0123456789") (n.fmod 10) ++ f).length) < n.toNat + (w.toNat - f.length) := by
  obtain ⟨k, rfl⟩ := Int.eq_ofNat_of_zero_le h0
  rw [Str.length_append, show (Txt.item (Str.ofString "0123456789") ((k : Int).fmod 10)).length = 1 from rfl, Int.fdiv_eq_ediv_of_nonneg _ (by decide)]
  show k / 10 + (w.toNat - (1 + f.length)) < k + (w.toNat - f.length)
  rcases hc with hc | hc
  · exact Nat.add_lt_add_of_lt_of_le (Nat.div_lt_self (Int.ofNat_lt.mp hc) (by decide)) (Nat.sub_le_sub_left (Nat.le_add_left _ _) _)
  · have : f.length < w.toNat := Int.lt_toNat.mpr hc
    exact Nat.add_lt_add_of_le_of_lt (Nat.div_le_self _ _) (Nat.sub_lt_sub_left this (Nat.lt_add_of_pos_left (by decide)))
theorem len_cat {x y : Str} {a b : Nat} (hx : x.length ≤ a) (hy : y.length ≤ b) : (x ++ y).length ≤ a + b := by rw [Str.length_append]; exact Nat.add_le_add hx hy
theorem pad_end {n₀ w n : Int} {f : Str} (h : PadInv n₀ w n f) (h1 : ¬ 0 < n) (h2 : ¬ (f.length : Int) < w) : f = padS n₀.toNat w.toNat := by
  obtain ⟨h0, e⟩ := h
  rw [e, show n.toNat = 0 by omega, show w.toNat - f.length = 0 by omega]
  have e2 : padS 0 0 = Str.empty := by unfold padS padL; rfl
  rw [e2, Str.empty_append]
theorem padL_le : ∀ (j k n w : Nat), n < 10 ^ k → k ≤ j → w ≤ j → (padL n w).length ≤ j
  | 0, k, n, w, h, hk, hw => by
    obtain rfl := Nat.le_zero.mp hk
    obtain rfl := Nat.le_zero.mp hw
    obtain rfl : n = 0 := Nat.lt_one_iff.mp h
    rw [padL_eq]
    exact Nat.le_refl 0
  | j + 1, k, n, w, h, hk, hw => by
    rw [padL_eq]
    split
    · exact Nat.zero_le _
    · rw [List.length_append]
      refine Nat.add_le_add (padL_le j (k - 1) (n / 10) (w - 1) ?_ (Nat.sub_le_of_le_add hk) (Nat.sub_le_of_le_add hw)) (Nat.le_refl 1)
      cases k with
      | zero =>
        obtain rfl : n = 0 := Nat.lt_one_iff.mp h
        exact Nat.one_pos
      | succ k => exact Nat.div_lt_of_lt_mul (by rwa [Nat.pow_succ, Nat.mul_comm] at h)
theorem padL_ge (n w : Nat) : w ≤ (padL n w).length := by
  induction w generalizing n with
  | zero => exact Nat.zero_le _
  | succ w ih =>
    rw [padL_eq]
    rw [if_neg (fun h => absurd h.2 (Nat.succ_ne_zero w)), List.length_append]
    exact Nat.succ_le_succ (ih (n / 10))
theorem padL_exact {n w : Nat} (h : n < 10 ^ w) : (padL n w).length = w :=
  Nat.le_antisymm (padL_le w w n w h (Nat.le_refl w) (Nat.le_refl w)) (padL_ge n w)
theorem padS_le {n w : Int} (h : n < 1000000) (hw : w ≤ 20) : (padS n.toNat w.toNat).length ≤ 20 := by
  rw [padS_len]
  exact padL_le 20 6 n.toNat w.toNat ((Int.toNat_lt' (by decide)).mpr h) (by decide) (Int.toNat_le.mpr hw)
noncomputable def isoYear (y : Int) : Str := if 0 ≤ y ∧ y ≤ 9999 then padS y.toNat 4 else (if y < 0 then Str.ofString "-" else Str.ofString "+") ++ padS y.natAbs 6
noncomputable def clockS (h m s : Int) : Str := padS h.toNat 2 ++ Str.ofString ":" ++ padS m.toNat 2 ++ Str.ofString ":" ++ padS s.toNat 2

section
set_option linter.unusedVariables false
variable {w : World} {loose : List Str} {mean : ExcName → Option Value} {mg mb : Str → Option Value} {news : List (Addr × Obj)}

theorem pad_step {n₀ w n : Int} {f : Str} (hl : (padS n₀.toNat w.toNat).length ≤ 20) (h : PadInv n₀ w n f) (hc : 0 < n ∨ (f.length : Int) < w) :
    PadInv n₀ w (n.fdiv 10) (Txt.item (Str.ofString "0123456789") (n.fmod 10) ++ f) ∧ 0 ≤ n.fdiv 10 ∧ (Txt.item (Str.ofString "0123456789") (n.fmod 10) ++ f).length ≤ 20 :=
  have g := pad_turn h hc
  ⟨g, g.1, pad_len g hl⟩
section
set_option maxHeartbeats 4000000 in
set_option pp.deepTerms false in
theorem padded_ok (n₀ wd : Int) (t t1 : Tok) (h0 : 0 ≤ n₀) (hl : (padS n₀.toNat wd.toNat).length ≤ 20) : Clm w loose mean mg mb 1 183 [.int n₀ t, .int wd t1] news (RetS news (padS n₀.toNat wd.toNat) 20) := by
  w_on
  w_strict (
    k_with_none
    k_with "sub" => first | exact sub_self | (refine sub_cons ?_; k_extra "sub")
    k_with "compareOp In none ref" => (k_here; k_dflt (first | (refine' none_in_tup (b := false) ?N ?r ?c ?b ?u ?_; (case N => exact News.isTup (by k_asm) (by k_mem)); (case r => rfl); (case c => rfl); (case b => rfl); (case u => ktr_units); k_whole) | (refine' none_in_tup (b := true) ?N ?r ?c ?b ?u ?_; (case N => exact News.isTup (by k_asm) (by k_mem)); (case r => rfl); (case c => rfl); (case b => rfl); (case u => ktr_units); k_whole)))
    k_with "subc" => first | exact sub_self | (refine sub_both ?_; k_extra "subc") | (refine sub_cons ?_; k_extra "subc")
    k_with "low" => first | assumption | exact allLt_of (by assumption) | exact low1 (by assumption) | exact low2 (by assumption) | exact low3 (by assumption) | exact low4 (by assumption)
    k_with "mem" => first | exact sub_self | (k_extra "sub") | (refine List.forall_mem_cons.mpr ⟨?_, ?_⟩; k_mem; k_extra "mem")
    k_with "ne" => first | assumption | exact List.forall_mem_nil _ | exact ne_of_low (by k_extra "low") | (refine' List.forall_mem_cons.mpr ⟨?a, ?b⟩; (case a => k_ne); (case b => k_extra "ne"))
    k_with "pull" => first | k_asm | exact pull1 (by k_asm) | exact pull2 (by k_asm) | exact pull3 (by k_asm) | exact pull4 (by k_asm)
    k_with "memq" => first | with_reducible assumption | exact List.Mem.head _ | (refine' List.Mem.tail _ ?_; k_extra "memq")
    k_with "exec While BoolOp cons nil" => k_while (fun _ n f => PadInv n₀ wd n f ∧ 0 ≤ n ∧ f.length ≤ 20) (fun _ n f => n.toNat + (wd.toNat - f.length)) "number" "found"
    k_with "state" => first | exact ⟨pad_start h0, h0, by decide⟩ | exact pad_step hl (by assumption) (Or.inl (by assumption)) | exact pad_step hl (by assumption) (Or.inr (by assumption))
    k_with "measure" => first | exact pad_less (by assumption) (Or.inl (by assumption)) | exact pad_less (by assumption) (Or.inr (by assumption))
    intro dp un gd cn cs a ccd cl outer A₀ base h₀ L m s Q E B F X N T hk hdp hun hret
    refine wpAny_call ?_
    k_dflt cell_enter
    k_steps
    all_goals (refine' endT hret ?e1 ?e2 ?e3 ?e4 ?e5; (case e2 => k_asm); (case e3 => k_asm); (case e4 => k_extra "sub"); (case e5 => assumption); (case e1 => exact pad_end (by assumption) (by assumption) (by assumption))))
end

section
set_option maxHeartbeats 4000000 in
set_option pp.deepTerms false in
theorem number_of_figures_ok (x : Str) (t : Tok) (hx : x.length ≤ 1000) : Clm w loose mean mg mb 1 211 [.str x t] news (RetO news (nof x)) := by
  w_on
  w_strict (
    k_with_none
    k_with "sub" => first | exact sub_self | (refine sub_cons ?_; k_extra "sub")
    k_with "compareOp In none ref" => (k_here; k_dflt (first | (refine' none_in_tup (b := false) ?N ?r ?c ?b ?u ?_; (case N => exact News.isTup (by k_asm) (by k_mem)); (case r => rfl); (case c => rfl); (case b => rfl); (case u => ktr_units); k_whole) | (refine' none_in_tup (b := true) ?N ?r ?c ?b ?u ?_; (case N => exact News.isTup (by k_asm) (by k_mem)); (case r => rfl); (case c => rfl); (case b => rfl); (case u => ktr_units); k_whole)))
    k_with "subc" => first | exact sub_self | (refine sub_both ?_; k_extra "subc") | (refine sub_cons ?_; k_extra "subc")
    k_with "low" => first | assumption | exact allLt_of (by assumption) | exact low1 (by assumption) | exact low2 (by assumption) | exact low3 (by assumption) | exact low4 (by assumption)
    k_with "mem" => first | exact sub_self | (k_extra "sub") | (refine List.forall_mem_cons.mpr ⟨?_, ?_⟩; k_mem; k_extra "mem")
    k_with "ne" => first | assumption | exact List.forall_mem_nil _ | exact ne_of_low (by k_extra "low") | (refine' List.forall_mem_cons.mpr ⟨?a, ?b⟩; (case a => k_ne); (case b => k_extra "ne"))
    k_with "pull" => first | k_asm | exact pull1 (by k_asm) | exact pull2 (by k_asm) | exact pull3 (by k_asm) | exact pull4 (by k_asm)
    k_with "memq" => first | with_reducible assumption | exact List.Mem.head _ | (refine' List.Mem.tail _ ?_; k_extra "memq")
    k_with "pyIter str" => k_state (fun pre k => nofL 0 pre = some k) "found"
    k_with "state" => first | exact rfl | exact nof_step (by assumption) (by assumption)
    intro dp un gd cn cs a ccd cl outer A₀ base h₀ L m s Q E B F X N T hk hdp hun hret
    refine wpAny_call ?_
    k_dflt cell_enter
    k_steps
    all_goals (first | (refine' hret.1 ?e0 _ _ ?e1 ?e2; (case e0 => first | exact nof_empty (by assumption) | exact nof_stop (by assumption) (by assumption) (by assumption)); (case e1 => k_asm); (case e2 => exact ledger_sub (by k_asm) (by first | exact sub_self | exact ktn_subA))) | (refine' hret.2 _ ?e0 _ _ _ ?e1 ?e2; (case e0 => exact nof_done (by assumption) (by assumption)); (case e1 => k_asm); (case e2 => k_asm))))
end

end

section
set_option linter.unusedVariables false
set_option linter.unusedSimpArgs false
variable {w : World} {loose : List Str} {mean : ExcName → Option Value} {mg mb : Str → Option Value} {news : List (Addr × Obj)}

theorem Yr_bounds {x : Int} (h0 : -8640000000000000 ≤ x) (h1 : x ≤ 8640000000000000) : -300000 ≤ Yr x ∧ Yr x ≤ 300000 := by
  have h := yod_spec (x / 86400000)
  have e0 : dfy 1970 = 0 := by decide
  unfold Yr
  generalize yod (x / 86400000) = y at h
  constructor
  · by_cases g : y + 1 ≤ 1970
    · have := dfy_mono g; omega
    · omega
  · by_cases g : 1970 ≤ y
    · have := dfy_mono g; omega
    · omega
theorem da_step {m : Int} {b : Bool} (h0 : 0 ≤ m) (h1 : m ≤ 11) : da m b < da (m + 1) b := by have := da_month (b := b) h0 h1; omega
theorem Dt_bounds (x : Int) : 1 ≤ Dt x ∧ Dt x ≤ 31 ∧ Dt x ≤ da (Mo x + 1) (leap (Yr x)) - da (Mo x) (leap (Yr x)) := by
  have h := Dy_bounds x
  have h2 := moy_spec h.1 h.2
  have h3 := da_month (b := leap (Yr x)) h2.1 h2.2.1
  unfold Dt Mo at *
  omega
theorem clock_bounds (x : Int) : 0 ≤ Hr x ∧ Hr x ≤ 23 ∧ 0 ≤ Mi x ∧ Mi x ≤ 59 ∧ 0 ≤ Se x ∧ Se x ≤ 59 ∧ 0 ≤ Ms x ∧ Ms x ≤ 999 :=
  ⟨Int.ediv_nonneg (Int.emod_nonneg _ (by decide)) (by decide), Int.le_of_lt_add_one (Int.ediv_lt_of_lt_mul (by decide) (Int.emod_lt_of_pos _ (by decide))), Int.emod_nonneg _ (by decide), Int.le_of_lt_add_one (Int.emod_lt_of_pos _ (by decide)), Int.emod_nonneg _ (by decide), Int.le_of_lt_add_one (Int.emod_lt_of_pos _ (by decide)), Int.emod_nonneg _ (by decide), Int.le_of_lt_add_one (Int.emod_lt_of_pos _ (by decide))⟩
theorem abs_nat (y : Int) : (if y < 0 then -y else y).toNat = y.natAbs := by rw [abs_n]; rfl
theorem isoY_a {y : Int} (h0 : 0 ≤ y) (h1 : y ≤ 9999) : padS y.toNat (Int.toNat 4) = isoYear y := by unfold isoYear; rw [if_pos ⟨h0, h1⟩]; rfl
theorem isoY_b {y z : Int} (h0 : y < 0) (h1 : z.toNat = y.natAbs) : Str.ofString "-" ++ padS z.toNat (Int.toNat 6) = isoYear y := by unfold isoYear; rw [if_neg (by omega), if_pos h0, h1]; rfl
theorem isoY_c {y z : Int} (h0 : 9999 < y) (h1 : z.toNat = y.natAbs) : Str.ofString "+" ++ padS z.toNat (Int.toNat 6) = isoYear y := by unfold isoYear; rw [if_neg (by omega), if_neg (by omega), h1]; rfl
noncomputable def isoText (x : Int) : Str := isoYear (Yr x) ++ Str.ofString "-" ++ padS (Mo x + 1).toNat 2 ++ Str.ofString "-" ++ padS (Dt x).toNat 2 ++ Str.ofString "T" ++ clockS (Hr x) (Mi x) (Se x) ++ Str.ofString "." ++ padS (Ms x).toNat 3 ++ Str.ofString "Z"
section
set_option maxHeartbeats 4000000 in
set_option pp.deepTerms false in
theorem iso_year_ok (y : Int) (t : Tok) (h0 : -300000 ≤ y) (h1 : y ≤ 300000) : Clm w loose mean mg mb 2 190 [.int y t] news (RetS news (isoYear y) 30) := by
  w_on
  w_strict (
    k_with_none
    k_with "sub" => first | exact sub_self | (refine sub_cons ?_; k_extra "sub")
    k_with "compareOp In none ref" => (k_here; k_dflt (first | (refine' none_in_tup (b := false) ?N ?r ?c ?b ?u ?_; (case N => exact News.isTup (by k_asm) (by k_mem)); (case r => rfl); (case c => rfl); (case b => rfl); (case u => ktr_units); k_whole) | (refine' none_in_tup (b := true) ?N ?r ?c ?b ?u ?_; (case N => exact News.isTup (by k_asm) (by k_mem)); (case r => rfl); (case c => rfl); (case b => rfl); (case u => ktr_units); k_whole)))
    k_with "subc" => first | exact sub_self | (refine sub_both ?_; k_extra "subc") | (refine sub_cons ?_; k_extra "subc")
    k_with "low" => first | assumption | exact allLt_of (by assumption) | exact low1 (by assumption) | exact low2 (by assumption) | exact low3 (by assumption) | exact low4 (by assumption)
    k_with "mem" => first | exact sub_self | (k_extra "sub") | (refine List.forall_mem_cons.mpr ⟨?_, ?_⟩; k_mem; k_extra "mem")
    k_with "ne" => first | assumption | exact List.forall_mem_nil _ | exact ne_of_low (by k_extra "low") | (refine' List.forall_mem_cons.mpr ⟨?a, ?b⟩; (case a => k_ne); (case b => k_extra "ne"))
    k_with "pull" => first | k_asm | exact pull1 (by k_asm) | exact pull2 (by k_asm) | exact pull3 (by k_asm) | exact pull4 (by k_asm)
    k_with "memq" => first | with_reducible assumption | exact List.Mem.head _ | (refine' List.Mem.tail _ ?_; k_extra "memq")
    k_with "p0" => first | omega | l_idx
    k_with "p1" => first | exact padS_le (by omega) (by decide)
    k_with "call ref" => (first
        | ((with_reducible show wpAny _ _ (call (Value.ref 183) _) _ _ _); k_dflt (refine' Clm.use (padded_ok _ _ _ _ ?p0 ?p1) ?u1 ?u2 ?u3 ?u4 ?u5 ?u6 ?u7 ?u8 ?_; (case u1 => k_asm); (case u2 => k_asm); (case u3 => k_asm); (case u4 => k_asm); (case u5 => k_asm); (case u6 => first | exact rfl | assumption); (case u7 => first | exact room1 hdp (Nat.le_of_ble_eq_true rfl) | ktr_room); (case u8 => first | exact units1 hun (Nat.le_of_ble_eq_true rfl) | ktr_units); (case p0 => k_extra "p0"); (case p1 => k_extra "p1")); intro t9 h9 tk9 z9 F9 N9; (all_goals ((try dsimp only); (try k_sweep); (try k_fold)))))
    intro dp un gd cn cs a ccd cl outer A₀ base h₀ L m s Q E B F X N T hk hdp hun hret
    refine wpAny_call ?_
    k_dflt cell_enter
    k_steps
    all_goals (refine' endT hret ?e1 ?e2 ?e3 ?e4 ?e5; (case e2 => k_asm); (case e3 => k_asm); (case e4 => k_extra "sub"); (case e5 => first | (with_reducible assumption) | (exact Nat.le_trans (by repeat (first | with_reducible assumption | exact Nat.le_of_eq (show _ = 1 from rfl) | exact Nat.le_refl 0 | (with_reducible apply Nat.add_le_add) | (apply len_cat))) (by exact Nat.le_of_ble_eq_true rfl)) | omega); (case e1 => first | exact isoY_a (by omega) (by omega) | exact isoY_b (by omega) (abs_nat _) | exact isoY_c (by omega) (abs_nat _) | exact isoY_b (by omega) (by omega) | exact isoY_c (by omega) (by omega))))
end

section
set_option maxHeartbeats 4000000 in
set_option pp.deepTerms false in
theorem clock_text_ok (x y z : Int) (t t1 t2 : Tok) (h0 : 0 ≤ x ∧ x ≤ 99 ∧ 0 ≤ y ∧ y ≤ 99 ∧ 0 ≤ z ∧ z ≤ 99) : Clm w loose mean mg mb 2 197 [.int x t, .int y t1, .int z t2] news (RetS news (clockS x y z) 100) := by
  w_on
  w_strict (
    k_with_none
    k_with "sub" => first | exact sub_self | (refine sub_cons ?_; k_extra "sub")
    k_with "compareOp In none ref" => (k_here; k_dflt (first | (refine' none_in_tup (b := false) ?N ?r ?c ?b ?u ?_; (case N => exact News.isTup (by k_asm) (by k_mem)); (case r => rfl); (case c => rfl); (case b => rfl); (case u => ktr_units); k_whole) | (refine' none_in_tup (b := true) ?N ?r ?c ?b ?u ?_; (case N => exact News.isTup (by k_asm) (by k_mem)); (case r => rfl); (case c => rfl); (case b => rfl); (case u => ktr_units); k_whole)))
    k_with "subc" => first | exact sub_self | (refine sub_both ?_; k_extra "subc") | (refine sub_cons ?_; k_extra "subc")
    k_with "low" => first | assumption | exact allLt_of (by assumption) | exact low1 (by assumption) | exact low2 (by assumption) | exact low3 (by assumption) | exact low4 (by assumption)
    k_with "mem" => first | exact sub_self | (k_extra "sub") | (refine List.forall_mem_cons.mpr ⟨?_, ?_⟩; k_mem; k_extra "mem")
    k_with "ne" => first | assumption | exact List.forall_mem_nil _ | exact ne_of_low (by k_extra "low") | (refine' List.forall_mem_cons.mpr ⟨?a, ?b⟩; (case a => k_ne); (case b => k_extra "ne"))
    k_with "pull" => first | k_asm | exact pull1 (by k_asm) | exact pull2 (by k_asm) | exact pull3 (by k_asm) | exact pull4 (by k_asm)
    k_with "memq" => first | with_reducible assumption | exact List.Mem.head _ | (refine' List.Mem.tail _ ?_; k_extra "memq")
    k_with "p0" => first | omega | l_idx
    k_with "p1" => first | exact padS_le (by omega) (by decide)
    k_with "call ref" => (first
        | ((with_reducible show wpAny _ _ (call (Value.ref 183) _) _ _ _); k_dflt (refine' Clm.use (padded_ok _ _ _ _ ?p0 ?p1) ?u1 ?u2 ?u3 ?u4 ?u5 ?u6 ?u7 ?u8 ?_; (case u1 => k_asm); (case u2 => k_asm); (case u3 => k_asm); (case u4 => k_asm); (case u5 => k_asm); (case u6 => first | exact rfl | assumption); (case u7 => first | exact room1 hdp (Nat.le_of_ble_eq_true rfl) | ktr_room); (case u8 => first | exact units1 hun (Nat.le_of_ble_eq_true rfl) | ktr_units); (case p0 => k_extra "p0"); (case p1 => k_extra "p1")); intro t9 h9 tk9 z9 F9 N9; (all_goals ((try dsimp only); (try k_sweep); (try k_fold)))))
    intro dp un gd cn cs a ccd cl outer A₀ base h₀ L m s Q E B F X N T hk hdp hun hret
    refine wpAny_call ?_
    k_dflt cell_enter
    k_steps
    all_goals (refine' endT hret ?e1 ?e2 ?e3 ?e4 ?e5; (case e2 => k_asm); (case e3 => k_asm); (case e4 => k_extra "sub"); (case e5 => (exact Nat.le_trans (by repeat (first | with_reducible assumption | exact Nat.le_of_eq (show _ = 1 from rfl) | exact Nat.le_refl 0 | (with_reducible apply Nat.add_le_add) | (apply len_cat))) (by exact Nat.le_of_ble_eq_true rfl))); (case e1 => rfl)))
end

theorem clock_b2 (x : Int) : 0 ≤ Hr x ∧ Hr x ≤ 99 ∧ 0 ≤ Mi x ∧ Mi x ≤ 99 ∧ 0 ≤ Se x ∧ Se x ≤ 99 :=
  have h := clock_bounds x
  ⟨h.1, Int.le_trans h.2.1 (by decide), h.2.2.1, Int.le_trans h.2.2.2.1 (by decide), h.2.2.2.2.1, Int.le_trans h.2.2.2.2.2.1 (by decide)⟩
section
set_option maxHeartbeats 4000000 in
set_option pp.deepTerms false in
theorem iso_text_ok (x : Int) (t : Tok) (h0 : -8640000000000000 ≤ x) (h1 : x ≤ 8640000000000000) : Clm w loose mean mg mb 8 204 [.int x t] news (RetS news (isoText x) 400) := by
  w_on
  w_strict (
    k_with_none
    k_with "sub" => first | exact sub_self | (refine sub_cons ?_; k_extra "sub")
    k_with "compareOp In none ref" => (k_here; k_dflt (first | (refine' none_in_tup (b := false) ?N ?r ?c ?b ?u ?_; (case N => exact News.isTup (by k_asm) (by k_mem)); (case r => rfl); (case c => rfl); (case b => rfl); (case u => ktr_units); k_whole) | (refine' none_in_tup (b := true) ?N ?r ?c ?b ?u ?_; (case N => exact News.isTup (by k_asm) (by k_mem)); (case r => rfl); (case c => rfl); (case b => rfl); (case u => ktr_units); k_whole)))
    k_with "subc" => first | exact sub_self | (refine sub_both ?_; k_extra "subc") | (refine sub_cons ?_; k_extra "subc")
    k_with "low" => first | assumption | exact allLt_of (by assumption) | exact low1 (by assumption) | exact low2 (by assumption) | exact low3 (by assumption) | exact low4 (by assumption)
    k_with "mem" => first | exact sub_self | (k_extra "sub") | (refine List.forall_mem_cons.mpr ⟨?_, ?_⟩; k_mem; k_extra "mem")
    k_with "ne" => first | assumption | exact List.forall_mem_nil _ | exact ne_of_low (by k_extra "low") | (refine' List.forall_mem_cons.mpr ⟨?a, ?b⟩; (case a => k_ne); (case b => k_extra "ne"))
    k_with "pull" => first | k_asm | exact pull1 (by k_asm) | exact pull2 (by k_asm) | exact pull3 (by k_asm) | exact pull4 (by k_asm)
    k_with "memq" => first | with_reducible assumption | exact List.Mem.head _ | (refine' List.Mem.tail _ ?_; k_extra "memq")
    k_with "p0" => omega
    k_with "p1" => exact padS_le (by omega) (by decide)
    k_with "call ref" => (first
        | ((with_reducible show wpAny _ _ (call (Value.ref 134) _) _ _ _); k_dflt (refine' Clm.use (fields_of_ok _ _ ) ?u1 ?u2 ?u3 ?u4 ?u5 ?u6 ?u7 ?u8 ?_; (case u1 => k_asm); (case u2 => k_asm); (case u3 => k_asm); (case u4 => k_asm); (case u5 => k_asm); (case u6 => first | exact rfl | assumption); (case u7 => first | exact room1 hdp (Nat.le_of_ble_eq_true rfl) | ktr_room); (case u8 => first | exact units1 hun (Nat.le_of_ble_eq_true rfl) | ktr_units)); intro q9 t1 t2 t3 t4 t5 t6 t7 h9 tk9 F9 N9 l9; (try simp only [AllLt, and_true] at l9); (all_goals ((try dsimp only); (try k_sweep); (try k_fold))))
        | ((with_reducible show wpAny _ _ (call (Value.ref 190) _) _ _ _); k_dflt (refine' Clm.use (iso_year_ok _ _ ?p0 ?p1) ?u1 ?u2 ?u3 ?u4 ?u5 ?u6 ?u7 ?u8 ?_; (case u1 => k_asm); (case u2 => k_asm); (case u3 => k_asm); (case u4 => k_asm); (case u5 => k_asm); (case u6 => first | exact rfl | assumption); (case u7 => first | exact room1 hdp (Nat.le_of_ble_eq_true rfl) | ktr_room); (case u8 => first | exact units1 hun (Nat.le_of_ble_eq_true rfl) | ktr_units); (case p0 => first | exact (Yr_bounds (by omega) (by omega)).1 | omega); (case p1 => first | exact (Yr_bounds (by omega) (by omega)).2 | omega)); intro t9 h9 tk9 z9 F9 N9; (all_goals ((try dsimp only); (try k_sweep); (try k_fold))))
        | ((with_reducible show wpAny _ _ (call (Value.ref 183) _) _ _ _); k_dflt (refine' Clm.use (padded_ok _ _ _ _ ?p0 ?p1) ?u1 ?u2 ?u3 ?u4 ?u5 ?u6 ?u7 ?u8 ?_; (case u1 => k_asm); (case u2 => k_asm); (case u3 => k_asm); (case u4 => k_asm); (case u5 => k_asm); (case u6 => first | exact rfl | assumption); (case u7 => first | exact room1 hdp (Nat.le_of_ble_eq_true rfl) | ktr_room); (case u8 => first | exact units1 hun (Nat.le_of_ble_eq_true rfl) | ktr_units); (case p0 => k_extra "p0"); (case p1 => k_extra "p1")); intro t9 h9 tk9 z9 F9 N9; (all_goals ((try dsimp only); (try k_sweep); (try k_fold))))
        | ((with_reducible show wpAny _ _ (call (Value.ref 197) _) _ _ _); k_dflt (refine' Clm.use (clock_text_ok _ _ _ _ _ _ ?p0) ?u1 ?u2 ?u3 ?u4 ?u5 ?u6 ?u7 ?u8 ?_; (case u1 => k_asm); (case u2 => k_asm); (case u3 => k_asm); (case u4 => k_asm); (case u5 => k_asm); (case u6 => first | exact rfl | assumption); (case u7 => first | exact room1 hdp (Nat.le_of_ble_eq_true rfl) | ktr_room); (case u8 => first | exact units1 hun (Nat.le_of_ble_eq_true rfl) | ktr_units); (case p0 => exact clock_b2 _)); intro t9 h9 tk9 z9 F9 N9; (all_goals ((try dsimp only); (try k_sweep); (try k_fold)))))
    intro dp un gd cn cs a ccd cl outer A₀ base h₀ L m s Q E B F X N T hk hdp hun hret
    have hD := (Dt_bounds x).1; have hD2 := (Dt_bounds x).2.1; have hM := Mo_bounds x; have hC := clock_bounds x
    refine wpAny_call ?_
    k_dflt cell_enter
    k_steps
    all_goals (refine' endT hret ?e1 ?e2 ?e3 ?e4 ?e5; (case e2 => k_asm); (case e3 => k_asm); (case e4 => k_extra "sub"); (case e5 => (exact Nat.le_trans (by repeat (first | with_reducible assumption | exact Nat.le_of_eq (show _ = 1 from rfl) | exact Nat.le_refl 0 | (with_reducible apply Nat.add_le_add) | (apply len_cat))) (by exact Nat.le_of_ble_eq_true rfl))); (case e1 => rfl)))
end

end

theorem slice_nat {x : Str} {k m : Nat} (h1 : k ≤ x.length) : (Txt.slice x (some (k : Int)) (some ((k : Int) + (m : Int)))).cps.toList = (x.cps.toList.drop k).take m := by
  have e : PySem.Builtin.Str.strSliceIndices (some (k : Int)) (some ((k : Int) + (m : Int))) 1 x.length = PySem.Builtin.Str.strSliceIndices (some (k : Int)) (some ((min (k + m) x.length : Nat) : Int)) 1 x.length := by
    unfold PySem.Builtin.Str.strSliceIndices
    have h2 : ¬ ((k : Int) < 0) := Int.not_lt.mpr (Int.natCast_nonneg _)
    have h3 : ¬ ((k : Int) + (m : Int) < 0) := Int.not_lt.mpr (Int.natCast_nonneg (k + m))
    have h4 : ¬ (((min (k + m) x.length : Nat) : Int) < 0) := Int.not_lt.mpr (Int.natCast_nonneg _)
    have e2 : min ((k : Int) + (m : Int)) (x.length : Int) = min ((min (k + m) x.length : Nat) : Int) (x.length : Int) := by
      rcases Nat.le_total (k + m) x.length with h | h
      · rw [Nat.min_eq_left h]; rfl
      · rw [Nat.min_eq_right h, Int.min_self]; exact Int.min_eq_right (Int.ofNat_le.mpr h)
    simp only [h2, h3, h4, if_false, show ((1 : Int) > 0) = True from by simp, if_true, e2]
  have hle : k ≤ min (k + m) x.length := Nat.le_min.mpr ⟨Nat.le_add_right k m, h1⟩
  have hp := StrLaws.sliced_plain x hle (Nat.min_le_right _ _)
  have hq := StrLaws.strSliceIndices_plain hle (Nat.min_le_right (k + m) x.length)
  have hl : x.cps.toList.length = x.length := by simp [Str.length]
  have ht : (x.cps.toList.drop k).take (min (k + m) x.length - k) = (x.cps.toList.drop k).take m := by
    rcases Nat.le_total (k + m) x.length with h | h
    · rw [Nat.min_eq_left h, Nat.add_sub_cancel_left]
    · rw [Nat.min_eq_right h, List.take_of_length_le (Nat.le_of_eq (by rw [List.length_drop, hl])), List.take_of_length_le (by rw [List.length_drop, hl]; exact Nat.sub_le_iff_le_add'.mpr h)]
  unfold Txt.slice
  rw [e]
  split
  · rename_i hc
    rw [hq] at hc
    simp only [beq_self_eq_true, Bool.true_and, List.length_map, List.length_range, beq_iff_eq] at hc
    rw [← ht]
    have hs : min (k + m) x.length - k = x.length := hc
    have ek : k = 0 := by
      rcases Nat.eq_zero_or_pos k with h | h
      · exact h
      · have := Nat.le_trans (Nat.le_of_eq hs.symm) (Nat.sub_le_sub_right (Nat.min_le_right (k + m) x.length) k)
        exact absurd (Nat.sub_lt (Nat.lt_of_lt_of_le h h1) h) (Nat.not_lt.mpr this)
    rw [hs, ek, List.drop_zero, List.take_of_length_le (Nat.le_of_eq hl)]
  · rw [hp, ht]
theorem slice_list {x : Str} {a n : Int} (h0 : 0 ≤ a) (h1 : a ≤ x.length) (hn : 0 ≤ n) :
    (Txt.slice x (some a) (some (a + n))).cps.toList = (x.cps.toList.drop a.toNat).take n.toNat := by
  obtain ⟨k, rfl⟩ := Int.eq_ofNat_of_zero_le h0
  obtain ⟨m, rfl⟩ := Int.eq_ofNat_of_zero_le hn
  exact slice_nat (Int.ofNat_le.mp h1)
noncomputable def sub (x : Str) (a n : Int) : Str := Txt.slice x (some a) (some (a + n))
theorem min_cast (m k L : Nat) (h : k ≤ L) : ((min m (L - k) : Nat) : Int) = min (m : Int) ((L : Int) - (k : Int)) := by
  rw [← Int.ofNat_sub h]
  rcases Nat.le_total m (L - k) with g | g
  · rw [Nat.min_eq_left g, Int.min_eq_left (Int.ofNat_le.mpr g)]
  · rw [Nat.min_eq_right g, Int.min_eq_right (Int.ofNat_le.mpr g)]
theorem sub_len {x : Str} {a n : Int} (h0 : 0 ≤ a) (h1 : a ≤ x.length) (hn : 0 ≤ n) : ((sub x a n).length : Int) = min n (x.length - a) := by
  obtain ⟨k, rfl⟩ := Int.eq_ofNat_of_zero_le h0
  obtain ⟨m, rfl⟩ := Int.eq_ofNat_of_zero_le hn
  have e2 : (sub x (k : Int) (m : Int)).length = ((x.cps.toList.drop k).take m).length := by rw [← slice_nat (Int.ofNat_le.mp h1)]; simp [sub, Str.length]
  have hl : x.cps.toList.length = x.length := by simp [Str.length]
  rw [e2, List.length_take, List.length_drop, hl]
  exact min_cast m k x.length (Int.ofNat_le.mp h1)
noncomputable def hasB (x : Str) (a : Int) (b : Bool) (sg : Str) : Bool := !b && (sub x a sg.length == sg)
theorem hasB_wrong {x : Str} {a : Int} {b : Bool} {sg : Str} (h : b = true) : hasB x a b sg = false := by subst h; rfl
theorem hasB_no {x : Str} {a : Int} {b : Bool} {sg : Str} (h : (Txt.slice x (some a) (some (a + (sg.length : Int))) != sg) = true) : hasB x a b sg = false := by
  unfold hasB sub
  simp only [bne_iff_ne, ne_eq] at h
  have : (Txt.slice x (some a) (some (a + (sg.length : Int))) == sg) = false := by simpa using h
  rw [this, Bool.and_false]
theorem hasB_yes {x : Str} {a : Int} {b : Bool} {sg : Str} (hb : b = false) (h : (Txt.slice x (some a) (some (a + (sg.length : Int))) != sg) = false) : hasB x a b sg = true := by
  subst hb
  unfold hasB sub
  have h2 : Txt.slice x (some a) (some (a + (sg.length : Int))) = sg := by simpa using h
  rw [h2]; simp
theorem hasB_le {x : Str} {a : Int} {b : Bool} {sg : Str} (h0 : 0 ≤ a) (h1 : a ≤ x.length) (h : hasB x a b sg = true) : a + sg.length ≤ x.length := by
  unfold hasB at h
  simp only [Bool.and_eq_true, beq_iff_eq] at h
  have e := sub_len (x := x) (a := a) (n := sg.length) h0 h1 (by omega)
  rw [h.2] at e
  omega
noncomputable def needF (x : Str) (a : Int) (b : Bool) (sg : Str) : Int × Bool := if hasB x a b sg = true then (a + sg.length, b) else (a, true)
noncomputable def numF (x : Str) (a : Int) (b : Bool) (wd lo hi : Int) : Int × Int × Bool :=
  if b = true ∨ x.length < a + wd then (lo, a, true) else match nof (sub x a wd) with
    | none => (lo, a, true)
    | some v => if lo ≤ v ∧ v ≤ hi then (v, a + wd, b) else (lo, a, true)
theorem numF_w {x : Str} {a : Int} {b : Bool} {wd lo hi : Int} (h : b = true) : numF x a b wd lo hi = (lo, a, true) := by unfold numF; rw [if_pos (.inl h)]
theorem numF_l {x : Str} {a : Int} {b : Bool} {wd lo hi : Int} (h : (x.length : Int) < a + wd) : numF x a b wd lo hi = (lo, a, true) := by unfold numF; rw [if_pos (.inr h)]
theorem numF_n {x : Str} {a : Int} {b : Bool} {wd lo hi : Int} (h : nof (Txt.slice x (some a) (some (a + wd))) = none) : numF x a b wd lo hi = (lo, a, true) := by unfold numF sub; split; rfl; rw [h]
theorem numF_o {x : Str} {a : Int} {b : Bool} {wd lo hi v : Int} (h : nof (Txt.slice x (some a) (some (a + wd))) = some v) (g : v < lo ∨ hi < v) : numF x a b wd lo hi = (lo, a, true) := by
  unfold numF sub; split; rfl; rw [h]; dsimp only; rw [if_neg (by omega)]
theorem numF_y {x : Str} {a : Int} {b : Bool} {wd lo hi v : Int} (hb : b = false) (hl : ¬ (x.length : Int) < a + wd) (h : nof (Txt.slice x (some a) (some (a + wd))) = some v) (g1 : lo ≤ v) (g2 : v ≤ hi) : numF x a b wd lo hi = (v, a + wd, b) := by
  unfold numF sub; rw [if_neg (by subst hb; simp; omega), h]; dsimp only; rw [if_pos ⟨g1, g2⟩]
noncomputable def yearF (x : Str) (a : Int) (b : Bool) : Int × Int × Bool :=
  if hasB x a b (Str.ofString "+") = true then numF x (a + (Str.ofString "+").length) b 6 0 999999
  else if hasB x a b (Str.ofString "-") = true then ((-(numF x (a + (Str.ofString "-").length) b 6 1 999999).1), (numF x (a + (Str.ofString "-").length) b 6 1 999999).2)
  else numF x a b 4 0 9999

section
local macro_rules | `(tactic| k_all) => `(tactic| assumption)
local macro_rules | `(tactic| k_room) => `(tactic| ktr_room)
set_option linter.unusedVariables false
set_option linter.unusedSimpArgs false
variable {w : World} {loose : List Str} {mean : ExcName → Option Value} {mg mb : Str → Option Value} {news : List (Addr × Obj)}

noncomputable abbrev RetH (P : Params) (rd dx : Addr) (k1 k2 k3 : Tok) (x : Str) (t1 : Tok) (aa : Int) (t2 : Tok) (bb : Bool) (news : List (Addr × Obj)) (sg : Str) (h₀ : Heap) (L : Addr) (m : Str → Option Value) (s : Shared) (Q : Value → Shared → Prop) : Prop :=
  (hasB x aa bb sg = false → ∀ (h' : Heap) (tk' : Nat), Fr h₀ L h' m → News h₀ L h' (rdL P rd dx k1 k2 k3 x t1 aa t2 bb news) → Q (.bool false) { s with heap := h', toks := tk' }) ∧
  (hasB x aa bb sg = true → 0 ≤ aa + (sg.length : Int) → aa + (sg.length : Int) ≤ x.length → ∀ (t2' : Tok) (h' : Heap) (tk' : Nat), Fr h₀ L h' m → News h₀ L h' (rdL P rd dx k1 k2 k3 x t1 (aa + sg.length) t2' bb news) → Q (.bool true) { s with heap := h', toks := tk' })
noncomputable abbrev RetN (P : Params) (rd dx : Addr) (k1 k2 k3 : Tok) (x : Str) (t1 : Tok) (news : List (Addr × Obj)) (r : Int × Int × Bool) (lo hi : Int) (h₀ : Heap) (L : Addr) (m : Str → Option Value) (s : Shared) (Q : Value → Shared → Prop) : Prop :=
  ∀ (v a' : Int) (b' : Bool) (t t2' : Tok) (h' : Heap) (tk' : Nat), r = (v, a', b') → 0 ≤ a' → a' ≤ (x.length : Int) → lo ≤ v → v ≤ hi → Fr h₀ L h' m → News h₀ L h' (rdL P rd dx k1 k2 k3 x t1 a' t2' b' news) → Q (.int v t) { s with heap := h', toks := tk' }
noncomputable abbrev RetE (P : Params) (rd dx : Addr) (k1 k2 k3 : Tok) (x : Str) (t1 : Tok) (news : List (Addr × Obj)) (r : Int × Bool) (h₀ : Heap) (L : Addr) (m : Str → Option Value) (s : Shared) (Q : Value → Shared → Prop) : Prop :=
  ∀ (a' : Int) (b' : Bool) (t2' : Tok) (h' : Heap) (tk' : Nat), r = (a', b') → 0 ≤ a' → a' ≤ (x.length : Int) → Fr h₀ L h' m → News h₀ L h' (rdL P rd dx k1 k2 k3 x t1 a' t2' b' news) → Q .none { s with heap := h', toks := tk' }
theorem needF_n {x : Str} {a : Int} {b : Bool} {sg : Str} (h : hasB x a b sg = false) : needF x a b sg = (a, true) := by unfold needF; rw [h]; rfl
theorem needF_y {x : Str} {a : Int} {b : Bool} {sg : Str} (h : hasB x a b sg = true) : needF x a b sg = (a + sg.length, b) := by unfold needF; rw [if_pos h]
theorem yearF_p {x : Str} {a : Int} {b : Bool} {r : Int × Int × Bool} (h : hasB x a b (Str.ofString "+") = true) (e : numF x (a + (Str.ofString "+").length) b 6 0 999999 = r) : yearF x a b = r := by unfold yearF; rw [if_pos h, e]
theorem yearF_m {x : Str} {a v a' : Int} {b b' : Bool} (h : hasB x a b (Str.ofString "+") = false) (h2 : hasB x a b (Str.ofString "-") = true) (e : numF x (a + (Str.ofString "-").length) b 6 1 999999 = (v, a', b')) : yearF x a b = (-v, a', b') := by
  unfold yearF; rw [if_neg (by rw [h]; decide), if_pos h2, e]
theorem yearF_n {x : Str} {a : Int} {b : Bool} {r : Int × Int × Bool} (h : hasB x a b (Str.ofString "+") = false) (h2 : hasB x a b (Str.ofString "-") = false) (e : numF x a b 4 0 9999 = r) : yearF x a b = r := by
  unfold yearF; rw [if_neg (by rw [h]; decide), if_neg (by rw [h2]; decide), e]
noncomputable def endsB (x : Str) (a : Int) (b : Bool) : Bool := !b && decide (a = x.length)
section
set_option maxHeartbeats 4000000 in
set_option pp.deepTerms false in
theorem has_ok (rd dx : Addr) (k1 k2 k3 : Tok) (x : Str) (t1 : Tok) (aa : Int) (t2 : Tok) (bb : Bool) (sg : Str) (ts : Tok) (hn : ∀ p ∈ news, p.1 ≠ dx) (hlt : @LT.lt Nat _ dx rd) (h0 : 0 ≤ aa) (h1 : aa ≤ x.length) (hx : x.length ≤ 100) (hs : sg.length ≤ 10) : Clm w loose mean mg mb 1 232 [.ref rd, .str sg ts] (rdL w.params rd dx k1 k2 k3 x t1 aa t2 bb news) (RetH w.params rd dx k1 k2 k3 x t1 aa t2 bb news sg) := by
  w_on
  w_strict (
    k_with_none
    k_with "sub" => first | exact sub_self | (refine sub_cons ?_; k_extra "sub")
    k_with "compareOp In none ref" => (k_here; k_dflt (first | (refine' none_in_tup (b := false) ?N ?r ?c ?b ?u ?_; (case N => exact News.isTup (by k_asm) (by k_mem)); (case r => rfl); (case c => rfl); (case b => rfl); (case u => ktr_units); k_whole) | (refine' none_in_tup (b := true) ?N ?r ?c ?b ?u ?_; (case N => exact News.isTup (by k_asm) (by k_mem)); (case r => rfl); (case c => rfl); (case b => rfl); (case u => ktr_units); k_whole)))
    k_with "subc" => first | exact sub_self | (refine sub_both ?_; k_extra "subc") | (refine sub_cons ?_; k_extra "subc")
    k_with "low" => first | assumption | exact allLt_of (by assumption) | exact low1 (by assumption) | exact low2 (by assumption) | exact low3 (by assumption) | exact low4 (by assumption)
    k_with "mem" => first | exact sub_self | (k_extra "sub") | (refine List.forall_mem_cons.mpr ⟨?_, ?_⟩; k_mem; k_extra "mem")
    k_with "ne" => first | assumption | exact List.forall_mem_nil _ | exact ne_of_low (by k_extra "low") | (refine' List.forall_mem_cons.mpr ⟨?a, ?b⟩; (case a => k_ne); (case b => k_extra "ne"))
    k_with "pull" => first | k_asm | exact pull1 (by k_asm) | exact pull2 (by k_asm) | exact pull3 (by k_asm) | exact pull4 (by k_asm)
    k_with "memq" => first | with_reducible assumption | exact List.Mem.head _ | (refine' List.Mem.tail _ ?_; k_extra "memq")
    intro dp un gd cn cs a ccd cl outer A₀ base h₀ L m s Q E B F X N T hk hdp hun hret
    refine wpAny_call ?_
    k_dflt cell_enter
    k_steps
    all_goals (first | (refine' hret.1 ?e0 _ _ ?e1 ?e2; (case e1 => k_asm); (case e2 => exact ledger_sub (by k_asm) (by k_extra "mem")); (case e0 => first | exact hasB_wrong (by with_reducible assumption) | exact hasB_no (by with_reducible assumption))) | (have hY := hasB_yes (x := x) (a := aa) (b := bb) (sg := sg) (by with_reducible assumption) (by with_reducible assumption); have hZ := hasB_le h0 h1 hY; refine' hret.2 hY ?e0 hZ _ _ _ ?e1 ?e2; (case e1 => k_asm); (case e2 => exact ledger_sub (by k_asm) (by k_extra "mem")); (case e0 => omega))))
end

section
set_option maxHeartbeats 4000000 in
set_option pp.deepTerms false in
theorem need_ok (rd dx : Addr) (k1 k2 k3 : Tok) (x : Str) (t1 : Tok) (aa : Int) (t2 : Tok) (bb : Bool) (sg : Str) (ts : Tok) (hn : ∀ p ∈ news, p.1 ≠ dx) (hlt : @LT.lt Nat _ dx rd) (h0 : 0 ≤ aa) (h1 : aa ≤ x.length) (hx : x.length ≤ 100) (hs : sg.length ≤ 10) : Clm w loose mean mg mb 2 239 [.ref rd, .str sg ts] (rdL w.params rd dx k1 k2 k3 x t1 aa t2 bb news) (RetE w.params rd dx k1 k2 k3 x t1 news (needF x aa bb sg)) := by
  w_on
  w_strict (
    k_with_none
    k_with "sub" => first | exact sub_self | (refine sub_cons ?_; k_extra "sub")
    k_with "compareOp In none ref" => (k_here; k_dflt (first | (refine' none_in_tup (b := false) ?N ?r ?c ?b ?u ?_; (case N => exact News.isTup (by k_asm) (by k_mem)); (case r => rfl); (case c => rfl); (case b => rfl); (case u => ktr_units); k_whole) | (refine' none_in_tup (b := true) ?N ?r ?c ?b ?u ?_; (case N => exact News.isTup (by k_asm) (by k_mem)); (case r => rfl); (case c => rfl); (case b => rfl); (case u => ktr_units); k_whole)))
    k_with "subc" => first | exact sub_self | (refine sub_both ?_; k_extra "subc") | (refine sub_cons ?_; k_extra "subc")
    k_with "low" => first | assumption | exact allLt_of (by assumption) | exact low1 (by assumption) | exact low2 (by assumption) | exact low3 (by assumption) | exact low4 (by assumption)
    k_with "mem" => first | exact sub_self | (k_extra "sub") | (refine List.forall_mem_cons.mpr ⟨?_, ?_⟩; k_mem; k_extra "mem")
    k_with "ne" => first | assumption | exact List.forall_mem_nil _ | exact ne_of_low (by k_extra "low") | (refine' List.forall_mem_cons.mpr ⟨?a, ?b⟩; (case a => k_ne); (case b => k_extra "ne"))
    k_with "pull" => first | k_asm | exact pull1 (by k_asm) | exact pull2 (by k_asm) | exact pull3 (by k_asm) | exact pull4 (by k_asm)
    k_with "memq" => first | with_reducible assumption | exact List.Mem.head _ | (refine' List.Mem.tail _ ?_; k_extra "memq")
    k_with "call ref" => (first
        | ((with_reducible show wpAny _ _ (call (Value.ref 232) _) _ _ _); k_dflt (refine' Clm.use (has_ok _ _ _ _ _ _ _ _ _ _ _ _ ?p0 ?p1 ?p2 ?p3 ?p4 ?p5) ?u1 ?u2 ?u3 ?u4 ?u5 ?u6 ?u7 ?u8 ?_; (case u1 => k_asm); (case u2 => k_asm); (case u3 => k_asm); (case u4 => k_extra "pull"); (case u5 => k_asm); (case u6 => first | exact rfl | assumption); (case u7 => first | exact room1 hdp (Nat.le_of_ble_eq_true rfl) | ktr_room); (case u8 => first | exact units1 hun (Nat.le_of_ble_eq_true rfl) | ktr_units); (case p0 => k_extra "ne"); (case p1 => first | (with_reducible assumption) | assumption | exact ltN (by assumption)); (case p2 => first | (with_reducible assumption) | omega); (case p3 => first | (with_reducible assumption) | omega); (case p4 => with_reducible assumption); (case p5 => first | assumption | decide +kernel)); refine' ⟨fun e9 h9 tk9 F9 N9 => ?_, fun e9 c9 d9 t9 h9 tk9 F9 N9 => ?_⟩; (all_goals ((try dsimp only); (try k_sweep); (try k_fold)))))
    intro dp un gd cn cs a ccd cl outer A₀ base h₀ L m s Q E B F X N T hk hdp hun hret
    refine wpAny_call ?_
    k_dflt cell_enter
    k_steps
    all_goals (refine' hret _ _ _ _ _ ?e0 ?e3 ?e4 ?e1 ?e2; (case e1 => k_asm); (case e2 => exact ledger_sub (by k_asm) (by k_extra "mem")); (case e0 => first | exact needF_n (by with_reducible assumption) | exact needF_y (by with_reducible assumption)); (case e3 => first | (with_reducible assumption) | omega); (case e4 => first | (with_reducible assumption) | omega)))
end

section
set_option maxHeartbeats 4000000 in
set_option pp.deepTerms false in
theorem number_ok (rd dx : Addr) (k1 k2 k3 : Tok) (x : Str) (t1 : Tok) (aa : Int) (t2 : Tok) (bb : Bool) (wd lo hi : Int) (ts tl th : Tok) (hn : ∀ p ∈ news, p.1 ≠ dx) (hlt : @LT.lt Nat _ dx rd) (h0 : 0 ≤ aa) (h1 : aa ≤ x.length) (hx : x.length ≤ 100) (hw : 0 ≤ wd ∧ wd ≤ 10) (hh : lo ≤ hi) : Clm w loose mean mg mb 2 246 [.ref rd, .int wd ts, .int lo tl, .int hi th] (rdL w.params rd dx k1 k2 k3 x t1 aa t2 bb news) (RetN w.params rd dx k1 k2 k3 x t1 news (numF x aa bb wd lo hi) lo hi) := by
  w_on
  w_strict (
    k_with_none
    k_with "sub" => first | exact sub_self | (refine sub_cons ?_; k_extra "sub")
    k_with "compareOp In none ref" => (k_here; k_dflt (first | (refine' none_in_tup (b := false) ?N ?r ?c ?b ?u ?_; (case N => exact News.isTup (by k_asm) (by k_mem)); (case r => rfl); (case c => rfl); (case b => rfl); (case u => ktr_units); k_whole) | (refine' none_in_tup (b := true) ?N ?r ?c ?b ?u ?_; (case N => exact News.isTup (by k_asm) (by k_mem)); (case r => rfl); (case c => rfl); (case b => rfl); (case u => ktr_units); k_whole)))
    k_with "subc" => first | exact sub_self | (refine sub_both ?_; k_extra "subc") | (refine sub_cons ?_; k_extra "subc")
    k_with "low" => first | assumption | exact allLt_of (by assumption) | exact low1 (by assumption) | exact low2 (by assumption) | exact low3 (by assumption) | exact low4 (by assumption)
    k_with "mem" => first | exact sub_self | (k_extra "sub") | (refine List.forall_mem_cons.mpr ⟨?_, ?_⟩; k_mem; k_extra "mem")
    k_with "ne" => first | assumption | exact List.forall_mem_nil _ | exact ne_of_low (by k_extra "low") | (refine' List.forall_mem_cons.mpr ⟨?a, ?b⟩; (case a => k_ne); (case b => k_extra "ne"))
    k_with "pull" => first | k_asm | exact pull1 (by k_asm) | exact pull2 (by k_asm) | exact pull3 (by k_asm) | exact pull4 (by k_asm)
    k_with "memq" => first | with_reducible assumption | exact List.Mem.head _ | (refine' List.Mem.tail _ ?_; k_extra "memq")
    k_with "call ref" => (first
        | ((with_reducible show wpAny _ _ (call (Value.ref 211) _) _ _ _); k_dflt (refine' Clm.use (number_of_figures_ok _ _ ?p0) ?u1 ?u2 ?u3 ?u4 ?u5 ?u6 ?u7 ?u8 ?_; (case u1 => k_asm); (case u2 => k_asm); (case u3 => k_asm); (case u4 => k_asm); (case u5 => k_asm); (case u6 => first | exact rfl | assumption); (case u7 => first | exact room1 hdp (Nat.le_of_ble_eq_true rfl) | ktr_room); (case u8 => first | exact units1 hun (Nat.le_of_ble_eq_true rfl) | ktr_units); (case p0 => omega)); refine' ⟨fun e9 h9 tk9 F9 N9 => ?_, fun i9 e9 t9 h9 tk9 F9 N9 => ?_⟩; (all_goals ((try dsimp only); (try k_sweep); (try k_fold)))))
    intro dp un gd cn cs a ccd cl outer A₀ base h₀ L m s Q E B F X N T hk hdp hun hret
    refine wpAny_call ?_
    k_dflt cell_enter
    k_steps
    all_goals (refine' hret _ _ _ _ _ _ _ ?e0 ?e3 ?e4 ?e5 ?e6 ?e1 ?e2; (case e1 => k_asm); (case e2 => exact ledger_sub (by k_asm) (by k_extra "mem")); (case e0 => first | exact numF_w (by with_reducible assumption) | exact numF_l (by omega) | exact numF_n (by with_reducible assumption) | exact numF_y (by with_reducible assumption) (by omega) (by with_reducible assumption) (by omega) (by omega) | exact numF_o (by with_reducible assumption) (by omega)); (case e3 => first | (with_reducible assumption) | omega); (case e4 => first | (with_reducible assumption) | omega); (case e5 => first | (with_reducible assumption) | omega); (case e6 => first | (with_reducible assumption) | omega)))
end

end

section
local macro_rules | `(tactic| k_all) => `(tactic| assumption)
local macro_rules | `(tactic| k_room) => `(tactic| ktr_room)
set_option linter.unusedVariables false
set_option linter.unusedSimpArgs false
variable {w : World} {loose : List Str} {mean : ExcName → Option Value} {mg mb : Str → Option Value} {news : List (Addr × Obj)}

theorem endsB_w {x : Str} {a : Int} {b : Bool} (h : b = true) : false = endsB x a b := by subst h; rfl
theorem endsB_w2 {x : Str} {a : Int} {b : Bool} (h : b = true) : (!b) = endsB x a b := by subst h; rfl
theorem endsB_d2 {x : Str} {a : Int} {b : Bool} (h : b = false) : (a == (x.length : Int)) = endsB x a b := by subst h; unfold endsB; rw [Bool.eq_iff_iff]; simp
theorem endsB_d {x : Str} {a : Int} {b : Bool} (h : b = false) : decide (a = (x.length : Int)) = endsB x a b := by subst h; rfl
theorem nt {b : Bool} (h : b = false) : ¬ b = true := by rw [h]; decide
noncomputable def zoneM {α : Type} (n : Bool) (h : Int) (m : Int × α × Bool) : Int × α × Bool := ((if n = true then -(h * 60 + m.1) else h * 60 + m.1), m.2)
noncomputable def zoneDF (x : Str) (n : Bool) (h : Int) (d : Int × Bool) : Int × Int × Bool := zoneM n h (numF x d.1 d.2 2 0 59)
noncomputable def zoneHF (x : Str) (n : Bool) (h : Int × Int × Bool) : Int × Int × Bool := zoneDF x n h.1 (needF x h.2.1 h.2.2 (Str.ofString ":"))
noncomputable def zoneCF (x : Str) (n : Bool) (c : Int × Bool) : Int × Int × Bool := zoneHF x n (numF x c.1 c.2 2 0 23)
noncomputable def zoneF (x : Str) (a : Int) (b : Bool) : Int × Int × Bool :=
  if hasB x a b (Str.ofString "-") = true then zoneCF x true (a + (Str.ofString "-").length, b) else zoneCF x false (needF x a b (Str.ofString "+"))
theorem zoneF_y {x : Str} {a v1 a1 a2 v2 a3 : Int} {b b1 b2 b3 : Bool} (h : hasB x a b (Str.ofString "-") = true) (e1 : numF x (a + (Str.ofString "-").length) b 2 0 23 = (v1, a1, b1)) (e2 : needF x a1 b1 (Str.ofString ":") = (a2, b2))
    (e3 : numF x a2 b2 2 0 59 = (v2, a3, b3)) : zoneF x a b = (-(v1 * 60 + v2), a3, b3) :=
  (if_pos h).trans ((congrArg (zoneHF x true) e1).trans ((congrArg (zoneDF x true v1) e2).trans (congrArg (zoneM true v1) e3)))
theorem zoneF_n {x : Str} {a a0 v1 a1 a2 v2 a3 : Int} {b b0 b1 b2 b3 : Bool} (h : hasB x a b (Str.ofString "-") = false) (e0 : needF x a b (Str.ofString "+") = (a0, b0)) (e1 : numF x a0 b0 2 0 23 = (v1, a1, b1)) (e2 : needF x a1 b1 (Str.ofString ":") = (a2, b2))
    (e3 : numF x a2 b2 2 0 59 = (v2, a3, b3)) : zoneF x a b = (v1 * 60 + v2, a3, b3) :=
  (if_neg (nt h)).trans ((congrArg (zoneCF x false) e0).trans ((congrArg (zoneHF x false) e1).trans ((congrArg (zoneDF x false v1) e2).trans (congrArg (zoneM false v1) e3))))
noncomputable abbrev RetZ (P : Params) (rd dx : Addr) (k1 k2 k3 : Tok) (x : Str) (t1 : Tok) (news : List (Addr × Obj)) (r : Int × Int × Bool) (h₀ : Heap) (L : Addr) (m : Str → Option Value) (s : Shared) (Q : Value → Shared → Prop) : Prop :=
  RetN P rd dx k1 k2 k3 x t1 news r (-9999) 9999 h₀ L m s Q
/-- the clock -/
noncomputable def clockU {α : Type} (h m s : Int) (u : Int × α × Bool) : (Int × Int × Int × Int) × α × Bool := ((h, m, s, u.1), u.2.1, if h = 24 ∧ 0 < m + s + u.1 then true else u.2.2)
noncomputable def clockSF (x : Str) (h m : Int) (s : Int × Int × Bool) : (Int × Int × Int × Int) × Int × Bool :=
  if hasB x s.2.1 s.2.2 (Str.ofString ".") = true then clockU h m s.1 (numF x (s.2.1 + (Str.ofString ".").length) s.2.2 3 0 999) else clockU h m s.1 (0, s.2)
noncomputable def clockMF (x : Str) (h : Int) (m : Int × Int × Bool) : (Int × Int × Int × Int) × Int × Bool :=
  if hasB x m.2.1 m.2.2 (Str.ofString ":") = true then clockSF x h m.1 (numF x (m.2.1 + (Str.ofString ":").length) m.2.2 2 0 59) else clockU h m.1 0 (0, m.2)
noncomputable def clockDF (x : Str) (h : Int) (d : Int × Bool) : (Int × Int × Int × Int) × Int × Bool := clockMF x h (numF x d.1 d.2 2 0 59)
noncomputable def clockHF (x : Str) (h : Int × Int × Bool) : (Int × Int × Int × Int) × Int × Bool := clockDF x h.1 (needF x h.2.1 h.2.2 (Str.ofString ":"))
noncomputable def clockF (x : Str) (a : Int) (b : Bool) : (Int × Int × Int × Int) × Int × Bool := clockHF x (numF x a b 2 0 24)
section
variable {x : Str} {a h a1 a2 m a3 v a4 u a5 : Int} {b b1 b2 b3 b4 b5 : Bool}
theorem clockF_1 (e1 : numF x a b 2 0 24 = (h, a1, b1)) (e2 : needF x a1 b1 (Str.ofString ":") = (a2, b2)) (e3 : numF x a2 b2 2 0 59 = (m, a3, b3)) (g : hasB x a3 b3 (Str.ofString ":") = false) :
    clockF x a b = ((h, m, 0, 0), a3, if h = 24 ∧ 0 < m + 0 + 0 then true else b3) :=
  (congrArg (clockHF x) e1).trans ((congrArg (clockDF x h) e2).trans ((congrArg (clockMF x h) e3).trans (if_neg (nt g))))
theorem clockF_2 (e1 : numF x a b 2 0 24 = (h, a1, b1)) (e2 : needF x a1 b1 (Str.ofString ":") = (a2, b2)) (e3 : numF x a2 b2 2 0 59 = (m, a3, b3)) (g : hasB x a3 b3 (Str.ofString ":") = true)
    (e4 : numF x (a3 + (Str.ofString ":").length) b3 2 0 59 = (v, a4, b4)) (g2 : hasB x a4 b4 (Str.ofString ".") = false) :
    clockF x a b = ((h, m, v, 0), a4, if h = 24 ∧ 0 < m + v + 0 then true else b4) :=
  (congrArg (clockHF x) e1).trans ((congrArg (clockDF x h) e2).trans ((congrArg (clockMF x h) e3).trans ((if_pos g).trans ((congrArg (clockSF x h m) e4).trans (if_neg (nt g2))))))
theorem clockF_3 (e1 : numF x a b 2 0 24 = (h, a1, b1)) (e2 : needF x a1 b1 (Str.ofString ":") = (a2, b2)) (e3 : numF x a2 b2 2 0 59 = (m, a3, b3)) (g : hasB x a3 b3 (Str.ofString ":") = true)
    (e4 : numF x (a3 + (Str.ofString ":").length) b3 2 0 59 = (v, a4, b4)) (g2 : hasB x a4 b4 (Str.ofString ".") = true) (e5 : numF x (a4 + (Str.ofString ".").length) b4 3 0 999 = (u, a5, b5)) :
    clockF x a b = ((h, m, v, u), a5, if h = 24 ∧ 0 < m + v + u then true else b5) :=
  (congrArg (clockHF x) e1).trans ((congrArg (clockDF x h) e2).trans ((congrArg (clockMF x h) e3).trans ((if_pos g).trans ((congrArg (clockSF x h m) e4).trans ((if_pos g2).trans (congrArg (clockU h m v) e5))))))
end
noncomputable abbrev tup4 (a b c d : Int) (t₁ t₂ t₃ t₄ : Tok) : Obj := { cls := .type "tuple", data := .seq #[.int a t₁, .int b t₂, .int c t₃, .int d t₄] }
noncomputable abbrev RetC (P : Params) (rd dx : Addr) (k1 k2 k3 : Tok) (x : Str) (t1 : Tok) (news : List (Addr × Obj)) (r : (Int × Int × Int × Int) × Int × Bool) (h₀ : Heap) (L : Addr) (m : Str → Option Value) (s : Shared) (Q : Value → Shared → Prop) : Prop :=
  ∀ (q : Addr) (hh mm ss ms a' : Int) (b' : Bool) (u₁ u₂ u₃ u₄ t2' : Tok) (h' : Heap) (tk' : Nat), r = ((hh, mm, ss, ms), a', b') → 0 ≤ a' → a' ≤ (x.length : Int) → @LT.lt Nat _ rd q → AllLt q news →
    Fr h₀ L h' m → News h₀ L h' ((q, tup4 hh mm ss ms u₁ u₂ u₃ u₄) :: rdL P rd dx k1 k2 k3 x t1 a' t2' b' news) → Q (.ref q) { s with heap := h', toks := tk' }
theorem fin_t {r : (Int × Int × Int × Int) × Int × Bool} {c : (Int × Int × Int × Int)} {a : Int} {p q : Prop} [Decidable p] [Decidable q] {b : Bool} (e : r = (c, a, if p ∧ q then true else b)) (h1 : p) (h2 : q) : r = (c, a, true) := by rw [e, if_pos ⟨h1, h2⟩]
theorem fin_f1 {r : (Int × Int × Int × Int) × Int × Bool} {c : (Int × Int × Int × Int)} {a : Int} {p q : Prop} [Decidable p] [Decidable q] {b : Bool} (e : r = (c, a, if p ∧ q then true else b)) (h1 : ¬ p) : r = (c, a, b) := by rw [e, if_neg (fun g => h1 g.1)]
theorem fin_f2 {r : (Int × Int × Int × Int) × Int × Bool} {c : (Int × Int × Int × Int)} {a : Int} {p q : Prop} [Decidable p] [Decidable q] {b : Bool} (e : r = (c, a, if p ∧ q then true else b)) (h1 : ¬ q) : r = (c, a, b) := by rw [e, if_neg (fun g => h1 g.2)]
section
set_option maxHeartbeats 4000000 in
set_option pp.deepTerms false in
theorem ends_ok (rd dx : Addr) (k1 k2 k3 : Tok) (x : Str) (t1 : Tok) (aa : Int) (t2 : Tok) (bb : Bool) (hn : ∀ p ∈ news, p.1 ≠ dx) (hlt : @LT.lt Nat _ dx rd) (h0 : 0 ≤ aa) (h1 : aa ≤ x.length) (hx : x.length ≤ 100) : Clm w loose mean mg mb 1 260 [.ref rd] (rdL w.params rd dx k1 k2 k3 x t1 aa t2 bb news) (RetV (rdL w.params rd dx k1 k2 k3 x t1 aa t2 bb news) fun _ => .bool (endsB x aa bb)) := by
  w_on
  w_strict (
    k_with_none
    k_with "sub" => first | exact sub_self | (refine sub_cons ?_; k_extra "sub")
    k_with "compareOp In none ref" => (k_here; k_dflt (first | (refine' none_in_tup (b := false) ?N ?r ?c ?b ?u ?_; (case N => exact News.isTup (by k_asm) (by k_mem)); (case r => rfl); (case c => rfl); (case b => rfl); (case u => ktr_units); k_whole) | (refine' none_in_tup (b := true) ?N ?r ?c ?b ?u ?_; (case N => exact News.isTup (by k_asm) (by k_mem)); (case r => rfl); (case c => rfl); (case b => rfl); (case u => ktr_units); k_whole)))
    k_with "subc" => first | exact sub_self | (refine sub_both ?_; k_extra "subc") | (refine sub_cons ?_; k_extra "subc")
    k_with "low" => first | assumption | exact allLt_of (by assumption) | exact low1 (by assumption) | exact low2 (by assumption) | exact low3 (by assumption) | exact low4 (by assumption)
    k_with "mem" => first | exact sub_self | (k_extra "sub") | (refine List.forall_mem_cons.mpr ⟨?_, ?_⟩; k_mem; k_extra "mem")
    k_with "ne" => first | assumption | exact List.forall_mem_nil _ | exact ne_of_low (by k_extra "low") | (refine' List.forall_mem_cons.mpr ⟨?a, ?b⟩; (case a => k_ne); (case b => k_extra "ne"))
    k_with "pull" => first | k_asm | exact pull1 (by k_asm) | exact pull2 (by k_asm) | exact pull3 (by k_asm) | exact pull4 (by k_asm)
    k_with "memq" => first | with_reducible assumption | exact List.Mem.head _ | (refine' List.Mem.tail _ ?_; k_extra "memq")
    intro dp un gd cn cs a ccd cl outer A₀ base h₀ L m s Q E B F X N T hk hdp hun hret
    refine wpAny_call ?_
    k_dflt cell_enter
    k_steps
    all_goals (refine' endB hret ?e1 ?e2 ?e3 ?e4; (case e2 => k_asm); (case e3 => k_asm); (case e4 => k_extra "mem"); (case e1 => first | exact endsB_w2 (by with_reducible assumption) | exact endsB_w (by with_reducible assumption) | exact endsB_d (by with_reducible assumption) | exact endsB_d2 (by with_reducible assumption))))
end

section
set_option maxHeartbeats 4000000 in
set_option pp.deepTerms false in
theorem year_ok (rd dx : Addr) (k1 k2 k3 : Tok) (x : Str) (t1 : Tok) (aa : Int) (t2 : Tok) (bb : Bool) (hn : ∀ p ∈ news, p.1 ≠ dx) (hlt : @LT.lt Nat _ dx rd) (h0 : 0 ≤ aa) (h1 : aa ≤ x.length) (hx : x.length ≤ 100) : Clm w loose mean mg mb 3 267 [.ref rd] (rdL w.params rd dx k1 k2 k3 x t1 aa t2 bb news) (RetN w.params rd dx k1 k2 k3 x t1 news (yearF x aa bb) (-999999) 999999) := by
  w_on
  w_strict (
    k_with_none
    k_with "sub" => first | exact sub_self | (refine sub_cons ?_; k_extra "sub")
    k_with "compareOp In none ref" => (k_here; k_dflt (first | (refine' none_in_tup (b := false) ?N ?r ?c ?b ?u ?_; (case N => exact News.isTup (by k_asm) (by k_mem)); (case r => rfl); (case c => rfl); (case b => rfl); (case u => ktr_units); k_whole) | (refine' none_in_tup (b := true) ?N ?r ?c ?b ?u ?_; (case N => exact News.isTup (by k_asm) (by k_mem)); (case r => rfl); (case c => rfl); (case b => rfl); (case u => ktr_units); k_whole)))
    k_with "subc" => first | exact sub_self | (refine sub_both ?_; k_extra "subc") | (refine sub_cons ?_; k_extra "subc")
    k_with "low" => first | assumption | exact allLt_of (by assumption) | exact low1 (by assumption) | exact low2 (by assumption) | exact low3 (by assumption) | exact low4 (by assumption)
    k_with "mem" => first | exact sub_self | (k_extra "sub") | (refine List.forall_mem_cons.mpr ⟨?_, ?_⟩; k_mem; k_extra "mem")
    k_with "ne" => first | assumption | exact List.forall_mem_nil _ | exact ne_of_low (by k_extra "low") | (refine' List.forall_mem_cons.mpr ⟨?a, ?b⟩; (case a => k_ne); (case b => k_extra "ne"))
    k_with "pull" => first | k_asm | exact pull1 (by k_asm) | exact pull2 (by k_asm) | exact pull3 (by k_asm) | exact pull4 (by k_asm)
    k_with "memq" => first | with_reducible assumption | exact List.Mem.head _ | (refine' List.Mem.tail _ ?_; k_extra "memq")
    k_with "call ref" => (first
        | ((with_reducible show wpAny _ _ (call (Value.ref 232) _) _ _ _); k_dflt (refine' Clm.use (has_ok _ _ _ _ _ _ _ _ _ _ _ _ ?p0 ?p1 ?p2 ?p3 ?p4 ?p5) ?u1 ?u2 ?u3 ?u4 ?u5 ?u6 ?u7 ?u8 ?_; (case u1 => k_asm); (case u2 => k_asm); (case u3 => k_asm); (case u4 => k_extra "pull"); (case u5 => k_asm); (case u6 => first | exact rfl | assumption); (case u7 => first | exact room1 hdp (Nat.le_of_ble_eq_true rfl) | ktr_room); (case u8 => first | exact units1 hun (Nat.le_of_ble_eq_true rfl) | ktr_units); (case p0 => k_extra "ne"); (case p1 => first | (with_reducible assumption) | assumption | exact ltN (by assumption)); (case p2 => first | (with_reducible assumption) | omega); (case p3 => first | (with_reducible assumption) | omega); (case p4 => with_reducible assumption); (case p5 => first | assumption | decide +kernel)); refine' ⟨fun e9 h9 tk9 F9 N9 => ?_, fun e9 c9 d9 t9 h9 tk9 F9 N9 => ?_⟩; (all_goals ((try dsimp only); (try k_sweep); (try k_fold))))
        | ((with_reducible show wpAny _ _ (call (Value.ref 246) _) _ _ _); k_dflt (refine' Clm.use (number_ok _ _ _ _ _ _ _ _ _ _ _ _ _ _ _ _ ?p0 ?p1 ?p2 ?p3 ?p4 ?p5 ?p6) ?u1 ?u2 ?u3 ?u4 ?u5 ?u6 ?u7 ?u8 ?_; (case u1 => k_asm); (case u2 => k_asm); (case u3 => k_asm); (case u4 => k_extra "pull"); (case u5 => k_asm); (case u6 => first | exact rfl | assumption); (case u7 => first | exact room1 hdp (Nat.le_of_ble_eq_true rfl) | ktr_room); (case u8 => first | exact units1 hun (Nat.le_of_ble_eq_true rfl) | ktr_units); (case p0 => k_extra "ne"); (case p1 => first | (with_reducible assumption) | assumption | exact ltN (by assumption)); (case p2 => first | (with_reducible assumption) | omega); (case p3 => first | (with_reducible assumption) | omega); (case p4 => with_reducible assumption); (case p5 => exact ⟨by decide, by decide⟩); (case p6 => first | decide | omega)); intro v9 a9 b9 t9 u9 h9 tk9 e9 c1 c2 c3 c4 F9 N9; (all_goals ((try dsimp only); (try k_sweep); (try k_fold)))))
    intro dp un gd cn cs a ccd cl outer A₀ base h₀ L m s Q E B F X N T hk hdp hun hret
    refine wpAny_call ?_
    k_dflt cell_enter
    k_steps
    all_goals (refine' hret _ _ _ _ _ _ _ ?e0 ?e3 ?e4 ?e5 ?e6 ?e1 ?e2; (case e1 => k_asm); (case e2 => exact ledger_sub (by k_asm) (by k_extra "mem")); (case e0 => first | exact yearF_p (by with_reducible assumption) (by with_reducible assumption) | exact yearF_m (by with_reducible assumption) (by with_reducible assumption) (by with_reducible assumption) | exact yearF_n (by with_reducible assumption) (by with_reducible assumption) (by with_reducible assumption)); (case e3 => first | (with_reducible assumption) | omega); (case e4 => first | (with_reducible assumption) | omega); (case e5 => first | (with_reducible assumption) | omega); (case e6 => first | (with_reducible assumption) | omega)))
end

section
set_option maxHeartbeats 4000000 in
set_option pp.deepTerms false in
theorem zone_ok (rd dx : Addr) (k1 k2 k3 : Tok) (x : Str) (t1 : Tok) (aa : Int) (t2 : Tok) (bb : Bool) (hn : ∀ p ∈ news, p.1 ≠ dx) (hlt : @LT.lt Nat _ dx rd) (h0 : 0 ≤ aa) (h1 : aa ≤ x.length) (hx : x.length ≤ 100) : Clm w loose mean mg mb 3 288 [.ref rd, .bool true] (rdL w.params rd dx k1 k2 k3 x t1 aa t2 bb news) (RetZ w.params rd dx k1 k2 k3 x t1 news (zoneF x aa bb)) := by
  w_on
  w_strict (
    k_with_none
    k_with "sub" => first | exact sub_self | (refine sub_cons ?_; k_extra "sub")
    k_with "compareOp In none ref" => (k_here; k_dflt (first | (refine' none_in_tup (b := false) ?N ?r ?c ?b ?u ?_; (case N => exact News.isTup (by k_asm) (by k_mem)); (case r => rfl); (case c => rfl); (case b => rfl); (case u => ktr_units); k_whole) | (refine' none_in_tup (b := true) ?N ?r ?c ?b ?u ?_; (case N => exact News.isTup (by k_asm) (by k_mem)); (case r => rfl); (case c => rfl); (case b => rfl); (case u => ktr_units); k_whole)))
    k_with "subc" => first | exact sub_self | (refine sub_both ?_; k_extra "subc") | (refine sub_cons ?_; k_extra "subc")
    k_with "low" => first | assumption | exact allLt_of (by assumption) | exact low1 (by assumption) | exact low2 (by assumption) | exact low3 (by assumption) | exact low4 (by assumption)
    k_with "mem" => first | exact sub_self | (k_extra "sub") | (refine List.forall_mem_cons.mpr ⟨?_, ?_⟩; k_mem; k_extra "mem")
    k_with "ne" => first | assumption | exact List.forall_mem_nil _ | exact ne_of_low (by k_extra "low") | (refine' List.forall_mem_cons.mpr ⟨?a, ?b⟩; (case a => k_ne); (case b => k_extra "ne"))
    k_with "pull" => first | k_asm | exact pull1 (by k_asm) | exact pull2 (by k_asm) | exact pull3 (by k_asm) | exact pull4 (by k_asm)
    k_with "memq" => first | with_reducible assumption | exact List.Mem.head _ | (refine' List.Mem.tail _ ?_; k_extra "memq")
    k_with "call ref" => (first
        | ((with_reducible show wpAny _ _ (call (Value.ref 232) _) _ _ _); k_dflt (refine' Clm.use (has_ok _ _ _ _ _ _ _ _ _ _ _ _ ?p0 ?p1 ?p2 ?p3 ?p4 ?p5) ?u1 ?u2 ?u3 ?u4 ?u5 ?u6 ?u7 ?u8 ?_; (case u1 => k_asm); (case u2 => k_asm); (case u3 => k_asm); (case u4 => k_extra "pull"); (case u5 => k_asm); (case u6 => first | exact rfl | assumption); (case u7 => first | exact room1 hdp (Nat.le_of_ble_eq_true rfl) | ktr_room); (case u8 => first | exact units1 hun (Nat.le_of_ble_eq_true rfl) | ktr_units); (case p0 => k_extra "ne"); (case p1 => first | (with_reducible assumption) | assumption | exact ltN (by assumption)); (case p2 => first | (with_reducible assumption) | omega); (case p3 => first | (with_reducible assumption) | omega); (case p4 => with_reducible assumption); (case p5 => first | assumption | decide +kernel)); refine' ⟨fun e9 h9 tk9 F9 N9 => ?_, fun e9 c9 d9 t9 h9 tk9 F9 N9 => ?_⟩; (all_goals ((try dsimp only); (try k_sweep); (try k_fold))))
        | ((with_reducible show wpAny _ _ (call (Value.ref 239) _) _ _ _); k_dflt (refine' Clm.use (need_ok _ _ _ _ _ _ _ _ _ _ _ _ ?p0 ?p1 ?p2 ?p3 ?p4 ?p5) ?u1 ?u2 ?u3 ?u4 ?u5 ?u6 ?u7 ?u8 ?_; (case u1 => k_asm); (case u2 => k_asm); (case u3 => k_asm); (case u4 => k_extra "pull"); (case u5 => k_asm); (case u6 => first | exact rfl | assumption); (case u7 => first | exact room1 hdp (Nat.le_of_ble_eq_true rfl) | ktr_room); (case u8 => first | exact units1 hun (Nat.le_of_ble_eq_true rfl) | ktr_units); (case p0 => k_extra "ne"); (case p1 => first | (with_reducible assumption) | assumption | exact ltN (by assumption)); (case p2 => first | (with_reducible assumption) | omega); (case p3 => first | (with_reducible assumption) | omega); (case p4 => with_reducible assumption); (case p5 => first | assumption | decide +kernel)); intro a9 b9 u9 h9 tk9 e9 c1 c2 F9 N9; (all_goals ((try dsimp only); (try k_sweep); (try k_fold))))
        | ((with_reducible show wpAny _ _ (call (Value.ref 246) _) _ _ _); k_dflt (refine' Clm.use (number_ok _ _ _ _ _ _ _ _ _ _ _ _ _ _ _ _ ?p0 ?p1 ?p2 ?p3 ?p4 ?p5 ?p6) ?u1 ?u2 ?u3 ?u4 ?u5 ?u6 ?u7 ?u8 ?_; (case u1 => k_asm); (case u2 => k_asm); (case u3 => k_asm); (case u4 => k_extra "pull"); (case u5 => k_asm); (case u6 => first | exact rfl | assumption); (case u7 => first | exact room1 hdp (Nat.le_of_ble_eq_true rfl) | ktr_room); (case u8 => first | exact units1 hun (Nat.le_of_ble_eq_true rfl) | ktr_units); (case p0 => k_extra "ne"); (case p1 => first | (with_reducible assumption) | assumption | exact ltN (by assumption)); (case p2 => first | (with_reducible assumption) | omega); (case p3 => first | (with_reducible assumption) | omega); (case p4 => with_reducible assumption); (case p5 => exact ⟨by decide, by decide⟩); (case p6 => first | decide | omega)); intro v9 a9 b9 t9 u9 h9 tk9 e9 c1 c2 c3 c4 F9 N9; (all_goals ((try dsimp only); (try k_sweep); (try k_fold)))))
    intro dp un gd cn cs a ccd cl outer A₀ base h₀ L m s Q E B F X N T hk hdp hun hret
    refine wpAny_call ?_
    k_dflt cell_enter
    k_steps
    all_goals (refine' hret _ _ _ _ _ _ _ ?e0 ?e3 ?e4 ?e5 ?e6 ?e1 ?e2; (case e1 => k_asm); (case e2 => exact ledger_sub (by k_asm) (by k_extra "mem")); (case e0 => first | exact zoneF_y (by with_reducible assumption) (by with_reducible assumption) (by with_reducible assumption) (by with_reducible assumption) | exact zoneF_n (by with_reducible assumption) (by with_reducible assumption) (by with_reducible assumption) (by with_reducible assumption) (by with_reducible assumption)); (case e3 => first | (with_reducible assumption) | omega); (case e4 => first | (with_reducible assumption) | omega); (case e5 => first | (with_reducible assumption) | omega); (case e6 => first | (with_reducible assumption) | omega)))
end

section
set_option maxHeartbeats 4000000 in
set_option pp.deepTerms false in
theorem iso_clock_ok (rd dx : Addr) (k1 k2 k3 : Tok) (x : Str) (t1 : Tok) (aa : Int) (t2 : Tok) (bb : Bool) (hn : ∀ p ∈ news, p.1 ≠ dx) (hlt : @LT.lt Nat _ dx rd) (h0 : 0 ≤ aa) (h1 : aa ≤ x.length) (hx : x.length ≤ 100) : Clm w loose mean mg mb 4 302 [.ref rd] (rdL w.params rd dx k1 k2 k3 x t1 aa t2 bb news) (RetC w.params rd dx k1 k2 k3 x t1 news (clockF x aa bb)) := by
  w_on
  w_strict (
    k_with_none
    k_with "sub" => first | exact sub_self | (refine sub_cons ?_; k_extra "sub")
    k_with "compareOp In none ref" => (k_here; k_dflt (first | (refine' none_in_tup (b := false) ?N ?r ?c ?b ?u ?_; (case N => exact News.isTup (by k_asm) (by k_mem)); (case r => rfl); (case c => rfl); (case b => rfl); (case u => ktr_units); k_whole) | (refine' none_in_tup (b := true) ?N ?r ?c ?b ?u ?_; (case N => exact News.isTup (by k_asm) (by k_mem)); (case r => rfl); (case c => rfl); (case b => rfl); (case u => ktr_units); k_whole)))
    k_with "subc" => first | exact sub_self | (refine sub_both ?_; k_extra "subc") | (refine sub_cons ?_; k_extra "subc")
    k_with "low" => first | assumption | exact allLt_of (by assumption) | exact low1 (by assumption) | exact low2 (by assumption) | exact low3 (by assumption) | exact low4 (by assumption)
    k_with "mem" => first | exact sub_self | (k_extra "sub") | (refine List.forall_mem_cons.mpr ⟨?_, ?_⟩; k_mem; k_extra "mem")
    k_with "ne" => first | assumption | exact List.forall_mem_nil _ | exact ne_of_low (by k_extra "low") | (refine' List.forall_mem_cons.mpr ⟨?a, ?b⟩; (case a => k_ne); (case b => k_extra "ne"))
    k_with "pull" => first | k_asm | exact pull1 (by k_asm) | exact pull2 (by k_asm) | exact pull3 (by k_asm) | exact pull4 (by k_asm)
    k_with "memq" => first | with_reducible assumption | exact List.Mem.head _ | (refine' List.Mem.tail _ ?_; k_extra "memq")
    k_with "call ref" => (first
        | ((with_reducible show wpAny _ _ (call (Value.ref 232) _) _ _ _); k_dflt (refine' Clm.use (has_ok _ _ _ _ _ _ _ _ _ _ _ _ ?p0 ?p1 ?p2 ?p3 ?p4 ?p5) ?u1 ?u2 ?u3 ?u4 ?u5 ?u6 ?u7 ?u8 ?_; (case u1 => k_asm); (case u2 => k_asm); (case u3 => k_asm); (case u4 => k_extra "pull"); (case u5 => k_asm); (case u6 => first | exact rfl | assumption); (case u7 => first | exact room1 hdp (Nat.le_of_ble_eq_true rfl) | ktr_room); (case u8 => first | exact units1 hun (Nat.le_of_ble_eq_true rfl) | ktr_units); (case p0 => k_extra "ne"); (case p1 => first | (with_reducible assumption) | assumption | exact ltN (by assumption)); (case p2 => first | (with_reducible assumption) | omega); (case p3 => first | (with_reducible assumption) | omega); (case p4 => with_reducible assumption); (case p5 => first | assumption | decide +kernel)); refine' ⟨fun e9 h9 tk9 F9 N9 => ?_, fun e9 c9 d9 t9 h9 tk9 F9 N9 => ?_⟩; (all_goals ((try dsimp only); (try k_sweep); (try k_fold))))
        | ((with_reducible show wpAny _ _ (call (Value.ref 239) _) _ _ _); k_dflt (refine' Clm.use (need_ok _ _ _ _ _ _ _ _ _ _ _ _ ?p0 ?p1 ?p2 ?p3 ?p4 ?p5) ?u1 ?u2 ?u3 ?u4 ?u5 ?u6 ?u7 ?u8 ?_; (case u1 => k_asm); (case u2 => k_asm); (case u3 => k_asm); (case u4 => k_extra "pull"); (case u5 => k_asm); (case u6 => first | exact rfl | assumption); (case u7 => first | exact room1 hdp (Nat.le_of_ble_eq_true rfl) | ktr_room); (case u8 => first | exact units1 hun (Nat.le_of_ble_eq_true rfl) | ktr_units); (case p0 => k_extra "ne"); (case p1 => first | (with_reducible assumption) | assumption | exact ltN (by assumption)); (case p2 => first | (with_reducible assumption) | omega); (case p3 => first | (with_reducible assumption) | omega); (case p4 => with_reducible assumption); (case p5 => first | assumption | decide +kernel)); intro a9 b9 u9 h9 tk9 e9 c1 c2 F9 N9; (all_goals ((try dsimp only); (try k_sweep); (try k_fold))))
        | ((with_reducible show wpAny _ _ (call (Value.ref 246) _) _ _ _); k_dflt (refine' Clm.use (number_ok _ _ _ _ _ _ _ _ _ _ _ _ _ _ _ _ ?p0 ?p1 ?p2 ?p3 ?p4 ?p5 ?p6) ?u1 ?u2 ?u3 ?u4 ?u5 ?u6 ?u7 ?u8 ?_; (case u1 => k_asm); (case u2 => k_asm); (case u3 => k_asm); (case u4 => k_extra "pull"); (case u5 => k_asm); (case u6 => first | exact rfl | assumption); (case u7 => first | exact room1 hdp (Nat.le_of_ble_eq_true rfl) | ktr_room); (case u8 => first | exact units1 hun (Nat.le_of_ble_eq_true rfl) | ktr_units); (case p0 => k_extra "ne"); (case p1 => first | (with_reducible assumption) | assumption | exact ltN (by assumption)); (case p2 => first | (with_reducible assumption) | omega); (case p3 => first | (with_reducible assumption) | omega); (case p4 => with_reducible assumption); (case p5 => exact ⟨by decide, by decide⟩); (case p6 => first | decide | omega)); intro v9 a9 b9 t9 u9 h9 tk9 e9 c1 c2 c3 c4 F9 N9; (all_goals ((try dsimp only); (try k_sweep); (try k_fold)))))
    intro dp un gd cn cs a ccd cl outer A₀ base h₀ L m s Q E B F X N T hk hdp hun hret
    refine wpAny_call ?_
    k_dflt cell_enter
    k_steps
    all_goals (refine' hret _ _ _ _ _ _ _ _ _ _ _ _ _ _ ?e0 ?e3 ?e4 ?e5 ?e6 ?e1 ?e2; (case e1 => k_asm); (case e2 => exact ledger_sub (by k_asm) (by k_extra "mem")); (case e0 => first | exact fin_t (clockF_3 (by with_reducible assumption) (by with_reducible assumption) (by with_reducible assumption) (by with_reducible assumption) (by with_reducible assumption) (by with_reducible assumption) (by with_reducible assumption)) (by with_reducible assumption) (by with_reducible assumption) | exact fin_t (clockF_2 (by with_reducible assumption) (by with_reducible assumption) (by with_reducible assumption) (by with_reducible assumption) (by with_reducible assumption) (by with_reducible assumption)) (by with_reducible assumption) (by with_reducible assumption) | exact fin_t (clockF_1 (by with_reducible assumption) (by with_reducible assumption) (by with_reducible assumption) (by with_reducible assumption)) (by with_reducible assumption) (by with_reducible assumption) | exact fin_f1 (clockF_3 (by with_reducible assumption) (by with_reducible assumption) (by with_reducible assumption) (by with_reducible assumption) (by with_reducible assumption) (by with_reducible assumption) (by with_reducible assumption)) (by with_reducible assumption) | exact fin_f1 (clockF_2 (by with_reducible assumption) (by with_reducible assumption) (by with_reducible assumption) (by with_reducible assumption) (by with_reducible assumption) (by with_reducible assumption)) (by with_reducible assumption) | exact fin_f1 (clockF_1 (by with_reducible assumption) (by with_reducible assumption) (by with_reducible assumption) (by with_reducible assumption)) (by with_reducible assumption) | exact fin_f2 (clockF_3 (by with_reducible assumption) (by with_reducible assumption) (by with_reducible assumption) (by with_reducible assumption) (by with_reducible assumption) (by with_reducible assumption) (by with_reducible assumption)) (by with_reducible assumption) | exact fin_f2 (clockF_2 (by with_reducible assumption) (by with_reducible assumption) (by with_reducible assumption) (by with_reducible assumption) (by with_reducible assumption) (by with_reducible assumption)) (by with_reducible assumption) | exact fin_f2 (clockF_1 (by with_reducible assumption) (by with_reducible assumption) (by with_reducible assumption) (by with_reducible assumption)) (by with_reducible assumption)); (case e3 => first | (with_reducible assumption) | omega); (case e4 => first | (with_reducible assumption) | omega); (case e5 => first | (with_reducible assumption) | omega); (case e6 => k_extra "low")))
end

end

section
local macro_rules | `(tactic| k_room) => `(tactic| ktr_room)
set_option linter.unusedVariables false
variable {w : World} {loose : List Str} {mean : ExcName → Option Value} {mg mb : Str → Option Value} {news : List (Addr × Obj)}

noncomputable abbrev RetW (P : Params) (x : Str) (t1 : Tok) (news : List (Addr × Obj)) (h₀ : Heap) (L : Addr) (m : Str → Option Value) (s : Shared) (Q : Value → Shared → Prop) : Prop :=
  ∀ (rd dx : Addr) (k1 k2 k3 t2 : Tok) (h' : Heap) (tk' : Nat), AllLt dx news → @LT.lt Nat _ dx rd → Fr h₀ L h' m → News h₀ L h' (rdL P rd dx k1 k2 k3 x t1 0 t2 false news) → Q (.ref rd) { s with heap := h', toks := tk' }
section
set_option maxHeartbeats 4000000 in
set_option pp.deepTerms false in
theorem reader_ok (x : Str) (t1 : Tok) : Clm w loose mean mg mb 2 291 [.str x t1] news (RetW w.params x t1 news) := by
  w_on
  w_strict (
    k_with_none
    k_with "sub" => first | exact sub_self | (refine sub_cons ?_; k_extra "sub")
    k_with "compareOp In none ref" => (k_here; k_dflt (first | (refine' none_in_tup (b := false) ?N ?r ?c ?b ?u ?_; (case N => exact News.isTup (by k_asm) (by k_mem)); (case r => rfl); (case c => rfl); (case b => rfl); (case u => ktr_units); k_whole) | (refine' none_in_tup (b := true) ?N ?r ?c ?b ?u ?_; (case N => exact News.isTup (by k_asm) (by k_mem)); (case r => rfl); (case c => rfl); (case b => rfl); (case u => ktr_units); k_whole)))
    k_with "subc" => first | exact sub_self | (refine sub_both ?_; k_extra "subc") | (refine sub_cons ?_; k_extra "subc")
    k_with "low" => first | assumption | exact allLt_of (by assumption) | exact low1 (by assumption) | exact low2 (by assumption) | exact low3 (by assumption) | exact low4 (by assumption)
    k_with "mem" => first | exact sub_self | (k_extra "sub") | (refine List.forall_mem_cons.mpr ⟨?_, ?_⟩; k_mem; k_extra "mem")
    k_with "ne" => first | assumption | exact List.forall_mem_nil _ | exact ne_of_low (by k_extra "low") | (refine' List.forall_mem_cons.mpr ⟨?a, ?b⟩; (case a => k_ne); (case b => k_extra "ne"))
    k_with "pull" => first | k_asm | exact pull1 (by k_asm) | exact pull2 (by k_asm) | exact pull3 (by k_asm) | exact pull4 (by k_asm)
    k_with "memq" => first | with_reducible assumption | exact List.Mem.head _ | (refine' List.Mem.tail _ ?_; k_extra "memq")
    intro dp un gd cn cs a ccd cl outer A₀ base h₀ L m s Q E B F X N T hk hdp hun hret
    k_dflt (refine' call_cls ?k1 ?k2 ?k3 ?k4 ?k5 ?k6 ?_; (case k1 => k_asm); (case k2 => k_asm); (case k3 => k_asm); (case k4 => k_is); (case k5 => k_is); (case k6 => k_is); k_whole; intro x' d' h' F' N' l1 l2; (try k_lt l1); (try k_lt2 l2); (try k_sweep))
    k_dflt cell_enter
    k_steps
    all_goals (refine' hret _ _ _ _ _ _ _ _ ?e3 ?e4 ?e1 ?e2; (case e1 => k_asm); (case e2 => k_asm); (case e3 => k_extra "low"); (case e4 => assumption)))
end

end

section
local macro_rules | `(tactic| k_all) => `(tactic| assumption)
local macro_rules | `(tactic| k_all) => `(tactic| k_extra "ne")
local macro_rules | `(tactic| k_room) => `(tactic| ktr_room)
set_option linter.unusedVariables false
set_option linter.unusedSimpArgs false
variable {w : World} {loose : List Str} {mean : ExcName → Option Value} {mg mb : Str → Option Value} {news : List (Addr × Obj)}

theorem cut_seq {M : Model} {A : Around} {E : Value → Shared → Prop} {env : Env} {st : Stmt} {rest : List Stmt} {Q : Flow → Shared → Prop} {s : Shared} (I : Shared → Prop)
    (h1 : wpAny M A (exec st env) (fun f s' => match f with | .next => I s' | f => Q f s') E s) (h2 : ∀ s', I s' → wpAny M A (execs rest env) Q E s') : wpAny M A (execs (st :: rest) env) Q E s :=
  wpAny_execs_cons (wpAny_mono h1 (fun f s' h => by cases f <;> first | exact h2 _ h | exact h) (fun _ _ h => h))
theorem lt2 {p q r : Prop} (h : p ∧ q ∧ r) : q := h.2.1
theorem fr_self {g h : Heap} {L : Addr} {m : Str → Option Value} {ps : List (Str × Value)} (F : Fr g L h m) (hk : ∀ p ∈ ps, m p.1 = some p.2) : Fr g L h (kstB m ps) := by
  have e : kstB m ps = m := by
    funext z
    exact kstB_eq hk fun _ => rfl
  rw [e]; exact F
noncomputable def dom (y m : Int) : Int := da (m + 1) (leap y) - da m (leap y)
theorem dom_pos {y m : Int} (h0 : 0 ≤ m) (h1 : m ≤ 11) : 1 ≤ da (m + 1) (leap y) - da m (leap y) := by have := da_month (b := leap y) h0 h1; omega
noncomputable def dayMF (x : Str) (y : Int) (m : Int × Int × Bool) : (Int × Int × Int) × Int × Bool :=
  if hasB x m.2.1 m.2.2 (Str.ofString "-") = true then (fun d : Int × Int × Bool => ((y, m.1, d.1), d.2)) (numF x (m.2.1 + (Str.ofString "-").length) m.2.2 2 1 (da (m.1 - 1 + 1) (leap y) - da (m.1 - 1) (leap y))) else ((y, m.1, 1), m.2)
noncomputable def dayYF (x : Str) (y : Int × Int × Bool) : (Int × Int × Int) × Int × Bool :=
  if hasB x y.2.1 y.2.2 (Str.ofString "-") = true then dayMF x y.1 (numF x (y.2.1 + (Str.ofString "-").length) y.2.2 2 1 12) else ((y.1, 1, 1), y.2)
noncomputable def dayF (x : Str) : (Int × Int × Int) × Int × Bool := dayYF x (yearF x 0 false)
noncomputable def restCF (x : Str) (c : (Int × Int × Int × Int) × Int × Bool) : ((Int × Int × Int × Int) × Int) × Int × Bool :=
  if hasB x c.2.1 c.2.2 (Str.ofString "Z") = true then ((c.1, 0), c.2.1 + (Str.ofString "Z").length, c.2.2)
  else if c.2.1 < (x.length : Int) then (fun z : Int × Int × Bool => ((c.1, z.1), z.2)) (zoneF x c.2.1 c.2.2) else ((c.1, 0), c.2)
noncomputable def restF (x : Str) (a : Int) (b : Bool) : ((Int × Int × Int × Int) × Int) × Int × Bool :=
  if hasB x a b (Str.ofString "T") = true then restCF x (clockF x (a + (Str.ofString "T").length) b) else (((0, 0, 0, 0), 0), a, b)
noncomputable def parseRF (x : Str) (d : Int × Int × Int) (r : ((Int × Int × Int × Int) × Int) × Int × Bool) : Option Int :=
  if endsB x r.2.1 r.2.2 = true then clip (mkdate (mkday d.1 (d.2.1 - 1) d.2.2) (mktime r.1.1.1 r.1.1.2.1 r.1.1.2.2.1 r.1.1.2.2.2) - r.1.2 * 60000) else none
noncomputable def parseDF (x : Str) (d : (Int × Int × Int) × Int × Bool) : Option Int := parseRF x d.1 (restF x d.2.1 d.2.2)
noncomputable def parseF (x : Str) : Option Int := parseDF x (dayF x)
section
variable {x : Str} {y m d a a1 a2 a3 h mi v u z : Int} {b b1 b2 b3 : Bool} {c : Int × Int × Int × Int}
theorem dayF_1 (e : yearF x 0 false = (y, a1, b1)) (g : hasB x a1 b1 (Str.ofString "-") = false) : dayF x = ((y, 1, 1), a1, b1) := 
  (congrArg (dayYF x) e).trans (if_neg (nt g))
theorem dayF_2 (e : yearF x 0 false = (y, a1, b1)) (g : hasB x a1 b1 (Str.ofString "-") = true) (e2 : numF x (a1 + (Str.ofString "-").length) b1 2 1 12 = (m, a2, b2)) (g2 : hasB x a2 b2 (Str.ofString "-") = false) :
    dayF x = ((y, m, 1), a2, b2) := 
  (congrArg (dayYF x) e).trans ((if_pos g).trans ((congrArg (dayMF x y) e2).trans (if_neg (nt g2))))
theorem dayF_3 (e : yearF x 0 false = (y, a1, b1)) (g : hasB x a1 b1 (Str.ofString "-") = true) (e2 : numF x (a1 + (Str.ofString "-").length) b1 2 1 12 = (m, a2, b2)) (g2 : hasB x a2 b2 (Str.ofString "-") = true)
    (e3 : numF x (a2 + (Str.ofString "-").length) b2 2 1 (da (m - 1 + 1) (leap y) - da (m - 1) (leap y)) = (d, a3, b3)) : dayF x = ((y, m, d), a3, b3) := 
  (congrArg (dayYF x) e).trans ((if_pos g).trans ((congrArg (dayMF x y) e2).trans ((if_pos g2).trans (congrArg (fun d : Int × Int × Bool => ((y, m, d.1), d.2)) e3))))
theorem restF_1 (g : hasB x a b (Str.ofString "T") = false) : restF x a b = (((0, 0, 0, 0), 0), a, b) := 
  if_neg (nt g)
theorem restF_2 (g : hasB x a b (Str.ofString "T") = true) (e : clockF x (a + (Str.ofString "T").length) b = (c, a1, b1)) (g2 : hasB x a1 b1 (Str.ofString "Z") = true) : restF x a b = ((c, 0), a1 + (Str.ofString "Z").length, b1) := 
  (if_pos g).trans ((congrArg (restCF x) e).trans (if_pos g2))
theorem restF_3 (g : hasB x a b (Str.ofString "T") = true) (e : clockF x (a + (Str.ofString "T").length) b = (c, a1, b1)) (g2 : hasB x a1 b1 (Str.ofString "Z") = false) (l : a1 < (x.length : Int)) (e2 : zoneF x a1 b1 = (z, a2, b2)) :
    restF x a b = ((c, z), a2, b2) := 
  (if_pos g).trans ((congrArg (restCF x) e).trans ((if_neg (nt g2)).trans ((if_pos l).trans (congrArg (fun z : Int × Int × Bool => ((c, z.1), z.2)) e2))))
theorem restF_4 (g : hasB x a b (Str.ofString "T") = true) (e : clockF x (a + (Str.ofString "T").length) b = (c, a1, b1)) (g2 : hasB x a1 b1 (Str.ofString "Z") = false) (l : ¬ a1 < (x.length : Int)) :
    restF x a b = ((c, 0), a1, b1) := 
  (if_pos g).trans ((congrArg (restCF x) e).trans ((if_neg (nt g2)).trans (if_neg l)))
theorem parseF_of {r : Option Int} (e : dayF x = ((y, m, d), a, b)) (e2 : restF x a b = (((h, mi, v, u), z), a1, b1)) (g : endsB x a1 b1 = true) (hc : clip (mkdate (mkday y (m - 1) d) (mktime h mi v u) - z * 60000) = r) : parseF x = r := 
  (congrArg (parseDF x) e).trans ((congrArg (parseRF x (y, m, d)) e2).trans ((if_pos g).trans hc))
theorem parseF_no (e : dayF x = ((y, m, d), a, b)) (e2 : restF x a b = ((c, z), a1, b1)) (g : endsB x a1 b1 = false) : parseF x = none := 
  (congrArg (parseDF x) e).trans ((congrArg (parseRF x (y, m, d)) e2).trans (if_neg (nt g)))
end

inductive Cut1 {g : Heap} {L : Addr} {h : Heap} {m : Str → Option Value} (F0 : Fr g L h m) (P : Params) (x : Str) (t : Tok) (news : List (Addr × Obj)) (s : Shared) : Shared → Prop
  | mk {rd dx C : Addr} {k1 k2 k3 t1 t2 ty tm td tz c1 c2 c3 c4 : Tok} {y mo d a : Int} {b : Bool} {u : Str → Option Value} {h' : Heap} {tk' : Nat}
    (f1 : Fr g L h' (kstB u [(Str.ofString "text", .str x t), (Str.ofString "reader", .ref rd), (Str.ofString "year", .int y ty), (Str.ofString "month", .int mo tm), (Str.ofString "date", .int d td), (Str.ofString "clock", .ref C), (Str.ofString "offset", .int 0 tz)]))
    (f2 : News g L h' (rdL P rd dx k1 k2 k3 x t1 a t2 b ((C, tup4 0 0 0 0 c1 c2 c3 c4) :: news))) (f3 : AllLt dx news) (f4 : @LT.lt Nat _ dx rd) (f5 : @LT.lt Nat _ dx C) (f6 : dayF x = ((y, mo, d), a, b)) (f7 : 0 ≤ a) (f8 : a ≤ (x.length : Int)) :
    Cut1 F0 P x t news s { s with heap := h', toks := tk' }
inductive Cut2 {g : Heap} {L : Addr} {h : Heap} {m : Str → Option Value} (F0 : Fr g L h m) (P : Params) (x : Str) (t : Tok) (news : List (Addr × Obj)) (s : Shared) : Shared → Prop
  | mk {rd dx C : Addr} {k1 k2 k3 t1 t2 ty tm td tz c1 c2 c3 c4 : Tok} {y mo d a z hh mi ss us a' : Int} {b b' : Bool} {u : Str → Option Value} {h' : Heap} {tk' : Nat}
    (f1 : Fr g L h' (kstB u [(Str.ofString "reader", .ref rd), (Str.ofString "year", .int y ty), (Str.ofString "month", .int mo tm), (Str.ofString "date", .int d td), (Str.ofString "clock", .ref C), (Str.ofString "offset", .int z tz)]))
    (f2 : News g L h' (rdL P rd dx k1 k2 k3 x t1 a' t2 b' ((C, tup4 hh mi ss us c1 c2 c3 c4) :: news))) (f3 : AllLt dx news) (f4 : @LT.lt Nat _ dx rd) (f5 : @LT.lt Nat _ dx C) (f6 : dayF x = ((y, mo, d), a, b)) (f9 : restF x a b = (((hh, mi, ss, us), z), a', b')) (f7 : 0 ≤ a') (f8 : a' ≤ (x.length : Int)) :
    Cut2 F0 P x t news s { s with heap := h', toks := tk' }
section
set_option maxHeartbeats 4000000 in
set_option pp.deepTerms false in
theorem parse_iso_ok (x : Str) (t : Tok) (hx : x.length ≤ 100) : Clm w loose mean mg mb 9 309 [.str x t] news (RetO news (parseF x)) := by
  w_on
  w_strict (
    k_with_none
    k_with "sub" => first | exact sub_self | (refine sub_cons ?_; k_extra "sub")
    k_with "compareOp In none ref" => (k_here; k_dflt (first | (refine' none_in_tup (b := false) ?N ?r ?c ?b ?u ?_; (case N => exact News.isTup (by k_asm) (by k_mem)); (case r => rfl); (case c => rfl); (case b => rfl); (case u => ktr_units); k_whole) | (refine' none_in_tup (b := true) ?N ?r ?c ?b ?u ?_; (case N => exact News.isTup (by k_asm) (by k_mem)); (case r => rfl); (case c => rfl); (case b => rfl); (case u => ktr_units); k_whole)))
    k_with "subc" => first | exact sub_self | (refine sub_both ?_; k_extra "subc") | (refine sub_cons ?_; k_extra "subc")
    k_with "low" => first | assumption | exact allLt_of (by assumption) | exact low1 (by assumption) | exact low2 (by assumption) | exact low3 (by assumption) | exact low4 (by assumption)
    k_with "mem" => first | exact sub_self | (k_extra "sub") | (refine List.forall_mem_cons.mpr ⟨?_, ?_⟩; k_mem; k_extra "mem")
    k_with "ne" => first | assumption | exact List.forall_mem_nil _ | exact ne_of_low (by k_extra "low") | (refine' List.forall_mem_cons.mpr ⟨?a, ?b⟩; (case a => k_ne); (case b => k_extra "ne"))
    k_with "pull" => first | k_asm | exact pull1 (by k_asm) | exact pull2 (by k_asm) | exact pull3 (by k_asm) | exact pull4 (by k_asm)
    k_with "memq" => first | with_reducible assumption | exact List.Mem.head _ | (refine' List.Mem.tail _ ?_; k_extra "memq")
    k_with "call ref" => (first
        | ((with_reducible show wpAny _ _ (call (Value.ref 291) _) _ _ _); k_dflt (refine' Clm.use (reader_ok _ _ ) ?u1 ?u2 ?u3 ?u4 ?u5 ?u6 ?u7 ?u8 ?_; (case u1 => k_asm); (case u2 => k_asm); (case u3 => k_asm); (case u4 => k_asm); (case u5 => k_asm); (case u6 => first | exact rfl | assumption); (case u7 => first | exact room1 hdp (Nat.le_of_ble_eq_true rfl) | ktr_room); (case u8 => first | exact units1 hun (Nat.le_of_ble_eq_true rfl) | ktr_units)); intro rd9 dx9 k1 k2 k3 t2 h9 tk9 l9 l8 F9 N9; (try simp only [AllLt, and_true] at l9); (all_goals ((try dsimp only); (try k_sweep); (try k_fold))))
        | ((with_reducible show wpAny _ _ (call (Value.ref 267) _) _ _ _); k_dflt (refine' Clm.use (year_ok _ _ _ _ _ _ _ _ _ _ ?p0 ?p1 ?p2 ?p3 ?p4) ?u1 ?u2 ?u3 ?u4 ?u5 ?u6 ?u7 ?u8 ?_; (case u1 => k_asm); (case u2 => k_asm); (case u3 => k_asm); (case u4 => k_extra "pull"); (case u5 => k_asm); (case u6 => first | exact rfl | assumption); (case u7 => first | exact room1 hdp (Nat.le_of_ble_eq_true rfl) | ktr_room); (case u8 => first | exact units1 hun (Nat.le_of_ble_eq_true rfl) | ktr_units); (case p0 => k_extra "ne"); (case p1 => first | (with_reducible assumption) | assumption | exact ltN (by assumption)); (case p2 => first | (with_reducible assumption) | omega); (case p3 => first | (with_reducible assumption) | omega); (case p4 => with_reducible assumption)); intro v9 a9 b9 t9 u9 h9 tk9 e9 c1 c2 c3 c4 F9 N9; (all_goals ((try dsimp only); (try k_sweep); (try k_fold))))
        | ((with_reducible show wpAny _ _ (call (Value.ref 232) _) _ _ _); k_dflt (refine' Clm.use (has_ok _ _ _ _ _ _ _ _ _ _ _ _ ?p0 ?p1 ?p2 ?p3 ?p4 ?p5) ?u1 ?u2 ?u3 ?u4 ?u5 ?u6 ?u7 ?u8 ?_; (case u1 => k_asm); (case u2 => k_asm); (case u3 => k_asm); (case u4 => k_extra "pull"); (case u5 => k_asm); (case u6 => first | exact rfl | assumption); (case u7 => first | exact room1 hdp (Nat.le_of_ble_eq_true rfl) | ktr_room); (case u8 => first | exact units1 hun (Nat.le_of_ble_eq_true rfl) | ktr_units); (case p0 => k_extra "ne"); (case p1 => first | (with_reducible assumption) | assumption | exact ltN (by assumption)); (case p2 => first | (with_reducible assumption) | omega); (case p3 => first | (with_reducible assumption) | omega); (case p4 => with_reducible assumption); (case p5 => first | assumption | decide +kernel)); refine' ⟨fun e9 h9 tk9 F9 N9 => ?_, fun e9 c9 d9 t9 h9 tk9 F9 N9 => ?_⟩; (all_goals ((try dsimp only); (try k_sweep); (try k_fold))))
        | ((with_reducible show wpAny _ _ (call (Value.ref 246) _) _ _ _); k_dflt (refine' Clm.use (number_ok _ _ _ _ _ _ _ _ _ _ _ _ _ _ _ _ ?p0 ?p1 ?p2 ?p3 ?p4 ?p5 ?p6) ?u1 ?u2 ?u3 ?u4 ?u5 ?u6 ?u7 ?u8 ?_; (case u1 => k_asm); (case u2 => k_asm); (case u3 => k_asm); (case u4 => k_extra "pull"); (case u5 => k_asm); (case u6 => first | exact rfl | assumption); (case u7 => first | exact room1 hdp (Nat.le_of_ble_eq_true rfl) | ktr_room); (case u8 => first | exact units1 hun (Nat.le_of_ble_eq_true rfl) | ktr_units); (case p0 => k_extra "ne"); (case p1 => first | (with_reducible assumption) | assumption | exact ltN (by assumption)); (case p2 => first | (with_reducible assumption) | omega); (case p3 => first | (with_reducible assumption) | omega); (case p4 => with_reducible assumption); (case p5 => exact ⟨by decide, by decide⟩); (case p6 => first | decide | omega | exact dom_pos (by omega) (by omega))); intro v9 a9 b9 t9 u9 h9 tk9 e9 c1 c2 c3 c4 F9 N9; (all_goals ((try dsimp only); (try k_sweep); (try k_fold))))
        | ((with_reducible show wpAny _ _ (call (Value.ref 85) _) _ _ _); k_dflt (refine' Clm.use (days_of_month_ok _ _ _ _ ?p0 ?p1) ?u1 ?u2 ?u3 ?u4 ?u5 ?u6 ?u7 ?u8 ?_; (case u1 => k_asm); (case u2 => k_asm); (case u3 => k_asm); (case u4 => k_asm); (case u5 => k_asm); (case u6 => first | exact rfl | assumption); (case u7 => first | exact room1 hdp (Nat.le_of_ble_eq_true rfl) | ktr_room); (case u8 => first | exact units1 hun (Nat.le_of_ble_eq_true rfl) | ktr_units); (case p0 => omega); (case p1 => omega)); intro t9 h9 tk9 F9 N9; (all_goals ((try dsimp only); (try k_sweep); (try k_fold))))
        | ((with_reducible show wpAny _ _ (call (Value.ref 302) _) _ _ _); k_dflt (refine' Clm.use (iso_clock_ok _ _ _ _ _ _ _ _ _ _ ?p0 ?p1 ?p2 ?p3 ?p4) ?u1 ?u2 ?u3 ?u4 ?u5 ?u6 ?u7 ?u8 ?_; (case u1 => k_asm); (case u2 => k_asm); (case u3 => k_asm); (case u4 => k_extra "pull"); (case u5 => k_asm); (case u6 => first | exact rfl | assumption); (case u7 => first | exact room1 hdp (Nat.le_of_ble_eq_true rfl) | ktr_room); (case u8 => first | exact units1 hun (Nat.le_of_ble_eq_true rfl) | ktr_units); (case p0 => k_extra "ne"); (case p1 => first | (with_reducible assumption) | assumption | exact ltN (by assumption)); (case p2 => first | (with_reducible assumption) | omega); (case p3 => first | (with_reducible assumption) | omega); (case p4 => with_reducible assumption)); intro q9 hh mm ss ms a9 b9 t1 t2 t3 t4 u9 h9 tk9 e9 c1 c2 l9 l8 F9 N9; (try simp only [AllLt, and_true] at l8); (all_goals ((try dsimp only); (try k_sweep); (try k_fold))))
        | ((with_reducible show wpAny _ _ (call (Value.ref 288) _) _ _ _); k_dflt (refine' Clm.use (zone_ok _ _ _ _ _ _ _ _ _ _ ?p0 ?p1 ?p2 ?p3 ?p4) ?u1 ?u2 ?u3 ?u4 ?u5 ?u6 ?u7 ?u8 ?_; (case u1 => k_asm); (case u2 => k_asm); (case u3 => k_asm); (case u4 => k_extra "pull"); (case u5 => k_asm); (case u6 => first | exact rfl | assumption); (case u7 => first | exact room1 hdp (Nat.le_of_ble_eq_true rfl) | ktr_room); (case u8 => first | exact units1 hun (Nat.le_of_ble_eq_true rfl) | ktr_units); (case p0 => k_extra "ne"); (case p1 => first | (with_reducible assumption) | assumption | exact ltN (by assumption)); (case p2 => first | (with_reducible assumption) | omega); (case p3 => first | (with_reducible assumption) | omega); (case p4 => with_reducible assumption)); intro v9 a9 b9 t9 u9 h9 tk9 e9 c1 c2 c3 c4 F9 N9; (all_goals ((try dsimp only); (try k_sweep); (try k_fold))))
        | ((with_reducible show wpAny _ _ (call (Value.ref 260) _) _ _ _); k_dflt (refine' Clm.use (ends_ok _ _ _ _ _ _ _ _ _ _ ?p0 ?p1 ?p2 ?p3 ?p4) ?u1 ?u2 ?u3 ?u4 ?u5 ?u6 ?u7 ?u8 ?_; (case u1 => k_asm); (case u2 => k_asm); (case u3 => k_asm); (case u4 => k_extra "pull"); (case u5 => k_asm); (case u6 => first | exact rfl | assumption); (case u7 => first | exact room1 hdp (Nat.le_of_ble_eq_true rfl) | ktr_room); (case u8 => first | exact units1 hun (Nat.le_of_ble_eq_true rfl) | ktr_units); (case p0 => k_extra "ne"); (case p1 => first | (with_reducible assumption) | assumption | exact ltN (by assumption)); (case p2 => first | (with_reducible assumption) | omega); (case p3 => first | (with_reducible assumption) | omega); (case p4 => with_reducible assumption)); intro t9 h9 tk9 F9 N9; (all_goals ((try dsimp only); (try k_sweep); (try k_fold))))
        | ((with_reducible show wpAny _ _ (call (Value.ref 169) _) _ _ _); k_dflt (refine' Clm.use (time_of_fields_ok _ _ _ _ _ _ _ _ _ _ _ _ _ _ _ ?p0) ?u1 ?u2 ?u3 ?u4 ?u5 ?u6 ?u7 ?u8 ?_; (case u1 => k_asm); (case u2 => k_asm); (case u3 => k_asm); (case u4 => k_asm); (case u5 => k_asm); (case u6 => first | exact rfl | assumption); (case u7 => first | exact room1 hdp (Nat.le_of_ble_eq_true rfl) | ktr_room); (case u8 => first | exact units1 hun (Nat.le_of_ble_eq_true rfl) | ktr_units); (case p0 => k_mem)); intro t9 h9 tk9 F9 N9; (all_goals ((try dsimp only); (try k_sweep); (try k_fold))))
        | ((with_reducible show wpAny _ _ (call (Value.ref 176) _) _ _ _); k_dflt (refine' Clm.use (utc_of_ok _ _ _ _ ) ?u1 ?u2 ?u3 ?u4 ?u5 ?u6 ?u7 ?u8 ?_; (case u1 => k_asm); (case u2 => k_asm); (case u3 => k_asm); (case u4 => k_asm); (case u5 => k_asm); (case u6 => first | exact rfl | assumption); (case u7 => first | exact room1 hdp (Nat.le_of_ble_eq_true rfl) | ktr_room); (case u8 => first | exact units1 hun (Nat.le_of_ble_eq_true rfl) | ktr_units)); intro t9 h9 tk9 F9 N9; (all_goals ((try dsimp only); (try k_sweep); (try k_fold))))
        | ((with_reducible show wpAny _ _ (call (Value.ref 162) _) _ _ _); k_dflt (refine' Clm.use (time_clip_ok _ _ ) ?u1 ?u2 ?u3 ?u4 ?u5 ?u6 ?u7 ?u8 ?_; (case u1 => k_asm); (case u2 => k_asm); (case u3 => k_asm); (case u4 => k_asm); (case u5 => k_asm); (case u6 => first | exact rfl | assumption); (case u7 => first | exact room1 hdp (Nat.le_of_ble_eq_true rfl) | ktr_room); (case u8 => first | exact units1 hun (Nat.le_of_ble_eq_true rfl) | ktr_units)); refine' ⟨fun e9 h9 tk9 F9 N9 => ?_, fun i9 e9 t9 h9 tk9 F9 N9 => ?_⟩; (all_goals ((try dsimp only); (try k_sweep); (try k_fold)))))
    k_with "execs cons" => (k_dflt (((with_reducible show wpAny _ _ (execs [Stmt.If _ _ _ _, Stmt.If _ _ _ _, Stmt.If _ _ _ _, Stmt.Return _ _] _) _ _ _)); (rename Fr _ _ _ _ => F8); (refine cut_seq (Cut1 F8 w.params x t news s) ?_ ?_); rotate_left; (intro s9 hI; obtain ⟨F9, N9, l1, l2, l3, eD, v1, v2⟩ := hI; clear F8; (try k_sweep); (try k_fold)); rotate_right; (try k_fold)))
    k_with "execs cons" => (k_dflt (((with_reducible show wpAny _ _ (execs [Stmt.If _ _ _ _, Stmt.If _ _ _ _, Stmt.Return _ _] _) _ _ _)); (rename Fr _ _ _ _ => F8); (refine cut_seq (Cut2 F8 w.params x t news s) ?_ ?_); rotate_left; (intro s9 hI; obtain ⟨F9, N9, l1, l2, l3, eD, eR, v1, v2⟩ := hI; clear F8; (try k_sweep); (try k_fold)); rotate_right; (try k_fold)))
    intro dp un gd cn cs a ccd cl outer A₀ base h₀ L m s Q E B F X N T hk hdp hun hret
    refine wpAny_call ?_
    k_dflt cell_enter
    k_steps
    all_goals (first | (refine' Cut1.mk ?f1 ?f2 ?f3 ?f4 ?f5 ?f6 ?f7 ?f8; (case f1 => exact fr_self (by k_asm) (by (repeat (refine List.forall_mem_cons.mpr ⟨by with_unfolding_all rfl, ?_⟩)); (intro _ h9; exact nomatch h9))); (case f2 => exact ledger_sub (by k_asm) (by k_extra "mem")); (case f6 => exact (by first | exact dayF_3 (by with_reducible assumption) (by with_reducible assumption) (by with_reducible assumption) (by with_reducible assumption) (by with_reducible assumption) | exact dayF_2 (by with_reducible assumption) (by with_reducible assumption) (by with_reducible assumption) (by with_reducible assumption) | exact dayF_1 (by with_reducible assumption) (by with_reducible assumption))); (case f3 => k_extra "low"); (case f4 => first | (with_reducible assumption) | omega); (case f5 => first | (with_reducible assumption) | exact lt2 (by with_reducible assumption) | omega); (case f7 => first | (with_reducible assumption) | omega); (case f8 => first | (with_reducible assumption) | omega)) | (refine' Cut2.mk ?f1 ?f2 ?f3 ?f4 ?f5 ?f6 ?f9 ?f7 ?f8; (case f1 => exact fr_self (by k_asm) (by (repeat (refine List.forall_mem_cons.mpr ⟨by with_unfolding_all rfl, ?_⟩)); (intro _ h9; exact nomatch h9))); (case f2 => exact ledger_sub (by k_asm) (by k_extra "mem")); (case f6 => with_reducible assumption); (case f9 => exact (by first | exact restF_3 (by with_reducible assumption) (by with_reducible assumption) (by with_reducible assumption) (by with_reducible assumption) (by with_reducible assumption) | exact restF_4 (by with_reducible assumption) (by with_reducible assumption) (by with_reducible assumption) (by with_reducible assumption) | exact restF_2 (by with_reducible assumption) (by with_reducible assumption) (by with_reducible assumption) | exact restF_1 (by with_reducible assumption))); (case f3 => k_extra "low"); (case f4 => first | (with_reducible assumption) | omega); (case f5 => first | (with_reducible assumption) | exact lt2 (by with_reducible assumption) | omega); (case f7 => first | (with_reducible assumption) | omega); (case f8 => first | (with_reducible assumption) | omega)) | (refine' hret.1 ?e0 _ _ ?e1 ?e2; (case e1 => k_asm); (case e2 => exact ledger_sub (by k_asm) (by k_extra "mem")); (case e0 => first | exact parseF_no (by with_reducible assumption) (by with_reducible assumption) (by with_reducible assumption) | exact parseF_of (by with_reducible assumption) (by with_reducible assumption) (by with_reducible assumption) (by with_reducible assumption))) | (refine' hret.2 _ ?e0 _ _ _ ?e1 ?e2; (case e1 => k_asm); (case e2 => exact ledger_sub (by k_asm) (by k_extra "mem")); (case e0 => exact parseF_of (by with_reducible assumption) (by with_reducible assumption) (by with_reducible assumption) (by with_reducible assumption)))))
end

end

noncomputable def digs (n : Nat) : List Nat := (Nat.toDigits 10 n).map Char.toNat
theorem digitCharF : ∀ i : Fin 10, (Nat.digitChar i.val).toNat = 48 + i.val := by decide +kernel
theorem digitChar_nat {k : Nat} (h : k < 10) : (Nat.digitChar k).toNat = 48 + k := digitCharF ⟨k, h⟩
theorem digs_lt {n : Nat} (h : n < 10) : digs n = [48 + n] := by
  unfold digs; rw [Nat.toDigits_of_lt_base h]; simp [digitChar_nat h]
theorem digs_ge {n : Nat} (h : 10 ≤ n) : digs n = digs (n / 10) ++ [48 + n % 10] := by
  unfold digs; rw [Nat.toDigits_of_base_le (by decide) h]; simp [digitChar_nat (Nat.mod_lt n (by decide : 0 < 10))]
theorem padL_zero (w : Nat) : padL 0 w = List.replicate w 48 := by
  induction w with
  | zero => unfold padL; rfl
  | succ w ih =>
    rw [padL_eq]
    rw [if_neg (by omega)]
    simp only [Nat.zero_div, Nat.add_sub_cancel, ih, Nat.zero_mod, Nat.add_zero]
    rw [List.replicate_succ']
theorem padL_digs (n w : Nat) (h : 1 ≤ w ∨ 1 ≤ n) : padL n w = List.replicate (w - (digs n).length) 48 ++ digs n := by
  have np : ∀ {n w : Nat}, 1 ≤ w ∨ 1 ≤ n → ¬ (n = 0 ∧ w = 0) := fun h g => h.elim (fun a => absurd g.2 (Nat.ne_of_gt a)) (fun a => absurd g.1 (Nat.ne_of_gt a))
  induction n using Nat.strongRecOn generalizing w with
  | ind n ih =>
    by_cases hn : n < 10
    · rw [digs_lt hn]
      rw [padL_eq]
      rw [if_neg (np h), Nat.div_eq_of_lt hn, padL_zero, Nat.mod_eq_of_lt hn]
      simp only [List.length_cons, List.length_nil]
    · have hn' := Nat.not_lt.mp hn
      rw [digs_ge hn']
      rw [padL_eq]
      rw [if_neg (np h), ih (n / 10) (Nat.div_lt_self (Nat.lt_of_lt_of_le (by decide) hn') (by decide)) (w - 1) (.inr (Nat.div_pos hn' (by decide)))]
      simp only [List.length_append, List.length_cons, List.length_nil]
      rw [List.append_assoc, show w - 1 - (digs (n / 10)).length = w - ((digs (n / 10)).length + (0 + 1)) by rw [Nat.sub_sub, Nat.add_comm 1]]
theorem cps_nat (n : Nat) : (Str.ofString (toString (n : Int))).cps.toList = digs n := by
  rw [Str.ofString_eq_toList]
  show List.map Char.toNat (Int.repr (Int.ofNat n)).toList = _
  show List.map Char.toNat (Nat.repr n).toList = _
  rw [Nat.repr_eq_ofList_toDigits, String.toList_ofList]; rfl
theorem wide_pad {n wd : Int} (h0 : 0 ≤ n) (hw : 1 ≤ wd) : Txt.mul (Str.ofString "0") (wd - ((Str.ofString (toString n)).length : Int)) ++ Str.ofString (toString n) = padS n.toNat wd.toNat := by
  obtain ⟨k, rfl⟩ := Int.eq_ofNat_of_zero_le (Int.le_trans (by decide) hw)
  obtain ⟨m, rfl⟩ := Int.eq_ofNat_of_zero_le h0
  have e0 : Str.ofString "0" = ⟨#[48]⟩ := by decide +kernel
  have e1 := cps_nat m
  have e2 : (Str.ofString (toString (m : Int))).length = (digs m).length := by rw [← e1]; simp [Str.length]
  apply Str.ext'
  apply Array.toList_inj.mp
  rw [Str.cps_append, Array.toList_append, e0, mul_one_list, e1, e2]
  show _ = padL m k
  rw [padL_digs _ _ (.inl (Int.ofNat_le.mp hw)), Int.toNat_sub]

section
set_option linter.unusedVariables false
set_option linter.unusedSimpArgs false
variable {w : World} {loose : List Str} {mean : ExcName → Option Value} {mg mb : Str → Option Value} {news : List (Addr × Obj)}

theorem da_lo : ∀ (i : Fin 12) (b : Bool), (i.val : Int) + 1 < 3 → da i.val b = (153 * ((i.val : Int) + 1 + 12 - 3) + 2) / 5 - 306 := by decide +kernel
theorem da_hi : ∀ (i : Fin 12) (b : Bool), ¬ (i.val : Int) + 1 < 3 → da i.val b = (153 * ((i.val : Int) + 1 - 3) + 2) / 5 + 59 + if b = true then 1 else 0 := by decide +kernel
theorem mod12_fin (y : Int) : ∃ i : Fin 12, y % 12 = (i.val : Int) :=
  ⟨⟨(y % 12).toNat, (Int.toNat_lt (Int.emod_nonneg y (by decide))).mpr (Int.emod_lt_of_pos y (by decide))⟩, (Int.toNat_of_nonneg (Int.emod_nonneg y (by decide))).symm⟩
theorem count_a {x y z : Int} (h : y.fmod 12 + 1 < 3) : 365 * (x + y.fdiv 12 - 1) + (x + y.fdiv 12 - 1).fdiv 4 - (x + y.fdiv 12 - 1).fdiv 100 + (x + y.fdiv 12 - 1).fdiv 400 + ((153 * (y.fmod 12 + 1 + 12 - 3) + 2).fdiv 5 + z - 1) - 719468 = mkday x y z := by
  unfold mkday
  rw [Int.fmod_eq_emod_of_nonneg _ (by decide)] at h ⊢
  rw [Int.fdiv_eq_ediv_of_nonneg y (by decide : (0:Int) ≤ 12), Int.fdiv_eq_ediv_of_nonneg _ (by decide : (0:Int) ≤ 4), Int.fdiv_eq_ediv_of_nonneg _ (by decide : (0:Int) ≤ 100), Int.fdiv_eq_ediv_of_nonneg _ (by decide : (0:Int) ≤ 400), Int.fdiv_eq_ediv_of_nonneg _ (by decide : (0:Int) ≤ 5)]
  obtain ⟨i, e⟩ := mod12_fin y
  rw [e] at h ⊢
  rw [da_lo i _ h, dfy_alt]
  generalize (153 * ((i.val : Int) + 1 + 12 - 3) + 2) / 5 = u
  clear h e
  generalize x + y / 12 = Y
  generalize (Y - 1) / 4 = a, (Y - 1) / 100 = b, (Y - 1) / 400 = c
  omega
theorem count_b {x y z : Int} (h : ¬ y.fmod 12 + 1 < 3) : 365 * (x + y.fdiv 12) + (x + y.fdiv 12).fdiv 4 - (x + y.fdiv 12).fdiv 100 + (x + y.fdiv 12).fdiv 400 + ((153 * (y.fmod 12 + 1 - 3) + 2).fdiv 5 + z - 1) - 719468 = mkday x y z := by
  unfold mkday
  rw [Int.fmod_eq_emod_of_nonneg _ (by decide)] at h ⊢
  rw [Int.fdiv_eq_ediv_of_nonneg y (by decide : (0:Int) ≤ 12), Int.fdiv_eq_ediv_of_nonneg _ (by decide : (0:Int) ≤ 4), Int.fdiv_eq_ediv_of_nonneg _ (by decide : (0:Int) ≤ 100), Int.fdiv_eq_ediv_of_nonneg _ (by decide : (0:Int) ≤ 400), Int.fdiv_eq_ediv_of_nonneg _ (by decide : (0:Int) ≤ 5)]
  obtain ⟨i, e⟩ := mod12_fin y
  rw [e] at h ⊢
  rw [da_hi i _ h, dfy_alt, leap_days]
  generalize (153 * ((i.val : Int) + 1 - 3) + 2) / 5 = u
  clear h e
  generalize x + y / 12 = Y
  generalize (Y - 1) / 4 = a, (Y - 1) / 100 = b, (Y - 1) / 400 = c, Y / 4 = d, Y / 100 = e, Y / 400 = f
  omega
section
set_option maxHeartbeats 4000000 in
set_option pp.deepTerms false in
theorem law_count_ok (x y z : Int) (t t1 t2 : Tok) : Clm w loose mean mg mb 1 323 [.int x t, .int y t1, .int z t2] news (RetV news fun t => .int (mkday x y z) t) := by
  w_on
  w_strict (
    k_with_none
    k_with "sub" => first | exact sub_self | (refine sub_cons ?_; k_extra "sub")
    k_with "compareOp In none ref" => (k_here; k_dflt (first | (refine' none_in_tup (b := false) ?N ?r ?c ?b ?u ?_; (case N => exact News.isTup (by k_asm) (by k_mem)); (case r => rfl); (case c => rfl); (case b => rfl); (case u => ktr_units); k_whole) | (refine' none_in_tup (b := true) ?N ?r ?c ?b ?u ?_; (case N => exact News.isTup (by k_asm) (by k_mem)); (case r => rfl); (case c => rfl); (case b => rfl); (case u => ktr_units); k_whole)))
    k_with "subc" => first | exact sub_self | (refine sub_both ?_; k_extra "subc") | (refine sub_cons ?_; k_extra "subc")
    k_with "low" => first | assumption | exact allLt_of (by assumption) | exact low1 (by assumption) | exact low2 (by assumption) | exact low3 (by assumption) | exact low4 (by assumption)
    k_with "mem" => first | exact sub_self | (k_extra "sub") | (refine List.forall_mem_cons.mpr ⟨?_, ?_⟩; k_mem; k_extra "mem")
    k_with "ne" => first | assumption | exact List.forall_mem_nil _ | exact ne_of_low (by k_extra "low") | (refine' List.forall_mem_cons.mpr ⟨?a, ?b⟩; (case a => k_ne); (case b => k_extra "ne"))
    k_with "pull" => first | k_asm | exact pull1 (by k_asm) | exact pull2 (by k_asm) | exact pull3 (by k_asm) | exact pull4 (by k_asm)
    k_with "memq" => first | with_reducible assumption | exact List.Mem.head _ | (refine' List.Mem.tail _ ?_; k_extra "memq")
    intro dp un gd cn cs a ccd cl outer A₀ base h₀ L m s Q E B F X N T hk hdp hun hret
    refine wpAny_call ?_
    k_dflt cell_enter
    k_steps
    all_goals (refine' endI hret ?e1 ?e2 ?e3 ?e4; (case e2 => k_asm); (case e3 => k_asm); (case e4 => k_extra "sub"); (case e1 => first | with_reducible exact count_a (by with_reducible assumption) | with_reducible exact count_b (by with_reducible assumption) | exact count_a (by assumption) | exact count_b (by assumption))))
end

section
set_option maxHeartbeats 4000000 in
set_option pp.deepTerms false in
theorem law_near_ok (x : Int) (t : Tok) : Clm w loose mean mg mb 1 365 [.int x t] news (RetO news (clip x)) := by
  w_on
  w_strict (
    k_with_none
    k_with "sub" => first | exact sub_self | (refine sub_cons ?_; k_extra "sub")
    k_with "compareOp In none ref" => (k_here; k_dflt (first | (refine' none_in_tup (b := false) ?N ?r ?c ?b ?u ?_; (case N => exact News.isTup (by k_asm) (by k_mem)); (case r => rfl); (case c => rfl); (case b => rfl); (case u => ktr_units); k_whole) | (refine' none_in_tup (b := true) ?N ?r ?c ?b ?u ?_; (case N => exact News.isTup (by k_asm) (by k_mem)); (case r => rfl); (case c => rfl); (case b => rfl); (case u => ktr_units); k_whole)))
    k_with "subc" => first | exact sub_self | (refine sub_both ?_; k_extra "subc") | (refine sub_cons ?_; k_extra "subc")
    k_with "low" => first | assumption | exact allLt_of (by assumption) | exact low1 (by assumption) | exact low2 (by assumption) | exact low3 (by assumption) | exact low4 (by assumption)
    k_with "mem" => first | exact sub_self | (k_extra "sub") | (refine List.forall_mem_cons.mpr ⟨?_, ?_⟩; k_mem; k_extra "mem")
    k_with "ne" => first | assumption | exact List.forall_mem_nil _ | exact ne_of_low (by k_extra "low") | (refine' List.forall_mem_cons.mpr ⟨?a, ?b⟩; (case a => k_ne); (case b => k_extra "ne"))
    k_with "pull" => first | k_asm | exact pull1 (by k_asm) | exact pull2 (by k_asm) | exact pull3 (by k_asm) | exact pull4 (by k_asm)
    k_with "memq" => first | with_reducible assumption | exact List.Mem.head _ | (refine' List.Mem.tail _ ?_; k_extra "memq")
    intro dp un gd cn cs a ccd cl outer A₀ base h₀ L m s Q E B F X N T hk hdp hun hret
    refine wpAny_call ?_
    k_dflt cell_enter
    k_steps
    all_goals (first | (refine' hret.2 _ ?e0 _ _ _ ?e1 ?e2; (case e0 => (unfold clip; rw [if_pos (by omega)])); (case e1 => k_asm); (case e2 => k_asm)) | (refine' hret.1 ?e0 _ _ ?e1 ?e2; (case e0 => (unfold clip; rw [if_neg (by omega)])); (case e1 => k_asm); (case e2 => k_asm))))
end

section
set_option maxHeartbeats 4000000 in
set_option pp.deepTerms false in
theorem law_wide_ok (n₀ wd : Int) (t t1 : Tok) (h0 : 0 ≤ n₀) (h1 : n₀ < 1000000) (h2 : 1 ≤ wd) (h3 : wd ≤ 10) : Clm w loose mean mg mb 1 337 [.int n₀ t, .int wd t1] news (RetS news (padS n₀.toNat wd.toNat) 20) := by
  w_on
  w_strict (
    k_with_none
    k_with "sub" => first | exact sub_self | (refine sub_cons ?_; k_extra "sub")
    k_with "compareOp In none ref" => (k_here; k_dflt (first | (refine' none_in_tup (b := false) ?N ?r ?c ?b ?u ?_; (case N => exact News.isTup (by k_asm) (by k_mem)); (case r => rfl); (case c => rfl); (case b => rfl); (case u => ktr_units); k_whole) | (refine' none_in_tup (b := true) ?N ?r ?c ?b ?u ?_; (case N => exact News.isTup (by k_asm) (by k_mem)); (case r => rfl); (case c => rfl); (case b => rfl); (case u => ktr_units); k_whole)))
    k_with "subc" => first | exact sub_self | (refine sub_both ?_; k_extra "subc") | (refine sub_cons ?_; k_extra "subc")
    k_with "low" => first | assumption | exact allLt_of (by assumption) | exact low1 (by assumption) | exact low2 (by assumption) | exact low3 (by assumption) | exact low4 (by assumption)
    k_with "mem" => first | exact sub_self | (k_extra "sub") | (refine List.forall_mem_cons.mpr ⟨?_, ?_⟩; k_mem; k_extra "mem")
    k_with "ne" => first | assumption | exact List.forall_mem_nil _ | exact ne_of_low (by k_extra "low") | (refine' List.forall_mem_cons.mpr ⟨?a, ?b⟩; (case a => k_ne); (case b => k_extra "ne"))
    k_with "pull" => first | k_asm | exact pull1 (by k_asm) | exact pull2 (by k_asm) | exact pull3 (by k_asm) | exact pull4 (by k_asm)
    k_with "memq" => first | with_reducible assumption | exact List.Mem.head _ | (refine' List.Mem.tail _ ?_; k_extra "memq")
    intro dp un gd cn cs a ccd cl outer A₀ base h₀ L m s Q E B F X N T hk hdp hun hret
    refine wpAny_call ?_
    k_dflt cell_enter
    k_steps
    all_goals (refine' endT hret ?e1 ?e2 ?e3 ?e4 ?e5; (case e2 => k_asm); (case e3 => k_asm); (case e4 => k_extra "sub"); (case e5 => (rw [wide_pad h0 h2]; exact padS_le h1 (by omega))); (case e1 => exact wide_pad h0 h2)))
end

section
set_option maxHeartbeats 4000000 in
set_option pp.deepTerms false in
theorem law_year_ok (y : Int) (t : Tok) (h0 : -300000 ≤ y) (h1 : y ≤ 300000) : Clm w loose mean mg mb 2 344 [.int y t] news (RetS news (isoYear y) 30) := by
  w_on
  w_strict (
    k_with_none
    k_with "sub" => first | exact sub_self | (refine sub_cons ?_; k_extra "sub")
    k_with "compareOp In none ref" => (k_here; k_dflt (first | (refine' none_in_tup (b := false) ?N ?r ?c ?b ?u ?_; (case N => exact News.isTup (by k_asm) (by k_mem)); (case r => rfl); (case c => rfl); (case b => rfl); (case u => ktr_units); k_whole) | (refine' none_in_tup (b := true) ?N ?r ?c ?b ?u ?_; (case N => exact News.isTup (by k_asm) (by k_mem)); (case r => rfl); (case c => rfl); (case b => rfl); (case u => ktr_units); k_whole)))
    k_with "subc" => first | exact sub_self | (refine sub_both ?_; k_extra "subc") | (refine sub_cons ?_; k_extra "subc")
    k_with "low" => first | assumption | exact allLt_of (by assumption) | exact low1 (by assumption) | exact low2 (by assumption) | exact low3 (by assumption) | exact low4 (by assumption)
    k_with "mem" => first | exact sub_self | (k_extra "sub") | (refine List.forall_mem_cons.mpr ⟨?_, ?_⟩; k_mem; k_extra "mem")
    k_with "ne" => first | assumption | exact List.forall_mem_nil _ | exact ne_of_low (by k_extra "low") | (refine' List.forall_mem_cons.mpr ⟨?a, ?b⟩; (case a => k_ne); (case b => k_extra "ne"))
    k_with "pull" => first | k_asm | exact pull1 (by k_asm) | exact pull2 (by k_asm) | exact pull3 (by k_asm) | exact pull4 (by k_asm)
    k_with "memq" => first | with_reducible assumption | exact List.Mem.head _ | (refine' List.Mem.tail _ ?_; k_extra "memq")
    k_with "call ref" => (first
        | ((with_reducible show wpAny _ _ (call (Value.ref 337) _) _ _ _); k_dflt (refine' Clm.use (law_wide_ok _ _ _ _ ?p0 ?p1 ?p2 ?p3) ?u1 ?u2 ?u3 ?u4 ?u5 ?u6 ?u7 ?u8 ?_; (case u1 => k_asm); (case u2 => k_asm); (case u3 => k_asm); (case u4 => k_asm); (case u5 => k_asm); (case u6 => first | exact rfl | assumption); (case u7 => first | exact room1 hdp (Nat.le_of_ble_eq_true rfl) | ktr_room); (case u8 => first | exact units1 hun (Nat.le_of_ble_eq_true rfl) | ktr_units); (case p0 => omega); (case p1 => omega); (case p2 => first | decide | omega); (case p3 => first | decide | omega)); intro t9 h9 tk9 z9 F9 N9; (all_goals ((try dsimp only); (try k_sweep); (try k_fold)))))
    intro dp un gd cn cs a ccd cl outer A₀ base h₀ L m s Q E B F X N T hk hdp hun hret
    refine wpAny_call ?_
    k_dflt cell_enter
    k_steps
    all_goals (refine' endT hret ?e1 ?e2 ?e3 ?e4 ?e5; (case e2 => k_asm); (case e3 => k_asm); (case e4 => k_extra "sub"); (case e5 => first | (with_reducible assumption) | (exact Nat.le_trans (by repeat (first | with_reducible assumption | exact Nat.le_of_eq (show _ = 1 from rfl) | exact Nat.le_refl 0 | (with_reducible apply Nat.add_le_add) | (apply len_cat))) (by exact Nat.le_of_ble_eq_true rfl)) | omega); (case e1 => first | exact isoY_a (by omega) (by omega) | exact isoY_b (by omega) (abs_nat _) | exact isoY_c (by omega) (abs_nat _) | exact isoY_b (by omega) (by omega) | exact isoY_c (by omega) (by omega))))
end

section
set_option maxHeartbeats 4000000 in
set_option pp.deepTerms false in
theorem law_sum_ok (a b c d e f g : Int) (t₁ t₂ t₃ t₄ t₅ t₆ t₇ : Tok) (q : Addr) (hq : (q, tup7 a b c d e f g t₁ t₂ t₃ t₄ t₅ t₆ t₇) ∈ news) : Clm w loose mean mg mb 2 358 [.ref q] news (RetV news fun t => .int (mkday a b c * 86400000 + mktime d e f g) t) := by
  w_on
  w_strict (
    k_with_none
    k_with "sub" => first | exact sub_self | (refine sub_cons ?_; k_extra "sub")
    k_with "compareOp In none ref" => (k_here; k_dflt (first | (refine' none_in_tup (b := false) ?N ?r ?c ?b ?u ?_; (case N => exact News.isTup (by k_asm) (by k_mem)); (case r => rfl); (case c => rfl); (case b => rfl); (case u => ktr_units); k_whole) | (refine' none_in_tup (b := true) ?N ?r ?c ?b ?u ?_; (case N => exact News.isTup (by k_asm) (by k_mem)); (case r => rfl); (case c => rfl); (case b => rfl); (case u => ktr_units); k_whole)))
    k_with "subc" => first | exact sub_self | (refine sub_both ?_; k_extra "subc") | (refine sub_cons ?_; k_extra "subc")
    k_with "low" => first | assumption | exact allLt_of (by assumption) | exact low1 (by assumption) | exact low2 (by assumption) | exact low3 (by assumption) | exact low4 (by assumption)
    k_with "mem" => first | exact sub_self | (k_extra "sub") | (refine List.forall_mem_cons.mpr ⟨?_, ?_⟩; k_mem; k_extra "mem")
    k_with "ne" => first | assumption | exact List.forall_mem_nil _ | exact ne_of_low (by k_extra "low") | (refine' List.forall_mem_cons.mpr ⟨?a, ?b⟩; (case a => k_ne); (case b => k_extra "ne"))
    k_with "pull" => first | k_asm | exact pull1 (by k_asm) | exact pull2 (by k_asm) | exact pull3 (by k_asm) | exact pull4 (by k_asm)
    k_with "memq" => first | with_reducible assumption | exact List.Mem.head _ | (refine' List.Mem.tail _ ?_; k_extra "memq")
    k_with "call ref" => (first
        | ((with_reducible show wpAny _ _ (call (Value.ref 323) _) _ _ _); k_dflt (refine' Clm.use (law_count_ok _ _ _ _ _ _ ) ?u1 ?u2 ?u3 ?u4 ?u5 ?u6 ?u7 ?u8 ?_; (case u1 => k_asm); (case u2 => k_asm); (case u3 => k_asm); (case u4 => k_asm); (case u5 => k_asm); (case u6 => first | exact rfl | assumption); (case u7 => first | exact room1 hdp (Nat.le_of_ble_eq_true rfl) | ktr_room); (case u8 => first | exact units1 hun (Nat.le_of_ble_eq_true rfl) | ktr_units)); intro t9 h9 tk9 F9 N9; (all_goals ((try dsimp only); (try k_sweep); (try k_fold)))))
    intro dp un gd cn cs a9 ccd cl outer A₀ base h₀ L m s Q E B F X N T hk hdp hun hret
    refine wpAny_call ?_
    k_dflt cell_enter
    k_steps
    all_goals (refine' endI hret ?e1 ?e2 ?e3 ?e4; (case e2 => k_asm); (case e3 => k_asm); (case e4 => k_extra "sub"); (case e1 => first | rfl | (unfold mktime; omega))))
end


noncomputable abbrev p2 (b : Int) : Str := Str.ofString "-" ++ padS (b + 1).toNat (Int.toNat 2)
noncomputable abbrev p3 (c : Int) : Str := Str.ofString "-" ++ padS c.toNat (Int.toNat 2)
noncomputable abbrev p4 (d e : Int) : Str := Str.ofString "T" ++ padS d.toNat (Int.toNat 2) ++ Str.ofString ":" ++ padS e.toNat (Int.toNat 2)
noncomputable abbrev p5 (f : Int) : Str := Str.ofString ":" ++ padS f.toNat (Int.toNat 2)
noncomputable abbrev p6 (g : Int) : Str := Str.ofString "." ++ padS g.toNat (Int.toNat 3)
noncomputable abbrev RetP (news : List (Addr × Obj)) (a b c d e f g : Int) (h₀ : Heap) (L : Addr) (m : Str → Option Value) (s : Shared) (Q : Value → Shared → Prop) : Prop :=
  ∀ (q : Addr) (u₁ u₂ u₃ u₄ u₅ u₆ : Tok) (h' : Heap) (tk' : Nat), (isoYear a).length ≤ 30 → (p2 b).length ≤ 30 → (p3 c).length ≤ 30 → (p4 d e).length ≤ 50 → (p5 f).length ≤ 30 → (p6 g).length ≤ 30 →
    Fr h₀ L h' m → News h₀ L h' ((q, W.listOf #[.str (isoYear a) u₁, .str (p2 b) u₂, .str (p3 c) u₃, .str (p4 d e) u₄, .str (p5 f) u₅, .str (p6 g) u₆] 0) :: news) → AllLt q news → Q (.ref q) { s with heap := h', toks := tk' }
section
set_option maxHeartbeats 4000000 in
set_option pp.deepTerms false in
theorem law_pieces_ok (a b c d e f g : Int) (t₁ t₂ t₃ t₄ t₅ t₆ t₇ : Tok) (q : Addr) (hq : (q, tup7 a b c d e f g t₁ t₂ t₃ t₄ t₅ t₆ t₇) ∈ news) (hb : -300000 ≤ a ∧ a ≤ 300000 ∧ 0 ≤ b ∧ b ≤ 11 ∧ 1 ≤ c ∧ c ≤ 31 ∧ 0 ≤ d ∧ d ≤ 23 ∧ 0 ≤ e ∧ e ≤ 59 ∧ 0 ≤ f ∧ f ≤ 59 ∧ 0 ≤ g ∧ g ≤ 999) : Clm w loose mean mg mb 3 351 [.ref q] news (RetP news a b c d e f g) := by
  w_on
  w_strict (
    k_with_none
    k_with "sub" => first | exact sub_self | (refine sub_cons ?_; k_extra "sub")
    k_with "compareOp In none ref" => (k_here; k_dflt (first | (refine' none_in_tup (b := false) ?N ?r ?c ?b ?u ?_; (case N => exact News.isTup (by k_asm) (by k_mem)); (case r => rfl); (case c => rfl); (case b => rfl); (case u => ktr_units); k_whole) | (refine' none_in_tup (b := true) ?N ?r ?c ?b ?u ?_; (case N => exact News.isTup (by k_asm) (by k_mem)); (case r => rfl); (case c => rfl); (case b => rfl); (case u => ktr_units); k_whole)))
    k_with "subc" => first | exact sub_self | (refine sub_both ?_; k_extra "subc") | (refine sub_cons ?_; k_extra "subc")
    k_with "low" => first | assumption | exact allLt_of (by assumption) | exact low1 (by assumption) | exact low2 (by assumption) | exact low3 (by assumption) | exact low4 (by assumption)
    k_with "mem" => first | exact sub_self | (k_extra "sub") | (refine List.forall_mem_cons.mpr ⟨?_, ?_⟩; k_mem; k_extra "mem")
    k_with "ne" => first | assumption | exact List.forall_mem_nil _ | exact ne_of_low (by k_extra "low") | (refine' List.forall_mem_cons.mpr ⟨?a, ?b⟩; (case a => k_ne); (case b => k_extra "ne"))
    k_with "pull" => first | k_asm | exact pull1 (by k_asm) | exact pull2 (by k_asm) | exact pull3 (by k_asm) | exact pull4 (by k_asm)
    k_with "memq" => first | with_reducible assumption | exact List.Mem.head _ | (refine' List.Mem.tail _ ?_; k_extra "memq")
    k_with "call ref" => (first
        | ((with_reducible show wpAny _ _ (call (Value.ref 344) _) _ _ _); k_dflt (refine' Clm.use (law_year_ok _ _ ?p0 ?p1) ?u1 ?u2 ?u3 ?u4 ?u5 ?u6 ?u7 ?u8 ?_; (case u1 => k_asm); (case u2 => k_asm); (case u3 => k_asm); (case u4 => k_asm); (case u5 => k_asm); (case u6 => first | exact rfl | assumption); (case u7 => first | exact room1 hdp (Nat.le_of_ble_eq_true rfl) | ktr_room); (case u8 => first | exact units1 hun (Nat.le_of_ble_eq_true rfl) | ktr_units); (case p0 => omega); (case p1 => omega)); intro t9 h9 tk9 z9 F9 N9; (all_goals ((try dsimp only); (try k_sweep); (try k_fold))))
        | ((with_reducible show wpAny _ _ (call (Value.ref 337) _) _ _ _); k_dflt (refine' Clm.use (law_wide_ok _ _ _ _ ?p0 ?p1 ?p2 ?p3) ?u1 ?u2 ?u3 ?u4 ?u5 ?u6 ?u7 ?u8 ?_; (case u1 => k_asm); (case u2 => k_asm); (case u3 => k_asm); (case u4 => k_asm); (case u5 => k_asm); (case u6 => first | exact rfl | assumption); (case u7 => first | exact room1 hdp (Nat.le_of_ble_eq_true rfl) | ktr_room); (case u8 => first | exact units1 hun (Nat.le_of_ble_eq_true rfl) | ktr_units); (case p0 => omega); (case p1 => omega); (case p2 => first | decide | omega); (case p3 => first | decide | omega)); intro t9 h9 tk9 z9 F9 N9; (all_goals ((try dsimp only); (try k_sweep); (try k_fold)))))
    intro dp un gd cn cs a9 ccd cl outer A₀ base h₀ L m s Q E B F X N T hk hdp hun hret
    refine wpAny_call ?_
    k_dflt cell_enter
    k_steps
    all_goals (refine' hret _ _ _ _ _ _ _ _ _ ?z1 ?z2 ?z3 ?z4 ?z5 ?z6 ?e1 ?e2 ?e3; (case e1 => k_asm); (case e2 => exact ledger_sub (by k_asm) (by k_extra "mem")); (case e3 => k_extra "low"); (case z1 => first | (with_reducible assumption) | (exact Nat.le_trans (by repeat (first | with_reducible assumption | exact Nat.le_of_eq (show _ = 1 from rfl) | exact Nat.le_refl 0 | (with_reducible apply Nat.add_le_add) | (apply len_cat))) (by exact Nat.le_of_ble_eq_true rfl))); (case z2 => first | (with_reducible assumption) | (exact Nat.le_trans (by repeat (first | with_reducible assumption | exact Nat.le_of_eq (show _ = 1 from rfl) | exact Nat.le_refl 0 | (with_reducible apply Nat.add_le_add) | (apply len_cat))) (by exact Nat.le_of_ble_eq_true rfl))); (case z3 => first | (with_reducible assumption) | (exact Nat.le_trans (by repeat (first | with_reducible assumption | exact Nat.le_of_eq (show _ = 1 from rfl) | exact Nat.le_refl 0 | (with_reducible apply Nat.add_le_add) | (apply len_cat))) (by exact Nat.le_of_ble_eq_true rfl))); (case z4 => first | (with_reducible assumption) | (exact Nat.le_trans (by repeat (first | with_reducible assumption | exact Nat.le_of_eq (show _ = 1 from rfl) | exact Nat.le_refl 0 | (with_reducible apply Nat.add_le_add) | (apply len_cat))) (by exact Nat.le_of_ble_eq_true rfl))); (case z5 => first | (with_reducible assumption) | (exact Nat.le_trans (by repeat (first | with_reducible assumption | exact Nat.le_of_eq (show _ = 1 from rfl) | exact Nat.le_refl 0 | (with_reducible apply Nat.add_le_add) | (apply len_cat))) (by exact Nat.le_of_ble_eq_true rfl))); (case z6 => first | (with_reducible assumption) | (exact Nat.le_trans (by repeat (first | with_reducible assumption | exact Nat.le_of_eq (show _ = 1 from rfl) | exact Nat.le_refl 0 | (with_reducible apply Nat.add_le_add) | (apply len_cat))) (by exact Nat.le_of_ble_eq_true rfl)))))
end

end

section
set_option linter.unusedVariables false
set_option linter.unusedSimpArgs false
variable {w : World} {loose : List Str} {mean : ExcName → Option Value} {mg mb : Str → Option Value} {news : List (Addr × Obj)}

theorem mkday_0 (y : Int) : mkday y 0 1 = dfy y := by unfold mkday; simp only [Int.zero_ediv, Int.zero_emod, Int.add_zero]; have := (da_vals (leap y)).1; omega
theorem mkday_m {y m : Int} (h0 : 0 ≤ m) (h1 : m ≤ 12) : mkday y m 1 = dfy y + da m (leap y) := by
  by_cases h : m = 12
  · subst h
    have e : mkday y 12 1 = mkday (y + 1) 0 1 := by
      unfold mkday; rw [show (12 : Int) / 12 = 1 from rfl, show (12 : Int) % 12 = 0 from rfl, show (0 : Int) / 12 = 0 from rfl, show (0 : Int) % 12 = 0 from rfl, Int.add_zero]
    rw [e, mkday_0, dfy_len]
  · unfold mkday
    rw [show m / 12 = 0 by omega, show m % 12 = m by omega, Int.add_zero]; omega
theorem dfy_up_nat (y : Int) : ∀ n : Nat, dfy (y + n) ≤ dfy y + 366 * n
  | 0 => by simp
  | n + 1 => by
    have h1 := dfy_up_nat y n
    have h2 := (dfy_step (y + n)).2
    rw [show y + ((n + 1 : Nat) : Int) = y + n + 1 from (Int.add_assoc y n 1).symm]; omega
theorem dfy_up {x y : Int} (h : x ≤ y) : dfy y ≤ dfy x + 366 * (y - x) := by
  obtain ⟨n, rfl⟩ := Int.le.dest h
  have := dfy_up_nat x n
  rwa [Int.add_comm x n, Int.add_sub_cancel, Int.add_comm (n : Int) x]
theorem lf_start0 {d : Int} (h : 0 ≤ d) : dfy (1970 + d / 366) ≤ d := by
  have e0 : dfy 1970 = 0 := by decide
  have := dfy_up (show (1970 : Int) ≤ 1970 + d / 366 by omega)
  omega
theorem lf_start1 {d : Int} (h : d < 0) : dfy (1970 + d / 365) ≤ d := by
  have e0 : dfy 1970 = 0 := by decide
  have := dfy_mono (show 1970 + d / 365 ≤ (1970 : Int) by omega)
  omega
theorem lf_turn {y d k : Int} (h : dfy (y + 1) ≤ d) (hk : k = (d - dfy (y + 1)) / 366) : dfy (y + max 1 k) ≤ d ∧ (d - dfy (y + max 1 k + 1) + 1).toNat < (d - dfy (y + 1) + 1).toNat := by
  rcases Int.le_total k 1 with hc | hc
  · rw [Int.max_eq_left hc]; exact ⟨h, yod_up h⟩
  · rw [Int.max_eq_right hc]
    have hd : 366 * k ≤ d - dfy (y + 1) := by rw [hk]; exact Int.mul_ediv_self_le (by decide)
    clear hk
    have h1 : y + 1 ≤ y + k := Int.add_le_add_left hc y
    refine ⟨?_, toNat_less ?_ h⟩
    · have h2 := dfy_up h1
      clear h1 hc; omega
    · have h3 := dfy_mono h1
      have h4 := dfy_lt (y + k)
      clear h hd; omega
theorem endT7 {h₀ h' : Heap} {L : Addr} {m : Str → Option Value} {news rest : List (Addr × Obj)} {s : Shared} {Q : Value → Shared → Prop} {tk' : Nat} {a b c d e f g a' b' c' d' e' f' g' : Int} {t₁ t₂ t₃ t₄ t₅ t₆ t₇ : Tok} {q : Addr}
    (hret : RetT7 news a b c d e f g h₀ L m s Q) (F : Fr h₀ L h' m) (N : News h₀ L h' ((q, tup7 a' b' c' d' e' f' g' t₁ t₂ t₃ t₄ t₅ t₆ t₇) :: rest)) (hs : ∀ p ∈ news, p ∈ rest) (l : AllLt q news)
    (E : a' = a ∧ b' = b ∧ c' = c ∧ d' = d ∧ e' = e ∧ f' = f ∧ g' = g) : Q (.ref q) { s with heap := h', toks := tk' } := by
  obtain ⟨rfl, rfl, rfl, rfl, rfl, rfl, rfl⟩ := E
  exact hret _ _ _ _ _ _ _ _ _ _ F (ledger_sub N (sub_both hs)) l

theorem law_count0_ok (x : Int) (t t1 t2 : Tok) : Clm w loose mean mg mb 1 323 [.int x t, .int 0 t1, .int 1 t2] news (RetV news fun t => .int (dfy x) t) := by
  have h := law_count_ok (w := w) (loose := loose) (mean := mean) (mg := mg) (mb := mb) (news := news) x 0 1 t t1 t2
  rw [mkday_0] at h
  exact h
theorem law_countm_ok (x m : Int) (t t1 t2 : Tok) (h0 : 0 ≤ m) (h1 : m ≤ 12) : Clm w loose mean mg mb 1 323 [.int x t, .int m t1, .int 1 t2] news (RetV news fun t => .int (dfy x + da m (leap x)) t) := by
  have h := law_count_ok (w := w) (loose := loose) (mean := mean) (mg := mg) (mb := mb) (news := news) x m 1 t t1 t2
  rw [mkday_m h0 h1] at h
  exact h

theorem lf_s0 {x : Int} (h : x.fdiv 86400000 ≥ 0) : dfy (1970 + (x.fdiv 86400000).fdiv 366) ≤ x.fdiv 86400000 := by
  rw [Int.fdiv_eq_ediv_of_nonneg _ (by decide : (0:Int) ≤ 366)]; exact lf_start0 h
theorem lf_s1 {x : Int} (h : ¬ x.fdiv 86400000 ≥ 0) : dfy (1970 + (x.fdiv 86400000).fdiv 365) ≤ x.fdiv 86400000 := by
  rw [Int.fdiv_eq_ediv_of_nonneg _ (by decide : (0:Int) ≤ 365)]; exact lf_start1 (by omega)
theorem lf_t {y d : Int} (h : dfy (y + 1) ≤ d) : dfy (y + (if (d - dfy (y + 1)).fdiv 366 > 1 then (d - dfy (y + 1)).fdiv 366 else 1)) ≤ d ∧ (d - dfy (y + (if (d - dfy (y + 1)).fdiv 366 > 1 then (d - dfy (y + 1)).fdiv 366 else 1) + 1) + 1).toNat < (d - dfy (y + 1) + 1).toNat := by
  have e : (if (d - dfy (y + 1)).fdiv 366 > 1 then (d - dfy (y + 1)).fdiv 366 else 1) = max 1 ((d - dfy (y + 1)).fdiv 366) := by
    generalize (d - dfy (y + 1)).fdiv 366 = K
    split <;> omega
  rw [e]
  exact lf_turn h (Int.fdiv_eq_ediv_of_nonneg _ (by decide))

theorem lf_m {y m d : Int} (h0 : 0 ≤ m) (h1 : m ≤ 11) (h2 : dfy y + da (m + 1) (leap y) ≤ d) (h3 : ¬ dfy (y + 1) ≤ d) : 0 ≤ m + 1 ∧ m + 1 ≤ 11 ∧ (m + 1 = 0 ∨ dfy y + da (m + 1) (leap y) ≤ d) := by
  have e := dfy_len y
  have := moy_next (p := d - dfy y) (b := leap y) h0 h1 (by omega) (by omega)
  exact ⟨by omega, this, Or.inr h2⟩
theorem lf_end {x y m : Int} (hy : dfy y ≤ x.fdiv 86400000) (hy2 : ¬ dfy (y + 1) ≤ x.fdiv 86400000) (h0 : 0 ≤ m) (h1 : m ≤ 11) (h2 : m = 0 ∨ dfy y + da m (leap y) ≤ x.fdiv 86400000) (h3 : ¬ dfy y + da (m + 1) (leap y) ≤ x.fdiv 86400000) :
    y = Yr x ∧ m = Mo x ∧ x.fdiv 86400000 - (dfy y + da m (leap y)) + 1 = Dt x ∧ (x.fmod 86400000).fdiv 3600000 = Hr x ∧ ((x.fmod 86400000).fdiv 60000).fmod 60 = Mi x ∧ ((x.fmod 86400000).fdiv 1000).fmod 60 = Se x ∧ (x.fmod 86400000).fmod 1000 = Ms x := by
  rw [Int.fdiv_eq_ediv_of_nonneg x (by decide : (0:Int) ≤ 86400000)] at *
  have ey : y = Yr x := yod_eq hy (Int.not_le.mp hy2)
  subst ey
  have em : m = Mo x := moy_eq h0 h1 (h2.imp_right fun g => Int.le_sub_left_of_add_le g) (Int.sub_left_lt_of_lt_add (Int.not_le.mp h3))
  subst em
  refine ⟨rfl, rfl, ?_, fd (by decide) ?_, fm (by decide) ?_, fm (by decide) ?_, fm (by decide) ?_⟩
  · unfold Dt Dy; rw [Int.sub_sub]
  · unfold Hr; rw [fm (by decide) rfl]
  · unfold Mi; rw [fm (b := 86400000) (by decide) rfl, fd (b := 60000) (by decide) rfl]
  · unfold Se; rw [fm (b := 86400000) (by decide) rfl, fd (b := 1000) (by decide) rfl]
  · unfold Ms; rw [fm (b := 86400000) (by decide) rfl]; exact Int.emod_emod_of_dvd x (by decide)
section
set_option maxHeartbeats 4000000 in
set_option pp.deepTerms false in
theorem law_fields_ok (x : Int) (t : Tok) : Clm w loose mean mg mb 2 330 [.int x t] news (RetT7 news (Yr x) (Mo x) (Dt x) (Hr x) (Mi x) (Se x) (Ms x)) := by
  w_on
  w_strict (
    k_with_none
    k_with "sub" => first | exact sub_self | (refine sub_cons ?_; k_extra "sub")
    k_with "compareOp In none ref" => (k_here; k_dflt (first | (refine' none_in_tup (b := false) ?N ?r ?c ?b ?u ?_; (case N => exact News.isTup (by k_asm) (by k_mem)); (case r => rfl); (case c => rfl); (case b => rfl); (case u => ktr_units); k_whole) | (refine' none_in_tup (b := true) ?N ?r ?c ?b ?u ?_; (case N => exact News.isTup (by k_asm) (by k_mem)); (case r => rfl); (case c => rfl); (case b => rfl); (case u => ktr_units); k_whole)))
    k_with "subc" => first | exact sub_self | (refine sub_both ?_; k_extra "subc") | (refine sub_cons ?_; k_extra "subc")
    k_with "low" => first | assumption | exact allLt_of (by assumption) | exact low1 (by assumption) | exact low2 (by assumption) | exact low3 (by assumption) | exact low4 (by assumption)
    k_with "mem" => first | exact sub_self | (k_extra "sub") | (refine List.forall_mem_cons.mpr ⟨?_, ?_⟩; k_mem; k_extra "mem")
    k_with "ne" => first | assumption | exact List.forall_mem_nil _ | exact ne_of_low (by k_extra "low") | (refine' List.forall_mem_cons.mpr ⟨?a, ?b⟩; (case a => k_ne); (case b => k_extra "ne"))
    k_with "pull" => first | k_asm | exact pull1 (by k_asm) | exact pull2 (by k_asm) | exact pull3 (by k_asm) | exact pull4 (by k_asm)
    k_with "memq" => first | with_reducible assumption | exact List.Mem.head _ | (refine' List.Mem.tail _ ?_; k_extra "memq")
    k_with "call ref" => (first
        | ((with_reducible show wpAny _ _ (call (Value.ref 323) _) _ _ _); k_dflt (refine' Clm.use (law_count0_ok _ _ _ _ ) ?u1 ?u2 ?u3 ?u4 ?u5 ?u6 ?u7 ?u8 ?_; (case u1 => k_asm); (case u2 => k_asm); (case u3 => k_asm); (case u4 => k_asm); (case u5 => k_asm); (case u6 => first | exact rfl | assumption); (case u7 => first | exact room1 hdp (Nat.le_of_ble_eq_true rfl) | ktr_room); (case u8 => first | exact units1 hun (Nat.le_of_ble_eq_true rfl) | ktr_units)); intro t9 h9 tk9 F9 N9; (all_goals ((try dsimp only); (try k_sweep); (try k_fold))))
        | ((with_reducible show wpAny _ _ (call (Value.ref 323) _) _ _ _); k_dflt (refine' Clm.use (law_countm_ok _ _ _ _ _ ?p0 ?p1) ?u1 ?u2 ?u3 ?u4 ?u5 ?u6 ?u7 ?u8 ?_; (case u1 => k_asm); (case u2 => k_asm); (case u3 => k_asm); (case u4 => k_asm); (case u5 => k_asm); (case u6 => first | exact rfl | assumption); (case u7 => first | exact room1 hdp (Nat.le_of_ble_eq_true rfl) | ktr_room); (case u8 => first | exact units1 hun (Nat.le_of_ble_eq_true rfl) | ktr_units); (case p0 => omega); (case p1 => omega)); intro t9 h9 tk9 F9 N9; (all_goals ((try dsimp only); (try k_sweep); (try k_fold)))))
    k_with "exec While Compare cons nil" => k_while (fun _ y => dfy y ≤ x.fdiv 86400000) (fun _ y => (x.fdiv 86400000 - dfy (y + 1) + 1).toNat) "year"
    k_with "exec While Compare cons nil" => k_while (fun _ y => dfy y ≤ x.fdiv 86400000 ∧ ¬ dfy (y + 1) ≤ x.fdiv 86400000) (fun _ y => 0) "year"
    k_with "exec While Compare cons nil" => k_while_given ["year"] (fun y _ m => 0 ≤ m ∧ m ≤ 11 ∧ (m = 0 ∨ dfy y + da m (leap y) ≤ x.fdiv 86400000)) (fun y _ m => (12 - m).toNat) "month"
    k_with "state" => first | omega | (with_reducible refine lf_s0 ?_; omega) | (with_reducible refine lf_s1 ?_; omega) | (with_reducible refine (lf_t ?_).1; with_reducible assumption) | (with_reducible refine lf_m ?_ ?_ ?_ ?_; (all_goals first | (with_reducible assumption) | omega)) | (with_reducible refine ⟨?_, ?_, Or.inl rfl⟩; (all_goals omega))
    k_with "measure" => first | (with_reducible refine (lf_t ?_).2; with_reducible assumption) | omega
    intro dp un gd cn cs a ccd cl outer A₀ base h₀ L m s Q E B F X N T hk hdp hun hret
    refine wpAny_call ?_
    k_dflt cell_enter
    k_steps
    all_goals (refine' endT7 hret ?e1 ?e2 ?e3 ?e4 ?e5; (case e1 => k_asm); (case e2 => k_asm); (case e3 => k_extra "sub"); (case e4 => k_extra "low"); (case e5 => exact lf_end (by omega) (by omega) (by omega) (by omega) (by omega) (by omega))))
end

end

section
variable {prog : Program} {w : World} {A : Around} {E : Value → Shared → Prop} {s : Shared} {env : Env} {h₀ : Heap} {x : Str} {px : Pos} {body : List Stmt} {Q : Flow → Shared → Prop}
/-- a turn's end: the cells stand -/
noncomputable def TurnC (h₀ : Heap) (L : Addr) (news : List (Addr × Obj)) (Q : Flow → Shared → Prop) (s : Shared) (f : Flow) (s₂ : Shared) : Prop :=
  match f with
  | .ret u => Q (.ret u) s₂
  | .next => ∃ h' tk' m', s₂ = { s with heap := h', toks := tk' } ∧ Fr h₀ L h' m' ∧ News h₀ L h' news
  | _ => False
theorem For_cell {iter : Expr} {pos : Pos}
    (h : wpAny (model prog w) A (eval iter env) (fun xv s₁ => wpAny (model prog w) A (pyIter xv) (fun it s₂ => codeAny (model prog w) A (.forLoop (.Name x px) it body [] env) (fun r s' => match r with | .ok f => Q f s' | .error e => cameBackBy (model prog w) A env E e s') s₂) E s₁) E s)
    (hs : ∀ x, foldedSetIterable iter env x = pure x := by intro _; rfl) :
    wpAny (model prog w) A (exec (.For (.Name x px) iter body [] pos) env) Q E s := wpAny_For h hs
theorem iter_cellB {r c L : Addr} {o : Obj} {w₀ : Option Value} {rest : List (Addr × Obj)} {a₀ b₀ : Int} {t₀ u₀ v₀ : Tok} (n : Nat) {m₀ : Str → Option Value}
    (hL : L = env.locals) (hh : A.handled = none) (hr : IsRange s.heap r a₀ b₀ 1 t₀ u₀ v₀) (hsmall : Builtin.Range.small a₀ b₀ 1 = true) (hn : Builtin.Range.rangeSize a₀ b₀ 1 = (n : Int)) (F : Fr h₀ L s.heap m₀) (N : News h₀ L s.heap ((c, o) :: rest))
    (hne : ∀ p ∈ rest, p.1 ≠ c) (hk : env.scope.kind = .function) (hx : env.kindOf x = some .cell) (hc : env.cells.lookup x = some c) (hd : o.data = .cell w₀)
    (hturn : ∀ (i : Int) (I : Addr) (it o' : Obj) (u : Str → Option Value) (t : Tok) (h : Heap) (tk : Nat), a₀ ≤ i → i < a₀ + n → o'.data = .cell (some (.int i t)) → AllLt I ((c, o') :: rest) → Fr h₀ L h u → News h₀ L h ((I, it) :: (c, o') :: rest) →
      wpAny (model prog w) A (execs body env) (TurnC h₀ L ((I, it) :: (c, o') :: rest) Q { s with heap := h, toks := tk }) E { s with heap := h, toks := tk })
    (hend : ∀ (o' : Obj) (u : Str → Option Value) (h : Heap) (tk : Nat), Fr h₀ L h u → News h₀ L h ((c, o') :: rest) → Q .next { s with heap := h, toks := tk })
    (hE : PassesOwn (model prog w) A env E := by passes_own) :
    wpAny (model prog w) A (pyIter (.ref r)) (fun it s₂ => codeAny (model prog w) A (.forLoop (.Name x px) it body [] env) (fun r s' => match r with | .ok f => Q f s' | .error e => cameBackBy (model prog w) A env E e s') s₂) E s := by
  subst hL
  refine wpAny_pyIter_range hr hsmall ?_
  have W : Walks prog w A s.heap.objs.size [s.heap.objs.size] [s.heap.objs.size] n (fun i v => i < n ∧ ∃ t, v = .int (a₀ + i * 1) t)
      (fun i h => IsRangeIter h s.heap.objs.size (a₀ + (i : Nat) * 1) ((n : Int) - (i : Nat)) 1) := (Walks.range hh _ a₀ 1 n).bound
  have hnew := next_is_new F
  have hlt : AllLt s.heap.objs.size ((c, o) :: rest) := allLt_of fun p hp => Heap.lt_size (N p hp).1
  have hIL : s.heap.objs.size ≠ env.locals := fun e => absurd F.ns.lt (e ▸ Nat.lt_irrefl _)
  have hIne : ∀ p ∈ (c, o) :: rest, p.1 ≠ s.heap.objs.size := fun p hp => Nat.ne_of_lt (ktn_ltOf hlt p hp)
  have hst0 : IsRangeIter (s.heap.push { cls := .type "range_iterator", data := .fields #[rawInt a₀, rawInt (Builtin.Range.rangeSize a₀ b₀ 1), rawInt 1] }) s.heap.objs.size (a₀ + ((0 : Nat) : Int) * 1) ((n : Int) - ((0 : Nat) : Int)) 1 := by
    rw [hn]; simpa using Heap.get?_push_size _ rfl
  have F0 := F.push (o := { cls := .type "range_iterator", data := .fields #[rawInt a₀, rawInt (Builtin.Range.rangeSize a₀ b₀ 1), rawInt 1] })
  have N0 : News h₀ env.locals (s.heap.push { cls := .type "range_iterator", data := .fields #[rawInt a₀, rawInt (Builtin.Range.rangeSize a₀ b₀ 1), rawInt 1] }) ((c, o) :: rest) := fun p hp => ⟨Heap.get?_push_of_some _ (N p hp).1, (N p hp).2⟩
  generalize s.heap.push { cls := .type "range_iterator", data := .fields #[rawInt a₀, rawInt (Builtin.Range.rangeSize a₀ b₀ 1), rawInt 1] } = g at *
  clear hr hsmall hn N F
  generalize s.heap.objs.size = I at *
  have hcI : c ≠ I := hIne _ (.head _)
  have hrI : ∀ p ∈ rest, p.1 ≠ I := fun p hp => hIne p (.tail _ hp)
  have hltc : @LT.lt Nat _ c I := hlt.1
  have hltr : AllLt I rest := hlt.2
  refine codeAny_forLoop
    (fun k s' => ∃ h' tk m' o' w' i, s' = { s with heap := h', toks := tk } ∧ IsRangeIter h' I (a₀ + ((i : Nat) : Int) * 1) ((n : Int) - ((i : Nat) : Int)) 1 ∧ Fr h₀ env.locals h' m' ∧ News h₀ env.locals h' ((c, o') :: rest) ∧ o'.data = .cell w' ∧ i ≤ n ∧ k = n + 1 - i) ?_ (n + 1)
    ⟨g, s.toks, m₀, o, w₀, 0, rfl, hst0, F0, N0, hd, Nat.zero_le _, rfl⟩
  rintro k s' ⟨h', tk, m', o', w', i, rfl, hst', F', N', hd', hi, rfl⟩
  have next : ∀ h₁ : Heap, (∀ b o, b ∉ [I] → h'.get? b = some o → h₁.get? b = some o) → Fr h₀ env.locals h₁ m' ∧ News h₀ env.locals h₁ ((c, o') :: rest) := fun h₁ hk₁ =>
    ⟨⟨F'.ns.at' fun o e => hk₁ _ o (fun hb => hIL (List.mem_singleton.mp hb).symm) e, fun b o e => hk₁ b o (fun hb => by rw [List.mem_singleton.mp hb, hnew] at e; cases e) (F'.keep b o e), F'.above⟩,
      fun p hp => ⟨hk₁ _ _ (fun hb => by
        rcases List.mem_cons.mp hp with rfl | hp
        · exact hcI (List.mem_singleton.mp hb)
        · exact hrI p hp (List.mem_singleton.mp hb)) (N' p hp).1, (N' p hp).2⟩⟩
  by_cases hlt : i < n
  · refine W.item i _ _ _ hlt hst' fun v h₁ tk₁ hP hst₁ hk₁ => ?_
    obtain ⟨_, t, rfl⟩ := hP
    obtain ⟨F₁, N₁⟩ := next h₁ hk₁
    have hmem := N₁ (c, o') (.head _)
    refine wpAny_assign_Name (wpAny_storeName_cell hk hx hc ⟨o', hmem.1, hd'⟩ (fun h₂ hv hs => ?_))
    obtain ⟨o₂, ho₂, hd₂⟩ := hv
    have F₂ : Fr h₀ env.locals h₂ m' := ⟨F₁.ns.sameBut hs (Ne.symm hmem.2.1), fun b ob e => (hs.2 b (fun q => by rw [q, hmem.2.2] at e; cases e)).trans (F₁.keep b ob e), F₁.above⟩
    have N₂ : News h₀ env.locals h₂ ((c, o₂) :: rest) := News.setAt (own := []) N₁ (fun _ h => nomatch h) hne hs ho₂
    have hst₂ : h₂.get? I = some (itR (a₀ + ((i + 1 : Nat) : Int)) ((n : Int) - ((i + 1 : Nat) : Int))) := by
      rw [hs.2 I (Ne.symm hcI)]
      have q : IsRangeIter h₁ I (a₀ + ((i + 1 : Nat) : Int) * 1) ((n : Int) - ((i + 1 : Nat) : Int)) 1 := hst₁
      rw [Int.mul_one] at q
      exact q
    have N₃ : News h₀ env.locals h₂ ((I, itR (a₀ + ((i + 1 : Nat) : Int)) ((n : Int) - ((i + 1 : Nat) : Int))) :: (c, o₂) :: rest) := fun p hp => by
      rcases List.mem_cons.mp hp with rfl | hp
      · exact ⟨hst₂, hIL, hnew⟩
      · exact N₂ p hp
    refine wpAny_passesOwn hE (wpAny_mono (hturn (a₀ + i * 1) I _ o₂ m' t h₂ tk₁ (by omega) (by omega) hd₂ ⟨hltc, hltr⟩ F₂ N₃) (fun f s₃ h₃ => ?_) fun _ _ e => e)
    cases f with
    | ret v => exact h₃
    | brk => exact h₃.elim
    | cont => exact h₃.elim
    | next =>
      obtain ⟨h₃', tk₃, m₃, rfl, F₃, N₄⟩ := h₃
      refine ⟨n + 1 - (i + 1), by omega, h₃', tk₃, m₃, o₂, _, i + 1, rfl, ?_, F₃, fun p hp => N₄ p (.tail _ hp), hd₂, hlt, rfl⟩
      have q := (N₄ _ (.head _)).1
      rw [Int.mul_one]; exact q
  · have hin : i = n := by omega
    subst hin
    refine W.done _ _ _ hst' fun h₁ tk₁ hk₁ => wpAny_execs_nil ?_
    obtain ⟨F₁, N₁⟩ := next h₁ hk₁
    exact hend o' m' h₁ tk₁ F₁ N₁
end
section
variable {M : Model} {A : Around} {E : Value → Shared → Prop} {s : Shared}
/-- an int, nothing else said; the heap as it was -/
noncomputable def AbsI (s : Shared) (v : Value) (s' : Shared) : Prop := ∃ i t tk, v = .int i t ∧ s' = { s with toks := tk }
theorem abs_int {t : Sem Value} {Q : Value → Shared → Prop} (h1 : wpAny M A t (AbsI s) E s) (h2 : ∀ i u tk, Q (.int i u) { s with toks := tk }) : wpAny M A t Q E s :=
  wpAny_mono h1 (fun v s' ⟨i, u, tk, e1, e2⟩ => by subst e1 e2; exact h2 i u tk) fun _ _ h => h
/-- an int within bounds -/
noncomputable def AbsB (s : Shared) (lo hi : Int) (v : Value) (s' : Shared) : Prop := ∃ i t tk, v = .int i t ∧ lo ≤ i ∧ i ≤ hi ∧ s' = { s with toks := tk }
theorem abs_bnd (lo hi : Int) {t : Sem Value} {Q : Value → Shared → Prop} (h1 : wpAny M A t (AbsB s lo hi) E s) (h2 : ∀ i u tk, lo ≤ i → i ≤ hi → Q (.int i u) { s with toks := tk }) : wpAny M A t Q E s :=
  wpAny_mono h1 (fun v s' ⟨i, u, tk, e1, a, b, e2⟩ => by subst e1 e2; exact h2 i u tk a b) fun _ _ h => h
theorem fmod_bnd (x : Int) {k : Int} (h : 0 < k) : 0 ≤ x.fmod k ∧ x.fmod k < k := by
  rw [Int.fmod_eq_emod_of_nonneg _ (by omega)]
  exact ⟨Int.emod_nonneg _ (by omega), Int.emod_lt_of_pos _ h⟩
end
section
variable {prog : Program} {w : World} {A : Around} {E : Value → Shared → Prop} {s : Shared}
theorem pick_abs {h₀ : Heap} {L q : Addr} {o : Obj} {news : List (Addr × Obj)} {n : Nat} {value slice : PySem.Expr} {ys : List Value} {ns : List Int} {k : Int} {u : Tok} {Q : Value → Shared → Prop} (N : News h₀ L s.heap news) (hm : (q, o) ∈ news) (hc : o.cls = .type "list") (hd : o.data = .seq ys.toArray n)
    (hi : IntsAre ys ns) (h0 : 0 ≤ k) (h1 : k < ns.length) (hfit : k < 2 ^ 63) (h : ∀ i t, Q (.int i t) s)
    (hs : subscripted slice false (.ref q) (.int k u) = operate [.ref q, .int k u] (getItem (.ref q) (.int k u)) := by with_unfolding_all rfl) :
    wpAny (model prog w) A (subscriptTail value slice (.ref q) (.int k u)) Q E s :=
  item_anyL ⟨o, (N _ hm).1, hc, n, hd⟩ hi h0 h1 hfit (fun t => h _ t) hs
theorem map_len {f : Int → Int} {a : Int} {n : Nat} {k : Int} (h : k < n) : k < (((rangeKs a n).map f).length : Int) := by rw [List.length_map, rangeKs_length]; exact h
end
section
variable {prog : Program} {w : World} {A : Around} {E : Value → Shared → Prop} {s : Shared}
theorem pick_tup {h₀ : Heap} {L q : Addr} {news : List (Addr × Obj)} {vs : List Value} {value slice : PySem.Expr} {k : Int} {u : Tok} {x : Value} {Q : Value → Shared → Prop} (j : Nat) (N : News h₀ L s.heap news) (hm : (q, tupObj vs) ∈ news)
    (hk : k = (j : Int)) (hx : vs[j]? = some x) (hfit : j < 100) (h : Q x s)
    (hs : subscripted slice false (.ref q) (.int k u) = operate [.ref q, .int k u] (getItem (.ref q) (.int k u)) := by with_unfolding_all rfl) :
    wpAny (model prog w) A (subscriptTail value slice (.ref q) (.int k u)) Q E s := by
  have hl : j < vs.length := by
    by_cases h : j < vs.length
    · exact h
    · rw [List.getElem?_eq_none (by omega)] at hx; cases hx
  refine item_tupleT (News.isTup N hm) (by omega) (by omega) (j := j) ?_ hx h hs
  subst hk
  unfold seqIndex?
  simp
  omega
end
section
variable {prog : Program} {w : World} {A : Around} {E : Value → Shared → Prop} {s : Shared}
theorem pick_lst {h₀ : Heap} {L q : Addr} {news : List (Addr × Obj)} {vs : List Value} {n : Nat} {value slice : PySem.Expr} {k : Int} {u : Tok} {x : Value} {Q : Value → Shared → Prop} (j : Nat) (N : News h₀ L s.heap news) (hm : (q, W.listOf vs.toArray n) ∈ news)
    (hk : k = (j : Int)) (hx : vs[j]? = some x) (hfit : j < 100) (h : Q x s)
    (hs : subscripted slice false (.ref q) (.int k u) = operate [.ref q, .int k u] (getItem (.ref q) (.int k u)) := by with_unfolding_all rfl) :
    wpAny (model prog w) A (subscriptTail value slice (.ref q) (.int k u)) Q E s := by
  have hl : s.heap.IsList q vs.toArray := News.isList N hm
  exact tail_any hl.typeIs slot_list_getitem.lookup (wpAny_getItem_list hl (by omega) (by omega) (by subst hk; simpa using hx) h) hs
end
theorem Clm.open1 {w : World} {loose : List Str} {mean : ExcName → Option Value} {mg mb : Str → Option Value} {D : Nat} {f : Addr} {vs : List Value} {news : List (Addr × Obj)} {R : Tok → Value} {x : Addr × Obj} (hx : x ∈ news)
    (C : Clm w loose mean mg mb D f vs (x :: news) (RetV (x :: news) R)) : Clm w loose mean mg mb D f vs news (RetV news R) := by
  intro dp un gd cn cs a ccd cl outer A₀ base h₀ L m s Q E B F X N T hk hdp hun hret
  exact C dp un gd cn cs a ccd cl outer A₀ base h₀ L m s Q E B F X (List.forall_mem_cons.mpr ⟨N _ hx, N⟩) T hk hdp hun (fun t h' tk' F' N' => hret t h' tk' F' (fun p hp => N' p (.tail _ hp)))

section
variable {prog : Program} {w : World} {A : Around} {E : Value → Shared → Prop} {s : Shared}
theorem adjust_to (b n : Nat) (hb : b ≤ n) : Builtin.Slice.sliceAdjust none (some (b : Int)) 1 (n : Int) = (0, (b : Int)) := by
  unfold Builtin.Slice.sliceAdjust
  have h1 : ¬ ((1 : Int) < 0) := by omega
  have h2 : ¬ ((b : Int) < 0) := by omega
  simp only [h1, h2, if_false]
  congr 1
  omega
theorem places_to (b : Nat) : Builtin.Slice.slicePlaces 0 (b : Int) 1 = b := by
  unfold Builtin.Slice.slicePlaces
  have h1 : (1 : Int) > 0 := by omega
  simp only [h1, if_true, Int.ediv_one]
  split <;> omega
theorem sliceApplied_to {sl : Addr} {b n : Nat} {u : Tok} {Q : Int × Int × Nat → Shared → Prop} (hs : s.heap.IsSliceOf sl .none (.int b u) .none) (hb : b ≤ n) (h : Q (0, 1, b) s) :
    wpAny (model prog w) A (Builtin.Slice.sliceApplied (.ref sl) (pure (n : Int))) Q E s := by
  obtain ⟨os, hos, hcs, hds⟩ := id hs
  unfold Builtin.Slice.sliceApplied Builtin.Slice.sliceFields
  refine wpAny_bind (wpAny_bind (wpAny_field hos hds (x := .none) rfl (wpAny_bind (wpAny_field hos hds (x := .int b u) rfl (wpAny_bind (wpAny_field hos hds (x := .none) rfl (wpAny_pure ?_)))))))
  refine wpAny_bind (slicePart_none ?_)
  show wpAny _ _ (if ((1 : Int) == 0) = true then _ else _) _ _ s
  rw [if_neg (by decide)]
  refine wpAny_bind (slicePart_none (wpAny_bind (slicePart_int (wpAny_bind (wpAny_pure ?_)))))
  show wpAny _ _ (match Builtin.Slice.sliceAdjust none (some (b : Int)) 1 (n : Int) with | (lo, hi) => pure (lo, (1 : Int), Builtin.Slice.slicePlaces lo hi 1)) _ _ s
  rw [adjust_to b n hb]
  show wpAny _ _ (pure ((0 : Int), (1 : Int), Builtin.Slice.slicePlaces 0 (b : Int) 1)) _ _ s
  rw [places_to b]
  exact wpAny_pure h
theorem pick_to (xs : Array Value) (b : Nat) : ((List.range b).filterMap fun (k : Nat) => xs[((0 : Int) + (k : Int) * 1).toNat]?).toArray = (xs.toList.take b).toArray := by
  have e : (fun (k : Nat) => xs[((0 : Int) + (k : Int) * 1).toNat]?) = fun k => xs[0 + k]? := by
    funext k
    have : ((0 : Int) + (k : Int) * 1).toNat = 0 + k := by omega
    rw [this]
  rw [e]
  have := pick_run xs 0 b
  rw [List.filterMap_map] at this
  have e2 : ((fun x => xs[x]?) ∘ fun x => 0 + x) = fun k => xs[0 + k]? := rfl
  rw [e2] at this
  rw [this, List.drop_zero]
theorem getItem_tuple_to {t sl : Addr} {items : Array Value} {b : Nat} {u : Tok} {Q : Value → Shared → Prop} (ht : IsTup s.heap t items) (hs : s.heap.IsSliceOf sl .none (.int b u) .none) (hb : b < items.size)
    (h : Q (.ref s.heap.objs.size) { s with heap := s.heap.push { cls := .type "tuple", data := .seq (items.toList.take b).toArray } })
    (hsz : items.size ≤ sizeLine) : wpAny (model prog w) A (getItem (.ref t) (.ref sl)) Q E s := by
  have hdrop : sizeOk (.seq (items.toList.take b).toArray) := by
    show (items.toList.take b).toArray.size ≤ sizeLine
    rw [List.size_toArray, List.length_take, Array.length_toList]
    omega
  obtain ⟨os, hos, hcs, hds⟩ := id hs
  have hTs : s.TypeIs (.ref sl) "slice" := ⟨os, hos, hcs⟩
  unfold getItem
  try with_reducible refine wpAny_holding ?_
  first | refine wpAny_bind (wpAny_pure ?_) | skip
  refine wpAny_bind (wpAny_sequenceKey ht.typeIs (by decide) ?_)
  refine wpAny_bind (wpAny_callSpecial?_slot (name := Str.ofString "__getitem__") ht.typeIs slot_tuple_getitem
    (wpAny_call_entry slot_tuple_getitem ht.typeIs entry_tuple_getitem ?_ (args_tuple_getitem _ _)))
  show wpAny _ _ (Builtin.Tuple.tupleItemsOf (.ref t) >>= _) _ _ s
  refine wpAny_bind (tupleItemsOf_ ht ?_)
  refine wpAny_bind (wpAny_typeOf hTs ?_)
  rw [if_pos (by decide)]
  refine wpAny_bind (sliceApplied_to hs (Nat.le_of_lt hb) ?_)
  have hno : ¬ (((0 : Int) == 0 && (1 : Int) == 1 && b == items.size) = true) := by
    simp; omega
  show wpAny _ _ (if ((0 : Int) == 0 && (1 : Int) == 1 && b == items.size) = true then _ else _) _ _ s
  rw [if_neg hno, pick_to items b]
  first
    | exact wpAny_bind (m := Builtin.Tuple.tupleExact _) (wpAny_newObj_type (wpAny_pure ⟨_, rfl, wpAny_pure h⟩) hdrop)
    | exact wpAny_bind (m := Builtin.Tuple.tupleExact _) (wpAny_newObj_type (wpAny_bind (wpAny_pure (wpAny_pure ⟨_, rfl, wpAny_pure h⟩))) hdrop)
    | exact wpAny_bind (wpAny_bind (m := Builtin.Tuple.tupleExact _) (wpAny_newObj_type (wpAny_pure (wpAny_pure ⟨_, rfl, wpAny_pure h⟩)) hdrop))
    | exact wpAny_bind (wpAny_bind (m := Builtin.Tuple.tupleExact _) (wpAny_newObj_type (wpAny_pure ⟨_, rfl, wpAny_pure h⟩) hdrop))
theorem getItem_tuple_all {t sl : Addr} {items : Array Value} {u : Tok} {Q : Value → Shared → Prop} (ht : IsTup s.heap t items) (hs : s.heap.IsSliceOf sl .none (.int items.size u) .none)
    (h : Q (.ref t) s) : wpAny (model prog w) A (getItem (.ref t) (.ref sl)) Q E s := by
  obtain ⟨os, hos, hcs, hds⟩ := id hs
  have hTs : s.TypeIs (.ref sl) "slice" := ⟨os, hos, hcs⟩
  unfold getItem
  try with_reducible refine wpAny_holding ?_
  first | refine wpAny_bind (wpAny_pure ?_) | skip
  refine wpAny_bind (wpAny_sequenceKey ht.typeIs (by decide) ?_)
  refine wpAny_bind (wpAny_callSpecial?_slot (name := Str.ofString "__getitem__") ht.typeIs slot_tuple_getitem
    (wpAny_call_entry slot_tuple_getitem ht.typeIs entry_tuple_getitem ?_ (args_tuple_getitem _ _)))
  show wpAny _ _ (Builtin.Tuple.tupleItemsOf (.ref t) >>= _) _ _ s
  refine wpAny_bind (tupleItemsOf_ ht ?_)
  refine wpAny_bind (wpAny_typeOf hTs ?_)
  rw [if_pos (by decide)]
  refine wpAny_bind (sliceApplied_to hs (Nat.le_refl _) ?_)
  have hyes : ((0 : Int) == 0 && (1 : Int) == 1 && items.size == items.size) = true := by simp
  show wpAny _ _ (if ((0 : Int) == 0 && (1 : Int) == 1 && items.size == items.size) = true then _ else _) _ _ s
  rw [if_pos hyes]
  have hex : ∀ (A' : Around) (E' : Value → Shared → Prop) (R : Bool → Shared → Prop), R true s → wpAny (model prog w) A' (Builtin.Tuple.tupleIsExact (.ref t)) R E' s := fun A' E' R hR => by
    unfold Builtin.Tuple.tupleIsExact
    refine wpAny_bind (wpAny_typeOf ht.typeIs (wpAny_pure ?_))
    exact hR
  refine wpAny_bind (hex _ _ _ ?_)
  show wpAny _ _ (if true = true then _ else _) _ _ s
  rw [if_pos rfl]
  exact wpAny_bind (wpAny_rule (wpAny_pure ⟨_, rfl, wpAny_pure h⟩))
end
section
variable {prog : Program} {w : World} {A : Around} {E : Value → Shared → Prop} {s : Shared} {h₀ : Heap} {L : Addr} {m : Str → Option Value} {news : List (Addr × Obj)}
theorem slice_tuple_to {value slice : PySem.Expr} {t : Addr} {vs : List Value} {u : Tok} {Q : Value → Shared → Prop} (b : Nat) {y : Int}
    (F : Fr h₀ L s.heap m) (N : News h₀ L s.heap news) (hm : (t, tupObj vs) ∈ news) (hy : y = (b : Int)) {zs : List Value} (hb : b < vs.length) (hz : vs.length ≤ 100) (e : vs.take b = zs)
    (h : ∀ D h', Fr h₀ L h' m → News h₀ L h' ((D, tupObj zs) :: news) → AllLt D news → Q (.ref D) { s with heap := h' })
    (hs : subscripted slice false (.ref t) (.ref s.heap.objs.size) = operate [.ref s.heap.objs.size, .ref t] (getItem (.ref t) (.ref s.heap.objs.size)) := by with_unfolding_all rfl)
    (hg : ∀ r, letTemporaryGo value (.ref t) r = pure () := by intro _; with_unfolding_all rfl) :
    wpAny (model prog w) A (subscriptTail value slice (.ref t) (.ref s.heap.objs.size)) Q E { s with heap := s.heap.push { cls := .type "slice", data := .fields #[.none, .int y u, .none] } } := by
  subst hy e
  have ht : IsTup s.heap t vs.toArray := News.isTup N hm
  have ht' : IsTup (s.heap.push { cls := .type "slice", data := .fields #[.none, .int b u, .none] }) t vs.toArray := ht.keeps fun _ _ e => Heap.get?_push_of_some _ e
  have hz' : vs.toArray.size ≤ sizeLine := by rw [List.size_toArray, sizeLine_eq]; omega
  refine subscriptTail_ops (s := { s with heap := s.heap.push { cls := .type "slice", data := .fields #[.none, .int b u, .none] } }) ht'.typeIs slot_tuple_getitem.lookup
    (getItem_tuple_to ht' (Heap.IsSliceOf.new ..) (by simpa using hb) ?_ hz') hs hg
  have N1 := News.push (F.push { cls := .type "slice", data := .fields #[.none, .int b u, .none] }) (N.grown fun _ _ e => Heap.get?_push_of_some _ e) { cls := .type "tuple", data := .seq (vs.toArray.toList.take b).toArray }
  exact h _ _ ((F.push _).push _) N1 (allLt_of fun p hp => by rw [Heap.size_push]; exact Nat.lt_succ_of_lt (Heap.lt_size (N p hp).1))
theorem slice_tuple_all {value slice : PySem.Expr} {t : Addr} {vs : List Value} {u : Tok} {Q : Value → Shared → Prop} {y : Int}
    (F : Fr h₀ L s.heap m) (N : News h₀ L s.heap news) (hm : (t, tupObj vs) ∈ news) (hy : y = (vs.length : Int))
    (h : ∀ h', Fr h₀ L h' m → News h₀ L h' news → Q (.ref t) { s with heap := h' })
    (hs : subscripted slice false (.ref t) (.ref s.heap.objs.size) = operate [.ref s.heap.objs.size, .ref t] (getItem (.ref t) (.ref s.heap.objs.size)) := by with_unfolding_all rfl)
    (hg : ∀ r, letTemporaryGo value (.ref t) r = pure () := by intro _; with_unfolding_all rfl) :
    wpAny (model prog w) A (subscriptTail value slice (.ref t) (.ref s.heap.objs.size)) Q E { s with heap := s.heap.push { cls := .type "slice", data := .fields #[.none, .int y u, .none] } } := by
  subst hy
  have ht : IsTup s.heap t vs.toArray := News.isTup N hm
  have ht' : IsTup (s.heap.push { cls := .type "slice", data := .fields #[.none, .int vs.length u, .none] }) t vs.toArray := ht.keeps fun _ _ e => Heap.get?_push_of_some _ e
  refine subscriptTail_ops (s := { s with heap := s.heap.push { cls := .type "slice", data := .fields #[.none, .int vs.length u, .none] } }) ht'.typeIs slot_tuple_getitem.lookup
    (getItem_tuple_all ht' (Heap.IsSliceOf.new ..) ?_) hs hg
  exact h _ (F.push _) (N.grown fun _ _ e => Heap.get?_push_of_some _ e)
noncomputable def catS : List Str → Str
  | [] => Str.ofString ""
  | [a] => a
  | a :: b :: r => a ++ catS (b :: r)
theorem catS_cps : ∀ ys : List Str, (catS ys).cps.toList = ys.flatMap fun y => y.cps.toList
  | [] => by decide +kernel
  | [a] => by simp [catS]
  | a :: b :: r => by
    show (a ++ catS (b :: r)).cps.toList = _
    rw [Str.cps_append, Array.toList_append, catS_cps (b :: r)]; rfl
theorem catS_len (ys : List Str) : (catS ys).length = (ys.map (·.length)).sum := by
  have h := congrArg List.length (catS_cps ys)
  have e : (catS ys).cps.toList.length = (catS ys).length := by simp [Str.length]
  rw [e] at h
  rw [h, List.length_flatMap]
  congr 1
theorem sjoin_eq : ∀ ys : List Str, Str.join (Str.ofString "") ys = catS ys
  | [] => by decide +kernel
  | [a] => rfl
  | a :: b :: r => by
    have e : Str.ofString "" = Str.empty := by decide +kernel
    show a ++ Str.ofString "" ++ Str.join (Str.ofString "") (b :: r) = a ++ catS (b :: r)
    rw [sjoin_eq (b :: r), e, Str.append_empty]
theorem join_eq (ys : List Str) : Txt.join (Str.ofString "") ys = catS ys := (StrLaws.glued_eq_join _ ys).trans (sjoin_eq ys)
theorem join_cat {q : Addr} {ys : List Str} {vs : List Value} {n : Nat} {t : Tok} {Q : Value → Shared → Prop} (N : News h₀ L s.heap news) (hm : (q, W.listOf vs.toArray n) ∈ news) (hv : StrsAre vs ys) (hn : ys.length ≤ 10) (hw : (ys.map (·.length)).sum ≤ 40)
    (h : ∀ T t' k, T = catS ys → T.length ≤ 40 → Q (.str T t') { s with toks := k }) :
    wpAny (model prog w) A (call (.builtin "str.join") [.str (Str.ofString "") t, .ref q]) Q E s :=
  join_listW (News.isList N hm) (by simpa using hv) (by decide +kernel) (by omega) (fun t' k => by rw [join_eq]; exact h _ t' k rfl (by rw [catS_len]; exact hw))
end

noncomputable def At (x : Str) (a : Int) (r : List Nat) : Prop := 0 ≤ a ∧ a ≤ x.length ∧ x.cps.toList.drop a.toNat = r
theorem At.start (x : Str) : At x 0 x.cps.toList := ⟨by omega, by omega, by simp⟩
theorem len_list (x : Str) : x.cps.toList.length = x.length := by simp [Str.length]
theorem At.len {x : Str} {a : Int} {r : List Nat} (A : At x a r) : (x.length : Int) = a + r.length := by
  obtain ⟨h0, h1, rfl⟩ := A
  rw [List.length_drop, len_list]; omega
theorem At.adv {x : Str} {a : Int} {r : List Nat} (A : At x a r) {k : Nat} (hk : k ≤ r.length) : At x (a + k) (r.drop k) := by
  have hl := A.len
  obtain ⟨h0, h1, rfl⟩ := A
  refine ⟨by omega, by omega, ?_⟩
  rw [List.drop_drop]; congr 1; omega
theorem At.sub {x : Str} {a : Int} {r : List Nat} (A : At x a r) (n : Nat) : (sub x a n).cps.toList = r.take n := by
  obtain ⟨h0, h1, rfl⟩ := A
  have e := slice_list (x := x) (a := a) (n := (n : Int)) h0 h1 (by omega)
  exact e.trans (by simp)
theorem str_eq {x y : Str} : x = y ↔ x.cps.toList = y.cps.toList := ⟨fun h => by rw [h], fun h => Str.ext' (Array.toList_inj.mp h)⟩
noncomputable def hasL (r : List Nat) (b : Bool) (c : Nat) : Bool := !b && decide (r.head? = some c)
theorem has_sim {x : Str} {a : Int} {r : List Nat} {b : Bool} {sg : Str} {c : Nat} (A : At x a r) (hs : sg.cps.toList = [c]) :
    hasB x a b sg = hasL r b c ∧ (hasL r b c = true → At x (a + (sg.length : Int)) r.tail) := by
  have hl : sg.length = 1 := by rw [← len_list, hs]; rfl
  have e : (sub x a (sg.length : Int) == sg) = decide (r.head? = some c) := by
    rw [hl, Bool.eq_iff_iff]
    simp only [beq_iff_eq, decide_eq_true_eq]
    rw [str_eq, A.sub 1, hs]
    cases r with
    | nil => simp
    | cons d r => simp
  constructor
  · unfold hasB hasL; rw [e]
  · intro h
    unfold hasL at h
    simp only [Bool.and_eq_true, decide_eq_true_eq] at h
    cases r with
    | nil => simp at h
    | cons d r => rw [hl]; exact A.adv (k := 1) (by simp)
noncomputable def needL (r : List Nat) (b : Bool) (c : Nat) : List Nat × Bool := if hasL r b c = true then (r.tail, b) else (r, true)
theorem need_sim {x : Str} {a : Int} {r : List Nat} {b : Bool} {sg : Str} {c : Nat} (A : At x a r) (hs : sg.cps.toList = [c]) :
    ∃ a' r' b', needF x a b sg = (a', b') ∧ needL r b c = (r', b') ∧ At x a' r' := by
  obtain ⟨e, h⟩ := has_sim (b := b) A hs
  unfold needF needL
  rw [e]
  cases hh : hasL r b c
  · exact ⟨_, _, _, rfl, rfl, A⟩
  · exact ⟨_, _, _, rfl, rfl, h hh⟩
noncomputable def nofN (l : List Nat) : Option Int := if l = [] then none else nofL 0 (l.map fun (c : Nat) => (c : Int))
theorem nof_N (x : Str) : nof x = nofN x.cps.toList := by
  unfold nof nofN
  have e : x.length = 0 ↔ x.cps.toList = [] := by rw [← len_list, List.length_eq_zero_iff]
  by_cases h : x.length = 0
  · rw [if_pos h, if_pos (e.mp h)]
  · rw [if_neg h, if_neg (fun g => h (e.mpr g))]; rfl
noncomputable def numL (r : List Nat) (b : Bool) (wd : Nat) (lo hi : Int) : Int × List Nat × Bool :=
  if b = true ∨ r.length < wd then (lo, r, true) else match nofN (r.take wd) with
    | none => (lo, r, true)
    | some v => if lo ≤ v ∧ v ≤ hi then (v, r.drop wd, b) else (lo, r, true)
theorem num_sim {x : Str} {a : Int} {r : List Nat} {b : Bool} (wd : Nat) (lo hi : Int) (A : At x a r) :
    ∃ v a' r' b', numF x a b wd lo hi = (v, a', b') ∧ numL r b wd lo hi = (v, r', b') ∧ At x a' r' := by
  have hl := A.len
  unfold numF numL
  by_cases h : b = true ∨ r.length < wd
  · rw [if_pos h, if_pos (by rcases h with h | h; exact .inl h; right; omega)]
    exact ⟨_, _, _, _, rfl, rfl, A⟩
  · rw [if_neg h, if_neg (by rintro (g | g); exact h (.inl g); exact h (.inr (by omega))), nof_N, A.sub wd]
    cases nofN (r.take wd) with
    | none => exact ⟨_, _, _, _, rfl, rfl, A⟩
    | some v =>
      dsimp only
      split
      · exact ⟨_, _, _, _, rfl, rfl, A.adv (by omega)⟩
      · exact ⟨_, _, _, _, rfl, rfl, A⟩
theorem sg_plus : (Str.ofString "+").cps.toList = [43] := by decide +kernel
theorem sg_minus : (Str.ofString "-").cps.toList = [45] := by decide +kernel
theorem sg_dot : (Str.ofString ".").cps.toList = [46] := by decide +kernel
theorem sg_colon : (Str.ofString ":").cps.toList = [58] := by decide +kernel
theorem sg_T : (Str.ofString "T").cps.toList = [84] := by decide +kernel
theorem sg_Z : (Str.ofString "Z").cps.toList = [90] := by decide +kernel
noncomputable def yearL (r : List Nat) (b : Bool) : Int × List Nat × Bool :=
  if hasL r b 43 = true then numL r.tail b 6 0 999999
  else if hasL r b 45 = true then ((-(numL r.tail b 6 1 999999).1), (numL r.tail b 6 1 999999).2)
  else numL r b 4 0 9999
theorem year_sim {x : Str} {a : Int} {r : List Nat} {b : Bool} (A : At x a r) : ∃ v a' r' b', yearF x a b = (v, a', b') ∧ yearL r b = (v, r', b') ∧ At x a' r' := by
  obtain ⟨e1, h1⟩ := has_sim (b := b) A sg_plus
  obtain ⟨e2, h2⟩ := has_sim (b := b) A sg_minus
  unfold yearF yearL
  rw [e1, e2]
  cases hh : hasL r b 43
  · cases hg : hasL r b 45
    · exact num_sim 4 0 9999 A
    · obtain ⟨v, a', r', b', g1, g2, A'⟩ := num_sim (b := b) 6 1 999999 (h2 hg)
      have g1' : numF x (a + (Str.ofString "-").length) b 6 1 999999 = (v, a', b') := g1
      simp only [g1', g2, if_true, Bool.false_eq_true, if_false]
      exact ⟨_, _, _, _, rfl, rfl, A'⟩
  · exact num_sim 6 0 999999 (h1 hh)
noncomputable def zoneDL (n : Bool) (h : Int) (d : List Nat × Bool) : Int × List Nat × Bool := zoneM n h (numL d.1 d.2 2 0 59)
noncomputable def zoneHL (n : Bool) (h : Int × List Nat × Bool) : Int × List Nat × Bool := zoneDL n h.1 (needL h.2.1 h.2.2 58)
noncomputable def zoneCL (n : Bool) (c : List Nat × Bool) : Int × List Nat × Bool := zoneHL n (numL c.1 c.2 2 0 23)
noncomputable def zoneL (r : List Nat) (b : Bool) : Int × List Nat × Bool := if hasL r b 45 = true then zoneCL true (r.tail, b) else zoneCL false (needL r b 43)
theorem zoneL_y {r : List Nat} {v1 : Int} {r1 r2 : List Nat} {v2 : Int} {rb : List Nat × Bool} {b b1 b2 : Bool} (h : hasL r b 45 = true) (e1 : numL r.tail b 2 0 23 = (v1, r1, b1)) (e2 : needL r1 b1 58 = (r2, b2)) (e3 : numL r2 b2 2 0 59 = (v2, rb)) :
    zoneL r b = (-(v1 * 60 + v2), rb) :=
  (if_pos h).trans ((congrArg (zoneHL true) e1).trans ((congrArg (zoneDL true v1) e2).trans (congrArg (zoneM true v1) e3)))
theorem zoneL_n {r r0 : List Nat} {v1 : Int} {r1 r2 : List Nat} {v2 : Int} {rb : List Nat × Bool} {b b0 b1 b2 : Bool} (h : hasL r b 45 = false) (e0 : needL r b 43 = (r0, b0)) (e1 : numL r0 b0 2 0 23 = (v1, r1, b1)) (e2 : needL r1 b1 58 = (r2, b2)) (e3 : numL r2 b2 2 0 59 = (v2, rb)) :
    zoneL r b = (v1 * 60 + v2, rb) :=
  (if_neg (nt h)).trans ((congrArg (zoneCL false) e0).trans ((congrArg (zoneHL false) e1).trans ((congrArg (zoneDL false v1) e2).trans (congrArg (zoneM false v1) e3))))
theorem zone_sim {x : Str} {a : Int} {r : List Nat} {b : Bool} (A : At x a r) : ∃ v a' r' b', zoneF x a b = (v, a', b') ∧ zoneL r b = (v, r', b') ∧ At x a' r' := by
  obtain ⟨e1, h1⟩ := has_sim (b := b) A sg_minus
  cases hh : hasL r b 45
  · obtain ⟨a₁, r₁, b₁, k1, k2, A₁⟩ := need_sim (b := b) A sg_plus
    obtain ⟨v₂, a₂, r₂, b₂, f2, g2, A₂⟩ := num_sim (b := b₁) 2 0 23 A₁
    obtain ⟨a₃, r₃, b₃, f3, g3, A₃⟩ := need_sim (b := b₂) A₂ sg_colon
    obtain ⟨v₄, a₄, r₄, b₄, f4, g4, A₄⟩ := num_sim (b := b₃) 2 0 59 A₃
    exact ⟨_, _, _, _, zoneF_n (e1.trans hh) k1 f2 f3 f4, zoneL_n hh k2 g2 g3 g4, A₄⟩
  · obtain ⟨v₂, a₂, r₂, b₂, f2, g2, A₂⟩ := num_sim (b := b) 2 0 23 (h1 hh)
    obtain ⟨a₃, r₃, b₃, f3, g3, A₃⟩ := need_sim (b := b₂) A₂ sg_colon
    obtain ⟨v₄, a₄, r₄, b₄, f4, g4, A₄⟩ := num_sim (b := b₃) 2 0 59 A₃
    exact ⟨_, _, _, _, zoneF_y (e1.trans hh) f2 f3 f4, zoneL_y hh g2 g3 g4, A₄⟩
noncomputable def clockSL (h m : Int) (s : Int × List Nat × Bool) : (Int × Int × Int × Int) × List Nat × Bool :=
  if hasL s.2.1 s.2.2 46 = true then clockU h m s.1 (numL s.2.1.tail s.2.2 3 0 999) else clockU h m s.1 (0, s.2)
noncomputable def clockML (h : Int) (m : Int × List Nat × Bool) : (Int × Int × Int × Int) × List Nat × Bool :=
  if hasL m.2.1 m.2.2 58 = true then clockSL h m.1 (numL m.2.1.tail m.2.2 2 0 59) else clockU h m.1 0 (0, m.2)
noncomputable def clockDL (h : Int) (d : List Nat × Bool) : (Int × Int × Int × Int) × List Nat × Bool := clockML h (numL d.1 d.2 2 0 59)
noncomputable def clockHL (h : Int × List Nat × Bool) : (Int × Int × Int × Int) × List Nat × Bool := clockDL h.1 (needL h.2.1 h.2.2 58)
noncomputable def clockL (r : List Nat) (b : Bool) : (Int × Int × Int × Int) × List Nat × Bool := clockHL (numL r b 2 0 24)
section
variable {r r1 r2 r3 r4 r5 : List Nat} {h m v u : Int} {b b1 b2 b3 b4 b5 : Bool}
theorem clockL_1 (e1 : numL r b 2 0 24 = (h, r1, b1)) (e2 : needL r1 b1 58 = (r2, b2)) (e3 : numL r2 b2 2 0 59 = (m, r3, b3)) (g : hasL r3 b3 58 = false) :
    clockL r b = ((h, m, 0, 0), r3, if h = 24 ∧ 0 < m + 0 + 0 then true else b3) :=
  (congrArg clockHL e1).trans ((congrArg (clockDL h) e2).trans ((congrArg (clockML h) e3).trans (if_neg (nt g))))
theorem clockL_2 (e1 : numL r b 2 0 24 = (h, r1, b1)) (e2 : needL r1 b1 58 = (r2, b2)) (e3 : numL r2 b2 2 0 59 = (m, r3, b3)) (g : hasL r3 b3 58 = true)
    (e4 : numL r3.tail b3 2 0 59 = (v, r4, b4)) (g2 : hasL r4 b4 46 = false) : clockL r b = ((h, m, v, 0), r4, if h = 24 ∧ 0 < m + v + 0 then true else b4) :=
  (congrArg clockHL e1).trans ((congrArg (clockDL h) e2).trans ((congrArg (clockML h) e3).trans ((if_pos g).trans ((congrArg (clockSL h m) e4).trans (if_neg (nt g2))))))
theorem clockL_3 (e1 : numL r b 2 0 24 = (h, r1, b1)) (e2 : needL r1 b1 58 = (r2, b2)) (e3 : numL r2 b2 2 0 59 = (m, r3, b3)) (g : hasL r3 b3 58 = true)
    (e4 : numL r3.tail b3 2 0 59 = (v, r4, b4)) (g2 : hasL r4 b4 46 = true) (e5 : numL r4.tail b4 3 0 999 = (u, r5, b5)) : clockL r b = ((h, m, v, u), r5, if h = 24 ∧ 0 < m + v + u then true else b5) :=
  (congrArg clockHL e1).trans ((congrArg (clockDL h) e2).trans ((congrArg (clockML h) e3).trans ((if_pos g).trans ((congrArg (clockSL h m) e4).trans ((if_pos g2).trans (congrArg (clockU h m v) e5))))))
end
theorem clock_sim {x : Str} {a : Int} {r : List Nat} {b : Bool} (A : At x a r) : ∃ v a' r' b', clockF x a b = (v, a', b') ∧ clockL r b = (v, r', b') ∧ At x a' r' := by
  obtain ⟨v₂, a₂, r₂, b₂, f2, g2, A₂⟩ := num_sim (b := b) 2 0 24 A
  obtain ⟨a₃, r₃, b₃, f3, g3, A₃⟩ := need_sim (b := b₂) A₂ sg_colon
  obtain ⟨v₄, a₄, r₄, b₄, f4, g4, A₄⟩ := num_sim (b := b₃) 2 0 59 A₃
  obtain ⟨e5, h5⟩ := has_sim (b := b₄) A₄ sg_colon
  cases hh : hasL r₄ b₄ 58
  · exact ⟨_, _, _, _, clockF_1 f2 f3 f4 (e5.trans hh), clockL_1 g2 g3 g4 hh, A₄⟩
  · obtain ⟨v₆, a₆, r₆, b₆, f6, g6, A₆⟩ := num_sim (b := b₄) 2 0 59 (h5 hh)
    obtain ⟨e7, h7⟩ := has_sim (b := b₆) A₆ sg_dot
    cases hg : hasL r₆ b₆ 46
    · exact ⟨_, _, _, _, clockF_2 f2 f3 f4 (e5.trans hh) f6 (e7.trans hg), clockL_2 g2 g3 g4 hh g6 hg, A₆⟩
    · obtain ⟨v₈, a₈, r₈, b₈, f8, g8, A₈⟩ := num_sim (b := b₆) 3 0 999 (h7 hg)
      exact ⟨_, _, _, _, clockF_3 f2 f3 f4 (e5.trans hh) f6 (e7.trans hg) f8, clockL_3 g2 g3 g4 hh g6 hg g8, A₈⟩
noncomputable def dayML (y : Int) (m : Int × List Nat × Bool) : (Int × Int × Int) × List Nat × Bool :=
  if hasL m.2.1 m.2.2 45 = true then (fun d : Int × List Nat × Bool => ((y, m.1, d.1), d.2)) (numL m.2.1.tail m.2.2 2 1 (da (m.1 - 1 + 1) (leap y) - da (m.1 - 1) (leap y))) else ((y, m.1, 1), m.2)
noncomputable def dayYL (y : Int × List Nat × Bool) : (Int × Int × Int) × List Nat × Bool :=
  if hasL y.2.1 y.2.2 45 = true then dayML y.1 (numL y.2.1.tail y.2.2 2 1 12) else ((y.1, 1, 1), y.2)
noncomputable def dayL (r : List Nat) : (Int × Int × Int) × List Nat × Bool := dayYL (yearL r false)
section
variable {r r1 r2 r3 : List Nat} {y m d : Int} {b1 b2 b3 : Bool}
theorem dayL_1 (e : yearL r false = (y, r1, b1)) (g : hasL r1 b1 45 = false) : dayL r = ((y, 1, 1), r1, b1) := (congrArg dayYL e).trans (if_neg (nt g))
theorem dayL_2 (e : yearL r false = (y, r1, b1)) (g : hasL r1 b1 45 = true) (e2 : numL r1.tail b1 2 1 12 = (m, r2, b2)) (g2 : hasL r2 b2 45 = false) : dayL r = ((y, m, 1), r2, b2) :=
  (congrArg dayYL e).trans ((if_pos g).trans ((congrArg (dayML y) e2).trans (if_neg (nt g2))))
theorem dayL_3 (e : yearL r false = (y, r1, b1)) (g : hasL r1 b1 45 = true) (e2 : numL r1.tail b1 2 1 12 = (m, r2, b2)) (g2 : hasL r2 b2 45 = true)
    (e3 : numL r2.tail b2 2 1 (da (m - 1 + 1) (leap y) - da (m - 1) (leap y)) = (d, r3, b3)) : dayL r = ((y, m, d), r3, b3) :=
  (congrArg dayYL e).trans ((if_pos g).trans ((congrArg (dayML y) e2).trans ((if_pos g2).trans (congrArg (fun d : Int × List Nat × Bool => ((y, m, d.1), d.2)) e3))))
end
theorem day_sim {x : Str} {r : List Nat} (A : At x 0 r) : ∃ v a' r' b', dayF x = (v, a', b') ∧ dayL r = (v, r', b') ∧ At x a' r' := by
  obtain ⟨v₂, a₂, r₂, b₂, f2, g2, A₂⟩ := year_sim (b := false) A
  obtain ⟨e3, h3⟩ := has_sim (b := b₂) A₂ sg_minus
  cases hh : hasL r₂ b₂ 45
  · exact ⟨_, _, _, _, dayF_1 f2 (e3.trans hh), dayL_1 g2 hh, A₂⟩
  · obtain ⟨v₄, a₄, r₄, b₄, f4, g4, A₄⟩ := num_sim (b := b₂) 2 1 12 (h3 hh)
    obtain ⟨e5, h5⟩ := has_sim (b := b₄) A₄ sg_minus
    cases hg : hasL r₄ b₄ 45
    · exact ⟨_, _, _, _, dayF_2 f2 (e3.trans hh) f4 (e5.trans hg), dayL_2 g2 hh g4 hg, A₄⟩
    · obtain ⟨v₆, a₆, r₆, b₆, f6, g6, A₆⟩ := num_sim (b := b₄) 2 1 (da (v₄ - 1 + 1) (leap v₂) - da (v₄ - 1) (leap v₂)) (h5 hg)
      exact ⟨_, _, _, _, dayF_3 f2 (e3.trans hh) f4 (e5.trans hg) f6, dayL_3 g2 hh g4 hg g6, A₆⟩
noncomputable def restCL (c : (Int × Int × Int × Int) × List Nat × Bool) : ((Int × Int × Int × Int) × Int) × List Nat × Bool :=
  if hasL c.2.1 c.2.2 90 = true then ((c.1, 0), c.2.1.tail, c.2.2)
  else if c.2.1 ≠ [] then (fun z : Int × List Nat × Bool => ((c.1, z.1), z.2)) (zoneL c.2.1 c.2.2) else ((c.1, 0), c.2)
noncomputable def restL (r : List Nat) (b : Bool) : ((Int × Int × Int × Int) × Int) × List Nat × Bool :=
  if hasL r b 84 = true then restCL (clockL r.tail b) else (((0, 0, 0, 0), 0), r, b)
section
variable {r r1 : List Nat} {c : Int × Int × Int × Int} {z : Int} {b b1 : Bool} {rb : List Nat × Bool}
theorem restL_1 (g : hasL r b 84 = false) : restL r b = (((0, 0, 0, 0), 0), r, b) := if_neg (nt g)
theorem restL_2 (g : hasL r b 84 = true) (e : clockL r.tail b = (c, r1, b1)) (g2 : hasL r1 b1 90 = true) : restL r b = ((c, 0), r1.tail, b1) := (if_pos g).trans ((congrArg restCL e).trans (if_pos g2))
theorem restL_3 (g : hasL r b 84 = true) (e : clockL r.tail b = (c, r1, b1)) (g2 : hasL r1 b1 90 = false) (l : r1 ≠ []) (e2 : zoneL r1 b1 = (z, rb)) : restL r b = ((c, z), rb) :=
  (if_pos g).trans ((congrArg restCL e).trans ((if_neg (nt g2)).trans ((if_pos l).trans (congrArg (fun z : Int × List Nat × Bool => ((c, z.1), z.2)) e2))))
theorem restL_4 (g : hasL r b 84 = true) (e : clockL r.tail b = (c, [], b1)) (g2 : hasL [] b1 90 = false) : restL r b = ((c, 0), [], b1) :=
  (if_pos g).trans ((congrArg restCL e).trans ((if_neg (nt g2)).trans (if_neg (not_not_intro rfl))))
end
theorem rest_sim {x : Str} {a : Int} {r : List Nat} {b : Bool} (A : At x a r) : ∃ v a' r' b', restF x a b = (v, a', b') ∧ restL r b = (v, r', b') ∧ At x a' r' := by
  obtain ⟨e1, h1⟩ := has_sim (b := b) A sg_T
  cases hh : hasL r b 84
  · exact ⟨_, _, _, _, restF_1 (e1.trans hh), restL_1 hh, A⟩
  · obtain ⟨v₂, a₂, r₂, b₂, f2, g2, A₂⟩ := clock_sim (b := b) (h1 hh)
    obtain ⟨e3, h3⟩ := has_sim (b := b₂) A₂ sg_Z
    cases hg : hasL r₂ b₂ 90
    · have hl := A₂.len
      cases r₂ with
      | nil => exact ⟨_, _, _, _, restF_4 (e1.trans hh) f2 (e3.trans hg) (by rw [hl]; exact Int.not_lt.mpr (Int.le_of_eq (Int.add_zero a₂))), restL_4 hh g2 hg, A₂⟩
      | cons c l =>
        obtain ⟨v₄, a₄, r₄, b₄, f4, g4, A₄⟩ := zone_sim (b := b₂) A₂
        exact ⟨_, _, _, _, restF_3 (e1.trans hh) f2 (e3.trans hg) (by rw [hl]; exact Int.lt_add_of_pos_right a₂ (Int.ofNat_lt.mpr (Nat.succ_pos _))) f4, restL_3 hh g2 hg (List.cons_ne_nil _ _) g4, A₄⟩
    · exact ⟨_, _, _, _, restF_2 (e1.trans hh) f2 (e3.trans hg), restL_2 hh g2 hg, h3 hg⟩
noncomputable def parseRL (d : Int × Int × Int) (r : ((Int × Int × Int × Int) × Int) × List Nat × Bool) : Option Int :=
  if r.2.2 = false ∧ r.2.1 = [] then clip (mkdate (mkday d.1 (d.2.1 - 1) d.2.2) (mktime r.1.1.1 r.1.1.2.1 r.1.1.2.2.1 r.1.1.2.2.2) - r.1.2 * 60000) else none
noncomputable def parseDL (d : (Int × Int × Int) × List Nat × Bool) : Option Int := parseRL d.1 (restL d.2.1 d.2.2)
noncomputable def parseL (r : List Nat) : Option Int := parseDL (dayL r)
theorem parseL_1 {r r1 : List Nat} {d : Int × Int × Int} {b1 : Bool} {v : (Int × Int × Int × Int) × Int} {rb : List Nat × Bool} (e : dayL r = (d, r1, b1)) (e2 : restL r1 b1 = (v, rb)) : parseL r = parseRL d (v, rb) := (congrArg parseDL e).trans (congrArg (parseRL d) e2)
theorem parse_sim (x : Str) : parseF x = parseL x.cps.toList := by
  obtain ⟨v₂, a₂, r₂, b₂, f2, g2, A₂⟩ := day_sim (At.start x)
  obtain ⟨v₃, a₃, r₃, b₃, f3, g3, A₃⟩ := rest_sim (b := b₂) A₂
  rw [parseL_1 g2 g3]
  refine ((congrArg (parseDF x) f2).trans (congrArg (parseRF x v₂) f3)).trans ?_
  have e : endsB x a₃ b₃ = true ↔ (b₃ = false ∧ r₃ = []) := by
    have hl := A₃.len
    unfold endsB
    simp only [Bool.and_eq_true, Bool.not_eq_true', decide_eq_true_eq]
    rw [← List.length_eq_zero_iff]
    clear f2 g2 A₂ f3 g3 A₃
    constructor
    · rintro ⟨h1, h2⟩; exact ⟨h1, by omega⟩
    · rintro ⟨h1, h2⟩; exact ⟨h1, by omega⟩
  by_cases h : b₃ = false ∧ r₃ = []
  · exact (if_pos (e.mpr h)).trans (if_pos h).symm
  · exact (if_neg fun q => h (e.mp q)).trans (if_neg h).symm

theorem padL_mem : ∀ (w n : Nat), ∀ c ∈ padL n w, 48 ≤ c ∧ c ≤ 57 := by
  have key : ∀ (k n w : Nat), n + w ≤ k → ∀ c ∈ padL n w, 48 ≤ c ∧ c ≤ 57 := by
    intro k
    induction k with
    | zero => intro n w h c hc; rw [padL_eq] at hc; rw [if_pos (by omega)] at hc; cases hc
    | succ k ih =>
      intro n w h c hc
      rw [padL_eq] at hc
      split at hc
      · cases hc
      · rcases List.mem_append.mp hc with hc | hc
        · exact ih _ _ (by omega) c hc
        · have := List.mem_singleton.mp hc; omega
  exact fun w n => key (n + w) n w (Nat.le_refl _)
theorem padL_ne {n w : Nat} (h : 1 ≤ w) : padL n w ≠ [] := by
  rw [padL_eq]; rw [if_neg (by omega)]; simp
theorem nofL_pad : ∀ (w n : Nat), n < 10 ^ w → nofL 0 ((padL n w).map fun (c : Nat) => (c : Int)) = some (n : Int) := by
  intro w
  induction w with
  | zero =>
    intro n h
    have : n = 0 := by simpa using h
    subst this
    unfold padL; rfl
  | succ w ih =>
    intro n h
    rw [padL_eq]
    rw [if_neg (by omega), List.map_append, nofL_append, Nat.add_sub_cancel, ih (n / 10) (by rw [Nat.pow_succ] at h; omega), Option.bind_some]
    simp only [List.map_cons, List.map_nil, nofL]
    rw [if_pos (by omega)]
    congr 1; omega
theorem nofN_pad {n w : Nat} (h : n < 10 ^ w) (hw : 1 ≤ w) : nofN (padL n w) = some (n : Int) := by
  unfold nofN; rw [if_neg (padL_ne hw), nofL_pad w n h]
theorem numL_at {n w : Nat} {r : List Nat} {lo hi : Int} (h : n < 10 ^ w) (hw : 1 ≤ w) :
    numL (padL n w ++ r) false w lo hi = if lo ≤ n ∧ n ≤ hi then ((n : Int), r, false) else (lo, padL n w ++ r, true) := by
  have hl := padL_exact h
  unfold numL
  rw [if_neg (by simp [hl]), List.take_left' hl, nofN_pad h hw, List.drop_left' hl]
theorem numL_i {m : Int} {w : Nat} {r : List Nat} {lo hi : Int} (h0 : 0 ≤ m) (h : m.toNat < 10 ^ w) (hw : 1 ≤ w) (g0 : lo ≤ m) (g1 : m ≤ hi) : numL (padL m.toNat w ++ r) false w lo hi = (m, r, false) := by
  have e : ((m.toNat : Nat) : Int) = m := by omega
  rw [numL_at h hw, if_pos (by omega), e]
theorem numL_o {m : Int} {w : Nat} {r : List Nat} {lo hi : Int} (h0 : 0 ≤ m) (h : m.toNat < 10 ^ w) (hw : 1 ≤ w) (g : m < lo ∨ hi < m) : numL (padL m.toNat w ++ r) false w lo hi = (lo, padL m.toNat w ++ r, true) := by
  rw [numL_at h hw, if_neg (by omega)]
theorem numL_i2 {m : Int} {r : List Nat} {lo hi : Int} (h0 : 0 ≤ m) (h : m ≤ 99) (g0 : lo ≤ m) (g1 : m ≤ hi) : numL (padL m.toNat 2 ++ r) false 2 lo hi = (m, r, false) := numL_i h0 (by omega) (by omega) g0 g1
theorem numL_i3 {m : Int} {r : List Nat} {lo hi : Int} (h0 : 0 ≤ m) (h : m ≤ 999) (g0 : lo ≤ m) (g1 : m ≤ hi) : numL (padL m.toNat 3 ++ r) false 3 lo hi = (m, r, false) := numL_i h0 (by omega) (by omega) g0 g1
theorem numL_w {r : List Nat} {w : Nat} {lo hi : Int} : numL r true w lo hi = (lo, r, true) := by unfold numL; rw [if_pos (.inl rfl)]
theorem numL_short {r : List Nat} {b : Bool} {w : Nat} {lo hi : Int} (h : r.length < w) : numL r b w lo hi = (lo, r, true) := by unfold numL; rw [if_pos (.inr h)]
theorem numL_two {r : List Nat} {lo hi : Int} (a b : Nat) (ha : a < 10) (hb : b < 10) : numL ((48 + a) :: (48 + b) :: r) false 2 lo hi = if lo ≤ ((10 * a + b : Nat) : Int) ∧ ((10 * a + b : Nat) : Int) ≤ hi then (((10 * a + b : Nat) : Int), r, false) else (lo, (48 + a) :: (48 + b) :: r, true) := by
  unfold numL
  have e : nofN [48 + a, 48 + b] = some ((10 * a + b : Nat) : Int) := by
    unfold nofN
    rw [if_neg (by simp)]
    simp only [List.map_cons, List.map_nil, nofL]
    rw [if_pos (by omega), if_pos (by omega)]
    congr 1; omega
  rw [if_neg (by simp)]
  simp only [List.take_succ_cons, List.take_zero, List.drop_succ_cons, List.drop_zero, e]
theorem numL_nodig {c : Nat} {r : List Nat} {b : Bool} {w : Nat} {lo hi : Int} (hc : ¬ (48 ≤ c ∧ c ≤ 57)) (hw : 1 ≤ w) : numL (c :: r) b w lo hi = (lo, c :: r, true) := by
  unfold numL
  split
  · rfl
  · obtain ⟨k, rfl⟩ : ∃ k, w = k + 1 := ⟨w - 1, by omega⟩
    have e : nofN ((c :: r).take (k + 1)) = none := by
      unfold nofN
      rw [if_neg (by simp)]
      simp only [List.take_succ_cons, List.map_cons, nofL]
      rw [if_neg (by omega)]
    rw [e]
theorem hasL_nil {b : Bool} {c : Nat} : hasL [] b c = false := by unfold hasL; simp
theorem hasL_w {r : List Nat} {c : Nat} : hasL r true c = false := by unfold hasL; simp
theorem hasL_y {c : Nat} {r : List Nat} : hasL (c :: r) false c = true := by unfold hasL; simp
theorem hasL_n {c d : Nat} {r : List Nat} {b : Bool} (h : d ≠ c) : hasL (d :: r) b c = false := by unfold hasL; simp [h]
theorem hasL_dig {n w c : Nat} {r : List Nat} {b : Bool} (hw : 1 ≤ w) (hc : c < 48) : hasL (padL n w ++ r) b c = false := by
  have hm := padL_mem w n
  have hn := padL_ne (n := n) hw
  cases e : padL n w with
  | nil => exact absurd e hn
  | cons d l =>
    have := hm d (by rw [e]; exact .head _)
    exact hasL_n (by omega)
theorem needL_y {c : Nat} {r : List Nat} : needL (c :: r) false c = (r, false) := by unfold needL; rw [hasL_y]; rfl
theorem needL_w {c : Nat} {r : List Nat} : needL r true c = (r, true) := by unfold needL; rw [hasL_w]; rfl
theorem needL_n {c : Nat} {r : List Nat} {b : Bool} (h : hasL r b c = false) : needL r b c = (r, true) := by unfold needL; rw [h]; rfl
noncomputable def yL (Y : Int) : List Nat := (isoYear Y).cps.toList
theorem cps_pad (n w : Nat) : (padS n w).cps.toList = padL n w := by unfold padS; simp
theorem yL_eq (Y : Int) : yL Y = if 0 ≤ Y ∧ Y ≤ 9999 then padL Y.toNat 4 else (if Y < 0 then 45 else 43) :: padL Y.natAbs 6 := by
  unfold yL isoYear
  split
  · rw [cps_pad]
  · split
    · rw [Str.cps_append, Array.toList_append, sg_minus, cps_pad]; rfl
    · rw [Str.cps_append, Array.toList_append, sg_plus, cps_pad]; rfl
theorem yearL_iso {Y : Int} {r : List Nat} (h0 : -300000 ≤ Y) (h1 : Y ≤ 300000) : yearL (yL Y ++ r) false = (Y, r, false) := by
  rw [yL_eq]
  unfold yearL
  split
  · rw [hasL_dig (by omega) (by omega), hasL_dig (by omega) (by omega)]
    simp only [Bool.false_eq_true, if_false]
    exact numL_i (by omega) (by omega) (by omega) (by omega) (by omega)
  · split
    · rw [List.cons_append, hasL_n (by omega), hasL_y]
      simp only [Bool.false_eq_true, if_false, if_true, List.tail_cons]
      have e : numL (padL Y.natAbs 6 ++ r) false 6 1 999999 = ((Y.natAbs : Int), r, false) := by
        rw [numL_at (by omega) (by omega), if_pos (by omega)]
      rw [e]
      refine Prod.ext ?_ rfl
      show -(Y.natAbs : Int) = Y
      omega
    · rw [List.cons_append, hasL_y]
      simp only [if_true, List.tail_cons]
      rw [numL_at (by omega) (by omega), if_pos (by omega)]
      refine Prod.ext ?_ rfl
      show (Y.natAbs : Int) = Y
      omega
section
variable {Y m d h mi s u a b : Int} {r : List Nat}
theorem le99 {m k : Int} (h : m ≤ k) (hk : k ≤ 99 := by decide) : m ≤ 99 := Int.le_trans h hk
theorem le24 {h : Int} (h1 : h ≤ 23) : h ≤ 24 := Int.le_trans h1 (by decide)
theorem numH (h0 : 0 ≤ h) (h1 : h ≤ 23) : numL (padL h.toNat 2 ++ r) false 2 0 24 = (h, r, false) := numL_i2 h0 (le99 h1) h0 (le24 h1)
theorem numZ (h0 : 0 ≤ h) (h1 : h ≤ 23) : numL (padL h.toNat 2 ++ r) false 2 0 23 = (h, r, false) := numL_i2 h0 (le99 h1) h0 h1
theorem numM (h0 : 0 ≤ h) (h1 : h ≤ 59) : numL (padL h.toNat 2 ++ r) false 2 0 59 = (h, r, false) := numL_i2 h0 (le99 h1) h0 h1
theorem no24 {p : Prop} (h1 : h ≤ 23) : ¬ (h = 24 ∧ p) := fun c => absurd h1 (by rw [c.1]; decide)
theorem keep24 {α β : Type} {v : α} {r : β} {p : Prop} [Decidable (h = 24 ∧ p)] (h1 : h ≤ 23) : ((v, r, if h = 24 ∧ p then true else false) : α × β × Bool) = (v, r, false) := by rw [if_neg (no24 h1)]
theorem wrong24 {α β : Type} {v : α} {r : β} {p : Prop} [Decidable p] : ((v, r, if p then true else true) : α × β × Bool) = (v, r, true) := by rw [ite_self]
theorem day1 (h0 : -300000 ≤ Y) (h1 : Y ≤ 300000) (g : hasL r false 45 = false) : dayL (yL Y ++ r) = ((Y, 1, 1), r, false) := dayL_1 (yearL_iso h0 h1) g
theorem day2 (h0 : -300000 ≤ Y) (h1 : Y ≤ 300000) (m0 : 1 ≤ m) (m1 : m ≤ 12) (g : hasL r false 45 = false) : dayL (yL Y ++ 45 :: (padL m.toNat 2 ++ r)) = ((Y, m, 1), r, false) :=
  dayL_2 (yearL_iso h0 h1) hasL_y (numL_i2 (Int.le_trans (by decide) m0) (le99 m1) m0 m1) g
theorem day3 (h0 : -300000 ≤ Y) (h1 : Y ≤ 300000) (m0 : 1 ≤ m) (m1 : m ≤ 12) (d0 : 1 ≤ d) (d1 : d ≤ 31) (d2 : d ≤ da (m - 1 + 1) (leap Y) - da (m - 1) (leap Y)) :
    dayL (yL Y ++ 45 :: (padL m.toNat 2 ++ 45 :: (padL d.toNat 2 ++ r))) = ((Y, m, d), r, false) :=
  dayL_3 (yearL_iso h0 h1) hasL_y (numL_i2 (Int.le_trans (by decide) m0) (le99 m1) m0 m1) hasL_y (numL_i2 (Int.le_trans (by decide) d0) (le99 d1) d0 d2)
theorem clock1 (h0 : 0 ≤ h) (h1 : h ≤ 23) (m0 : 0 ≤ mi) (m1 : mi ≤ 59) (g : hasL r false 58 = false) : clockL (padL h.toNat 2 ++ 58 :: (padL mi.toNat 2 ++ r)) false = ((h, mi, 0, 0), r, false) :=
  (clockL_1 (numH h0 h1) needL_y (numM m0 m1) g).trans (keep24 h1)
theorem clock2 (h0 : 0 ≤ h) (h1 : h ≤ 23) (m0 : 0 ≤ mi) (m1 : mi ≤ 59) (s0 : 0 ≤ s) (s1 : s ≤ 59) (g : hasL r false 46 = false) :
    clockL (padL h.toNat 2 ++ 58 :: (padL mi.toNat 2 ++ 58 :: (padL s.toNat 2 ++ r))) false = ((h, mi, s, 0), r, false) :=
  (clockL_2 (numH h0 h1) needL_y (numM m0 m1) hasL_y (numM s0 s1) g).trans (keep24 h1)
theorem clock3 (h0 : 0 ≤ h) (h1 : h ≤ 23) (m0 : 0 ≤ mi) (m1 : mi ≤ 59) (s0 : 0 ≤ s) (s1 : s ≤ 59) (u0 : 0 ≤ u) (u1 : u ≤ 999) :
    clockL (padL h.toNat 2 ++ 58 :: (padL mi.toNat 2 ++ 58 :: (padL s.toNat 2 ++ 46 :: (padL u.toNat 3 ++ r)))) false = ((h, mi, s, u), r, false) :=
  (clockL_3 (numH h0 h1) needL_y (numM m0 m1) hasL_y (numM s0 s1) hasL_y (numL_i3 u0 u1 u0 u1)).trans (keep24 h1)
theorem zoneP (a0 : 0 ≤ a) (a1 : a ≤ 23) (b0 : 0 ≤ b) (b1 : b ≤ 59) : zoneL (43 :: (padL a.toNat 2 ++ 58 :: (padL b.toNat 2 ++ r))) false = (a * 60 + b, r, false) :=
  zoneL_n (hasL_n (by decide)) needL_y (numZ a0 a1) needL_y (numM b0 b1)
theorem zoneM_ (a0 : 0 ≤ a) (a1 : a ≤ 23) (b0 : 0 ≤ b) (b1 : b ≤ 59) : zoneL (45 :: (padL a.toNat 2 ++ 58 :: (padL b.toNat 2 ++ r))) false = (-(a * 60 + b), r, false) :=
  zoneL_y hasL_y (numZ a0 a1) needL_y (numM b0 b1)
end
section
variable {C S L r r' : List Nat} {k : Int × Int × Int × Int} {z : Int} {v : (Int × Int × Int × Int) × Int} {d : Int × Int × Int} {b : Bool}
theorem rest_none (g : hasL r b 84 = false) : restL r b = (((0, 0, 0, 0), 0), r, b) := restL_1 g
theorem rest_nil (e : clockL C false = (k, [], false)) : restL (84 :: C) false = ((k, 0), [], false) := restL_4 hasL_y e hasL_nil
theorem rest_Z (e : clockL C false = (k, 90 :: r, false)) : restL (84 :: C) false = ((k, 0), r, false) := restL_2 hasL_y e hasL_y
theorem rest_zone (e : clockL C false = (k, S, b)) (g : hasL S b 90 = false) (hS : S ≠ []) {rb : List Nat × Bool} (ez : zoneL S b = (z, rb)) : restL (84 :: C) false = ((k, z), rb) := restL_3 hasL_y e g hS ez
end

section
variable {L C S r r' : List Nat} {Y m d z : Int} {k : Int × Int × Int × Int} {b : Bool} {v : (Int × Int × Int × Int) × Int} {q : Int × Int × Int}
theorem parse_day0 (e : dayL L = ((Y, m, d), [], false)) : parseL L = clip (mkday Y (m - 1) d * 86400000 + mktime 0 0 0 0 - 0 * 60000) := (parseL_1 e (rest_none hasL_nil)).trans (if_pos ⟨rfl, rfl⟩)
theorem parse_day (e : dayL L = ((Y, m, d), r, false)) (e2 : restL r false = ((k, z), [], false)) : parseL L = clip (mkday Y (m - 1) d * 86400000 + mktime k.1 k.2.1 k.2.2.1 k.2.2.2 - z * 60000) := (parseL_1 e e2).trans (if_pos ⟨rfl, rfl⟩)
theorem parse_bad (e : dayL L = (q, r, b)) (e2 : restL r b = (v, r', true)) : parseL L = none := (parseL_1 e e2).trans (if_neg fun g => Bool.noConfusion g.1)
theorem parse_more (e : dayL L = (q, r, false)) (e2 : restL r false = (v, r', false)) (h : r' ≠ []) : parseL L = none := (parseL_1 e e2).trans (if_neg fun g => h g.2)
theorem parse_wd (e : dayL L = (q, r, true)) : parseL L = none := parse_bad e (rest_none hasL_w)
theorem zone_wd (S : List Nat) : ∃ z r', zoneL S true = (z, r', true) := ⟨_, _, zoneL_n hasL_w needL_w numL_w needL_w numL_w⟩
theorem rest_bad (e : clockL C false = (k, r, true)) : ∃ v r', restL (84 :: C) false = (v, r', true) := by
  cases r with
  | nil => exact ⟨_, _, restL_4 hasL_y e hasL_w⟩
  | cons c l =>
    obtain ⟨z, r', hz⟩ := zone_wd (c :: l)
    exact ⟨_, _, restL_3 hasL_y e hasL_w (List.cons_ne_nil _ _) hz⟩
theorem parse_clock (e : dayL L = (q, 84 :: C, false)) (e2 : clockL C false = (k, r, true)) : parseL L = none := by
  obtain ⟨v, r', h⟩ := rest_bad e2
  exact parse_bad e h
theorem parse_zone (e : dayL L = (q, 84 :: C, false)) (e2 : clockL C false = (k, S, false)) (g : hasL S false 90 = false) (hS : S ≠ []) (ez : zoneL S false = (z, r', true)) : parseL L = none :=
  parse_bad e (rest_zone e2 g hS ez)
theorem clock_h (e : numL C false 2 0 24 = (z, r, true)) : ∃ k, clockL C false = (k, r, true) := ⟨_, (clockL_1 e needL_w numL_w hasL_w).trans wrong24⟩
theorem clock_c {h : Int} (e : numL C false 2 0 24 = (h, r, false)) (g : hasL r false 58 = false) : ∃ k, clockL C false = (k, r, true) := ⟨_, (clockL_1 e (needL_n g) numL_w hasL_w).trans wrong24⟩
theorem clock_m {h : Int} (e : numL C false 2 0 24 = (h, 58 :: r, false)) (e2 : numL r false 2 0 59 = (z, r', true)) : ∃ k, clockL C false = (k, r', true) := ⟨_, (clockL_1 e needL_y e2 hasL_w).trans wrong24⟩
theorem clock_s {h mi : Int} {r2 : List Nat} (e : numL C false 2 0 24 = (h, 58 :: r, false)) (e2 : numL r false 2 0 59 = (mi, 58 :: r2, false)) (e3 : numL r2 false 2 0 59 = (z, r', true)) : ∃ k, clockL C false = (k, r', true) :=
  ⟨_, (clockL_2 e needL_y e2 hasL_y e3 hasL_w).trans wrong24⟩
theorem clock_u {h mi s : Int} {r2 r3 : List Nat} (e : numL C false 2 0 24 = (h, 58 :: r, false)) (e2 : numL r false 2 0 59 = (mi, 58 :: r2, false)) (e3 : numL r2 false 2 0 59 = (s, 46 :: r3, false)) (e4 : numL r3 false 3 0 999 = (z, r', true)) : ∃ k, clockL C false = (k, r', true) :=
  ⟨_, (clockL_3 e needL_y e2 hasL_y e3 hasL_y e4).trans wrong24⟩
theorem day_m (h0 : -300000 ≤ Y) (h1 : Y ≤ 300000) (e : numL r false 2 1 12 = (z, r', true)) : dayL (yL Y ++ 45 :: r) = ((Y, z, 1), r', true) := dayL_2 (yearL_iso h0 h1) hasL_y e hasL_w
theorem day_d (h0 : -300000 ≤ Y) (h1 : Y ≤ 300000) (e : numL r false 2 1 12 = (m, 45 :: S, false)) (e2 : numL S false 2 1 (da (m - 1 + 1) (leap Y) - da (m - 1) (leap Y)) = (z, r', true)) : dayL (yL Y ++ 45 :: r) = ((Y, m, z), r', true) :=
  dayL_3 (yearL_iso h0 h1) hasL_y e hasL_y e2
theorem day_y (e : yearL L false = (z, r', true)) : dayL L = ((z, 1, 1), r', true) := dayL_1 e hasL_w
theorem year_nodig {c : Nat} (h1 : c ≠ 43) (h2 : c ≠ 45) (h : ¬ (48 ≤ c ∧ c ≤ 57)) : yearL (c :: r) false = (0, c :: r, true) := by
  unfold yearL
  rw [hasL_n h1, hasL_n h2]
  simp only [Bool.false_eq_true, if_false]
  exact numL_nodig h (by omega)
theorem year_nil : yearL [] false = (0, [], true) := by
  unfold yearL
  rw [hasL_nil, hasL_nil]
  simp only [Bool.false_eq_true, if_false]
  exact numL_short (by decide)
theorem yL_len {Y : Int} (h0 : -300000 ≤ Y) (h1 : Y ≤ 300000) : 4 ≤ (yL Y).length := by
  rw [yL_eq]; split
  · rw [padL_exact (by omega)]; omega
  · rw [List.length_cons, padL_exact (by omega)]; omega
theorem dropLast_cut {l : List Nat} {n : Nat} (h : l.length = n) : l.dropLast.length = n - 1 := by rw [List.length_dropLast, h]
theorem year_cut {Y : Int} (h0 : -300000 ≤ Y) (h1 : Y ≤ 300000) : ∃ v r, yearL (yL Y).dropLast false = (v, r, true) := by
  rw [yL_eq]
  split
  · have hl : (padL Y.toNat 4).dropLast.length = 3 := dropLast_cut (padL_exact (by omega))
    have hm : ∀ c ∈ (padL Y.toNat 4).dropLast, 48 ≤ c := fun c hc => (padL_mem _ _ c ((List.dropLast_sublist _).subset hc)).1
    cases e : (padL Y.toNat 4).dropLast with
    | nil => rw [e] at hl; simp at hl
    | cons c l =>
      have hc := hm c (by rw [e]; exact .head _)
      rw [e] at hl
      unfold yearL
      rw [hasL_n (by omega), hasL_n (by omega)]
      simp only [Bool.false_eq_true, if_false]
      exact ⟨_, _, numL_short (by omega)⟩
  · have hl : (padL Y.natAbs 6).dropLast.length = 5 := dropLast_cut (padL_exact (by omega))
    have hn : padL Y.natAbs 6 ≠ [] := padL_ne (by omega)
    rw [List.dropLast_cons_of_ne_nil hn]
    unfold yearL
    split
    · rw [hasL_n (show (45 : Nat) ≠ 43 by decide), hasL_y]
      simp only [Bool.false_eq_true, if_false, if_true, List.tail_cons]
      rw [numL_short (by omega)]
      exact ⟨_, _, rfl⟩
    · rw [hasL_y]
      simp only [if_true, List.tail_cons]
      rw [numL_short (by omega)]
      exact ⟨_, _, rfl⟩
end
/-- the seven parts of a told time -/
structure Fld (Y M D h mi s u : Int) : Prop where
  y0 : -300000 ≤ Y
  y1 : Y ≤ 300000
  m0 : 0 ≤ M
  m1 : M ≤ 11
  d0 : 1 ≤ D
  d1 : D ≤ 31
  d2 : D ≤ da (M + 1) (leap Y) - da M (leap Y)
  h0 : 0 ≤ h
  h1 : h ≤ 23
  i0 : 0 ≤ mi
  i1 : mi ≤ 59
  s0 : 0 ≤ s
  s1 : s ≤ 59
  u0 : 0 ≤ u
  u1 : u ≤ 999
theorem fld_of {n : Int} (h0 : -8640000000000000 ≤ n) (h1 : n ≤ 8640000000000000) : Fld (Yr n) (Mo n) (Dt n) (Hr n) (Mi n) (Se n) (Ms n) := by
  have a := Yr_bounds h0 h1
  have b := Mo_bounds n
  have c := Dt_bounds n
  have e := clock_bounds n
  exact ⟨a.1, a.2, b.1, b.2, c.1, c.2.1, c.2.2, e.1, e.2.1, e.2.2.1, e.2.2.2.1, e.2.2.2.2.1, e.2.2.2.2.2.1, e.2.2.2.2.2.2.1, e.2.2.2.2.2.2.2⟩
section
variable {Y M D h mi s u z : Int} {r S : List Nat} (F : Fld Y M D h mi s u)
include F
theorem Fld.day2 (g : hasL r false 45 = false) : dayL (yL Y ++ 45 :: (padL (M + 1).toNat 2 ++ r)) = ((Y, M + 1, 1), r, false) :=
  Mine.day2 F.y0 F.y1 (by have := F.m0; omega) (by have := F.m1; omega) g
theorem Fld.day3 : dayL (yL Y ++ 45 :: (padL (M + 1).toNat 2 ++ 45 :: (padL D.toNat 2 ++ r))) = ((Y, M + 1, D), r, false) :=
  Mine.day3 F.y0 F.y1 (by have := F.m0; omega) (by have := F.m1; omega) F.d0 F.d1 (by rw [show M + 1 - 1 = M by omega]; exact F.d2)
theorem Fld.c1 (g : hasL r false 58 = false) : clockL (padL h.toNat 2 ++ 58 :: (padL mi.toNat 2 ++ r)) false = ((h, mi, 0, 0), r, false) := clock1 F.h0 F.h1 F.i0 F.i1 g
theorem Fld.c2 (g : hasL r false 46 = false) : clockL (padL h.toNat 2 ++ 58 :: (padL mi.toNat 2 ++ 58 :: (padL s.toNat 2 ++ r))) false = ((h, mi, s, 0), r, false) := clock2 F.h0 F.h1 F.i0 F.i1 F.s0 F.s1 g
theorem Fld.c3 : clockL (padL h.toNat 2 ++ 58 :: (padL mi.toNat 2 ++ 58 :: (padL s.toNat 2 ++ 46 :: (padL u.toNat 3 ++ r)))) false = ((h, mi, s, u), r, false) := clock3 F.h0 F.h1 F.i0 F.i1 F.s0 F.s1 F.u0 F.u1
theorem Fld.p1 : parseL (yL Y) = clip (mkday Y 0 1 * 86400000 + mktime 0 0 0 0 - 0 * 60000) := by
  have e := day1 F.y0 F.y1 hasL_nil
  rw [List.append_nil] at e
  have := parse_day0 e
  rw [show (1 : Int) - 1 = 0 by omega] at this; exact this
theorem Fld.p2 : parseL (yL Y ++ 45 :: padL (M + 1).toNat 2) = clip (mkday Y M 1 * 86400000 + mktime 0 0 0 0 - 0 * 60000) := by
  have e := F.day2 hasL_nil
  rw [List.append_nil] at e
  have := parse_day0 e
  rw [show M + 1 - 1 = M by omega] at this; exact this
theorem Fld.p3 : parseL (yL Y ++ 45 :: (padL (M + 1).toNat 2 ++ 45 :: padL D.toNat 2)) = clip (mkday Y M D * 86400000 + mktime 0 0 0 0 - 0 * 60000) := by
  have e := F.day3 (r := [])
  rw [List.append_nil] at e
  have := parse_day0 e
  rw [show M + 1 - 1 = M by omega] at this; exact this
theorem Fld.pT {C : List Nat} {k : Int × Int × Int × Int} (e : restL (84 :: C) false = ((k, z), [], false)) :
    parseL (yL Y ++ 45 :: (padL (M + 1).toNat 2 ++ 45 :: (padL D.toNat 2 ++ 84 :: C))) = clip (mkday Y M D * 86400000 + mktime k.1 k.2.1 k.2.2.1 k.2.2.2 - z * 60000) := by
  have := parse_day F.day3 e
  rw [show M + 1 - 1 = M by omega] at this; exact this
end

theorem cps_p2 (b : Int) : (p2 b).cps.toList = 45 :: padL (b + 1).toNat 2 := by
  show (Str.ofString "-" ++ padS (b + 1).toNat 2).cps.toList = _
  rw [Str.cps_append, Array.toList_append, sg_minus, cps_pad]; rfl
theorem cps_p3 (c : Int) : (p3 c).cps.toList = 45 :: padL c.toNat 2 := by
  show (Str.ofString "-" ++ padS c.toNat 2).cps.toList = _
  rw [Str.cps_append, Array.toList_append, sg_minus, cps_pad]; rfl
theorem cps_p4 (d e : Int) : (p4 d e).cps.toList = 84 :: (padL d.toNat 2 ++ 58 :: padL e.toNat 2) := by
  show (Str.ofString "T" ++ padS d.toNat 2 ++ Str.ofString ":" ++ padS e.toNat 2).cps.toList = _
  rw [Str.cps_append, Array.toList_append, Str.cps_append, Array.toList_append, Str.cps_append, Array.toList_append, sg_T, sg_colon, cps_pad, cps_pad]
  simp only [List.cons_append, List.nil_append, List.append_assoc]
theorem cps_p5 (f : Int) : (p5 f).cps.toList = 58 :: padL f.toNat 2 := by
  show (Str.ofString ":" ++ padS f.toNat 2).cps.toList = _
  rw [Str.cps_append, Array.toList_append, sg_colon, cps_pad]; rfl
theorem cps_p6 (g : Int) : (p6 g).cps.toList = 46 :: padL g.toNat 3 := by
  show (Str.ofString "." ++ padS g.toNat 3).cps.toList = _
  rw [Str.cps_append, Array.toList_append, sg_dot, cps_pad]; rfl
theorem cps_y (a : Int) : (isoYear a).cps.toList = yL a := rfl
theorem len2 {b : Int} (h : b < 100) : (padL b.toNat 2).length = 2 := padL_exact ((Int.toNat_lt' (by decide)).mpr h)
theorem len3 {b : Int} (h : b < 1000) : (padL b.toNat 3).length = 3 := padL_exact ((Int.toNat_lt' (by decide)).mpr h)
theorem pieces_len {a b c d e f g : Int} (F : Fld a b c d e f g) : (isoYear a).length ≤ 7 ∧ (p2 b).length ≤ 3 ∧ (p3 c).length ≤ 3 ∧ (p4 d e).length ≤ 6 ∧ (p5 f).length ≤ 3 ∧ (p6 g).length ≤ 4 := by
  refine ⟨?_, ?_, ?_, ?_, ?_, ?_⟩
  · have := F.y0; have := F.y1
    rw [← len_list, cps_y, yL_eq]; split
    · rw [padL_exact (by omega)]; exact Nat.le_of_ble_eq_true rfl
    · rw [List.length_cons, padL_exact (by omega)]; exact Nat.le_of_ble_eq_true rfl
  · rw [← len_list, cps_p2, List.length_cons, len2 (Int.lt_of_le_of_lt (Int.add_le_add_right F.m1 1) (by decide))]; exact Nat.le_of_ble_eq_true rfl
  · rw [← len_list, cps_p3, List.length_cons, len2 (Int.lt_of_le_of_lt F.d1 (by decide))]; exact Nat.le_of_ble_eq_true rfl
  · rw [← len_list, cps_p4, List.length_cons, List.length_append, List.length_cons, len2 (Int.lt_of_le_of_lt F.h1 (by decide)), len2 (Int.lt_of_le_of_lt F.i1 (by decide))]; exact Nat.le_of_ble_eq_true rfl
  · rw [← len_list, cps_p5, List.length_cons, len2 (Int.lt_of_le_of_lt F.s1 (by decide))]; exact Nat.le_of_ble_eq_true rfl
  · rw [← len_list, cps_p6, List.length_cons, len3 (Int.lt_of_le_of_lt F.u1 (by decide))]; exact Nat.le_of_ble_eq_true rfl
/-- a told clock: whatever follows that is no sign of it is left -/
noncomputable def Told (Cl : List Nat) (k : Int × Int × Int × Int) : Prop := ∀ S, hasL S false 58 = false → hasL S false 46 = false → clockL (Cl ++ S) false = (k, S, false)
section
variable {Cl : List Nat} {k : Int × Int × Int × Int} (H : Told Cl k) {A B : Int}
include H
theorem time_none : restL (84 :: Cl) false = ((k, 0), [], false) := by
  have e := H [] hasL_nil hasL_nil
  rw [List.append_nil] at e
  exact rest_nil e
theorem time_Z (r : List Nat) : restL (84 :: (Cl ++ 90 :: r)) false = ((k, 0), r, false) := rest_Z (H (90 :: r) (hasL_n (by decide)) (hasL_n (by decide)))
theorem time_P (a0 : 0 ≤ A) (a1 : A ≤ 23) (b0 : 0 ≤ B) (b1 : B ≤ 59) : restL (84 :: (Cl ++ 43 :: (padL A.toNat 2 ++ 58 :: padL B.toNat 2))) false = ((k, A * 60 + B), [], false) := by
  have ez := zoneP (r := []) a0 a1 b0 b1
  rw [List.append_nil] at ez
  exact rest_zone (H _ (hasL_n (by decide)) (hasL_n (by decide))) (hasL_n (by decide)) (by simp) ez
theorem time_M (a0 : 0 ≤ A) (a1 : A ≤ 23) (b0 : 0 ≤ B) (b1 : B ≤ 59) : restL (84 :: (Cl ++ 45 :: (padL A.toNat 2 ++ 58 :: padL B.toNat 2))) false = ((k, -(A * 60 + B)), [], false) := by
  have ez := zoneM_ (r := []) a0 a1 b0 b1
  rw [List.append_nil] at ez
  exact rest_zone (H _ (hasL_n (by decide)) (hasL_n (by decide))) (hasL_n (by decide)) (by simp) ez
end
section
variable {a b c d e f g z A B : Int} (F : Fld a b c d e f g) {T W₁ W₂ : Str}
include F
theorem told4 : Told (padL d.toNat 2 ++ 58 :: padL e.toNat 2) (d, e, 0, 0) := fun S h1 _ => by
  have := F.c1 (r := S) h1
  simpa only [List.append_assoc, List.cons_append] using this
theorem told5 : Told (padL d.toNat 2 ++ 58 :: (padL e.toNat 2 ++ 58 :: padL f.toNat 2)) (d, e, f, 0) := fun S _ h2 => by
  have := F.c2 (r := S) h2
  simpa only [List.append_assoc, List.cons_append] using this
theorem told6 : Told (padL d.toNat 2 ++ 58 :: (padL e.toNat 2 ++ 58 :: (padL f.toNat 2 ++ 46 :: padL g.toNat 3))) (d, e, f, g) := fun S _ _ => by
  have := F.c3 (r := S)
  simpa only [List.append_assoc, List.cons_append] using this
omit F in
theorem no_z (X : Int) : X - 0 * 60000 = X := by omega
theorem sr1_eq (hT : T = catS [isoYear a]) : parseF T = clip (mkday a 0 1 * 86400000 + mktime 0 0 0 0) := by
  rw [parse_sim, hT, catS_cps]
  simp only [List.flatMap_cons, List.flatMap_nil, List.append_nil, cps_y]
  have := F.p1; rw [no_z] at this; exact this
theorem sr2_eq (hT : T = catS [isoYear a, p2 b]) : parseF T = clip (mkday a b 1 * 86400000 + mktime 0 0 0 0) := by
  rw [parse_sim, hT, catS_cps]
  simp only [List.flatMap_cons, List.flatMap_nil, List.append_nil, cps_y, cps_p2]
  have := F.p2; rw [no_z] at this; exact this
theorem sr3_eq (hT : T = catS [isoYear a, p2 b, p3 c]) : parseF T = clip (mkday a b c * 86400000 + mktime 0 0 0 0) := by
  rw [parse_sim, hT, catS_cps]
  simp only [List.flatMap_cons, List.flatMap_nil, List.append_nil, cps_y, cps_p2, cps_p3, List.cons_append]
  have := F.p3; rw [no_z] at this; exact this
/-- the date, then a told clock, then what is left -/
noncomputable def LT (a b c : Int) (Cl : List Nat) : List Nat := yL a ++ 45 :: (padL (b + 1).toNat 2 ++ 45 :: (padL c.toNat 2 ++ 84 :: Cl))
theorem lt_none {Cl : List Nat} {k : Int × Int × Int × Int} (H : Told Cl k) : parseL (LT a b c Cl) = clip (mkday a b c * 86400000 + mktime k.1 k.2.1 k.2.2.1 k.2.2.2) := by
  have := F.pT (time_none H); rw [no_z] at this; exact this
theorem lt_Z {Cl : List Nat} {k : Int × Int × Int × Int} (H : Told Cl k) : parseL (LT a b c (Cl ++ [90])) = clip (mkday a b c * 86400000 + mktime k.1 k.2.1 k.2.2.1 k.2.2.2) := by
  have := F.pT (time_Z H []); rw [no_z] at this; exact this
theorem lt_P {Cl : List Nat} {k : Int × Int × Int × Int} (H : Told Cl k) (a0 : 0 ≤ A) (a1 : A ≤ 23) (b0 : 0 ≤ B) (b1 : B ≤ 59) (hz : z = A * 60 + B) :
    parseL (LT a b c (Cl ++ 43 :: (padL A.toNat 2 ++ 58 :: padL B.toNat 2))) = clip (mkday a b c * 86400000 + mktime k.1 k.2.1 k.2.2.1 k.2.2.2 - z * 60000) := by
  subst hz; exact F.pT (time_P H a0 a1 b0 b1)
theorem lt_M {Cl : List Nat} {k : Int × Int × Int × Int} (H : Told Cl k) (a0 : 0 ≤ A) (a1 : A ≤ 23) (b0 : 0 ≤ B) (b1 : B ≤ 59) (hz : z = -(A * 60 + B)) :
    parseL (LT a b c (Cl ++ 45 :: (padL A.toNat 2 ++ 58 :: padL B.toNat 2))) = clip (mkday a b c * 86400000 + mktime k.1 k.2.1 k.2.2.1 k.2.2.2 - z * 60000) := by
  subst hz; exact F.pT (time_M H a0 a1 b0 b1)
omit F in
theorem cat4 (hT : T = catS [isoYear a, p2 b, p3 c, p4 d e]) : T.cps.toList = LT a b c (padL d.toNat 2 ++ 58 :: padL e.toNat 2) := by
  rw [hT, catS_cps]
  simp only [List.flatMap_cons, List.flatMap_nil, List.append_nil, cps_y, cps_p2, cps_p3, cps_p4, List.cons_append, LT]
omit F in
theorem cat5 (hT : T = catS [isoYear a, p2 b, p3 c, p4 d e, p5 f]) : T.cps.toList = LT a b c (padL d.toNat 2 ++ 58 :: (padL e.toNat 2 ++ 58 :: padL f.toNat 2)) := by
  rw [hT, catS_cps]
  simp only [List.flatMap_cons, List.flatMap_nil, List.append_nil, cps_y, cps_p2, cps_p3, cps_p4, cps_p5, List.cons_append, List.append_assoc, LT]
omit F in
theorem cat6 (hT : T = catS [isoYear a, p2 b, p3 c, p4 d e, p5 f, p6 g]) : T.cps.toList = LT a b c (padL d.toNat 2 ++ 58 :: (padL e.toNat 2 ++ 58 :: (padL f.toNat 2 ++ 46 :: padL g.toNat 3))) := by
  rw [hT, catS_cps]
  simp only [List.flatMap_cons, List.flatMap_nil, List.append_nil, cps_y, cps_p2, cps_p3, cps_p4, cps_p5, cps_p6, List.cons_append, List.append_assoc, LT]
omit F in
theorem lt_app (Cl S : List Nat) : LT a b c Cl ++ S = LT a b c (Cl ++ S) := by
  unfold LT; simp only [List.append_assoc, List.cons_append]
theorem sr_n {Cl : List Nat} {k : Int × Int × Int × Int} (H : Told Cl k) (hT : T.cps.toList = LT a b c Cl) : parseF T = clip (mkday a b c * 86400000 + mktime k.1 k.2.1 k.2.2.1 k.2.2.2) := by
  rw [parse_sim, hT]; exact lt_none F H
theorem sr_p {Cl : List Nat} {k : Int × Int × Int × Int} (H : Told Cl k) (hT : T.cps.toList = LT a b c Cl) (a0 : 0 ≤ A) (a1 : A ≤ 23) (b0 : 0 ≤ B) (b1 : B ≤ 59) (hz : z = A * 60 + B) :
    parseF (T ++ Str.ofString "+" ++ padS A.toNat (Int.toNat 2) ++ Str.ofString ":" ++ padS B.toNat (Int.toNat 2)) = clip (mkday a b c * 86400000 + mktime k.1 k.2.1 k.2.2.1 k.2.2.2 - z * 60000) := by
  rw [parse_sim, show Int.toNat 2 = 2 from rfl]
  simp only [Str.cps_append, Array.toList_append, hT, sg_plus, sg_colon, cps_pad, lt_app, List.append_assoc, List.cons_append, List.nil_append]
  exact lt_P F H a0 a1 b0 b1 hz
theorem sr_m {Cl : List Nat} {k : Int × Int × Int × Int} (H : Told Cl k) (hT : T.cps.toList = LT a b c Cl) (a0 : 0 ≤ A) (a1 : A ≤ 23) (b0 : 0 ≤ B) (b1 : B ≤ 59) (hz : z = -(A * 60 + B)) :
    parseF (T ++ Str.ofString "-" ++ padS A.toNat (Int.toNat 2) ++ Str.ofString ":" ++ padS B.toNat (Int.toNat 2)) = clip (mkday a b c * 86400000 + mktime k.1 k.2.1 k.2.2.1 k.2.2.2 - z * 60000) := by
  rw [parse_sim, show Int.toNat 2 = 2 from rfl]
  simp only [Str.cps_append, Array.toList_append, hT, sg_minus, sg_colon, cps_pad, lt_app, List.append_assoc, List.cons_append, List.nil_append]
  exact lt_M F H a0 a1 b0 b1 hz
end
theorem zone_bnds {z : Int} (z0 : -719 ≤ z) (z1 : z ≤ 719) : 0 ≤ (if z < 0 then -z else z).fdiv 60 ∧ (if z < 0 then -z else z).fdiv 60 < 1000000 ∧ 0 ≤ (if z < 0 then -z else z).fmod 60 ∧ (if z < 0 then -z else z).fmod 60 < 1000000 := by
  rw [abs_n]
  have h : z.natAbs < 1000000 := by omega
  clear z0 z1
  generalize z.natAbs = k at *
  rw [Int.fdiv_eq_ediv_of_nonneg _ (by decide : (0:Int) ≤ 60), Int.fmod_eq_emod_of_nonneg _ (by decide : (0:Int) ≤ 60)]
  exact ⟨Int.natCast_nonneg (k / 60), Int.ofNat_lt.mpr (Nat.lt_of_le_of_lt (Nat.div_le_self k 60) h), Int.natCast_nonneg (k % 60), Int.ofNat_lt.mpr (Nat.lt_of_le_of_lt (Nat.mod_le k 60) h)⟩
section
variable {a b c d e f g z : Int} (F : Fld a b c d e f g) {T : Str}
include F
theorem sr4n_eq (hT : T = catS [isoYear a, p2 b, p3 c, p4 d e]) : parseF T = clip (mkday a b c * 86400000 + mktime d e 0 0) := sr_n (k := (d, e, 0, 0)) F (told4 F) (cat4 hT)
theorem sr4p_eq (hT : T = catS [isoYear a, p2 b, p3 c, p4 d e]) (z0 : -719 ≤ z) (z1 : z ≤ 719) (hz : ¬ z < 0) : parseF (T ++ Str.ofString "+" ++ padS ((if z < 0 then -z else z).fdiv 60).toNat (Int.toNat 2) ++ Str.ofString ":" ++ padS ((if z < 0 then -z else z).fmod 60).toNat (Int.toNat 2)) = clip (mkday a b c * 86400000 + mktime d e 0 0 - z * 60000) := by
  rw [Int.fdiv_eq_ediv_of_nonneg _ (by decide : (0:Int) ≤ 60), Int.fmod_eq_emod_of_nonneg _ (by decide : (0:Int) ≤ 60), if_neg hz]
  have h := sr_p (z := z) (k := (d, e, 0, 0)) (A := z / 60) (B := z % 60) F (told4 F) (cat4 hT) (by omega) (by omega) (by omega) (by omega) (by omega)
  exact h
theorem sr4m_eq (hT : T = catS [isoYear a, p2 b, p3 c, p4 d e]) (z0 : -719 ≤ z) (z1 : z ≤ 719) (hz : z < 0) : parseF (T ++ Str.ofString "-" ++ padS ((if z < 0 then -z else z).fdiv 60).toNat (Int.toNat 2) ++ Str.ofString ":" ++ padS ((if z < 0 then -z else z).fmod 60).toNat (Int.toNat 2)) = clip (mkday a b c * 86400000 + mktime d e 0 0 - z * 60000) := by
  rw [Int.fdiv_eq_ediv_of_nonneg _ (by decide : (0:Int) ≤ 60), Int.fmod_eq_emod_of_nonneg _ (by decide : (0:Int) ≤ 60), if_pos hz]
  have h := sr_m (z := z) (k := (d, e, 0, 0)) (A := (-z) / 60) (B := (-z) % 60) F (told4 F) (cat4 hT) (by omega) (by omega) (by omega) (by omega) (by omega)
  exact h
theorem sr5n_eq (hT : T = catS [isoYear a, p2 b, p3 c, p4 d e, p5 f]) : parseF T = clip (mkday a b c * 86400000 + mktime d e f 0) := sr_n (k := (d, e, f, 0)) F (told5 F) (cat5 hT)
theorem sr5p_eq (hT : T = catS [isoYear a, p2 b, p3 c, p4 d e, p5 f]) (z0 : -719 ≤ z) (z1 : z ≤ 719) (hz : ¬ z < 0) : parseF (T ++ Str.ofString "+" ++ padS ((if z < 0 then -z else z).fdiv 60).toNat (Int.toNat 2) ++ Str.ofString ":" ++ padS ((if z < 0 then -z else z).fmod 60).toNat (Int.toNat 2)) = clip (mkday a b c * 86400000 + mktime d e f 0 - z * 60000) := by
  rw [Int.fdiv_eq_ediv_of_nonneg _ (by decide : (0:Int) ≤ 60), Int.fmod_eq_emod_of_nonneg _ (by decide : (0:Int) ≤ 60), if_neg hz]
  have h := sr_p (z := z) (k := (d, e, f, 0)) (A := z / 60) (B := z % 60) F (told5 F) (cat5 hT) (by omega) (by omega) (by omega) (by omega) (by omega)
  exact h
theorem sr5m_eq (hT : T = catS [isoYear a, p2 b, p3 c, p4 d e, p5 f]) (z0 : -719 ≤ z) (z1 : z ≤ 719) (hz : z < 0) : parseF (T ++ Str.ofString "-" ++ padS ((if z < 0 then -z else z).fdiv 60).toNat (Int.toNat 2) ++ Str.ofString ":" ++ padS ((if z < 0 then -z else z).fmod 60).toNat (Int.toNat 2)) = clip (mkday a b c * 86400000 + mktime d e f 0 - z * 60000) := by
  rw [Int.fdiv_eq_ediv_of_nonneg _ (by decide : (0:Int) ≤ 60), Int.fmod_eq_emod_of_nonneg _ (by decide : (0:Int) ≤ 60), if_pos hz]
  have h := sr_m (z := z) (k := (d, e, f, 0)) (A := (-z) / 60) (B := (-z) % 60) F (told5 F) (cat5 hT) (by omega) (by omega) (by omega) (by omega) (by omega)
  exact h
theorem sr6n_eq (hT : T = catS [isoYear a, p2 b, p3 c, p4 d e, p5 f, p6 g]) : parseF T = clip (mkday a b c * 86400000 + mktime d e f g) := sr_n (k := (d, e, f, g)) F (told6 F) (cat6 hT)
theorem sr6p_eq (hT : T = catS [isoYear a, p2 b, p3 c, p4 d e, p5 f, p6 g]) (z0 : -719 ≤ z) (z1 : z ≤ 719) (hz : ¬ z < 0) : parseF (T ++ Str.ofString "+" ++ padS ((if z < 0 then -z else z).fdiv 60).toNat (Int.toNat 2) ++ Str.ofString ":" ++ padS ((if z < 0 then -z else z).fmod 60).toNat (Int.toNat 2)) = clip (mkday a b c * 86400000 + mktime d e f g - z * 60000) := by
  rw [Int.fdiv_eq_ediv_of_nonneg _ (by decide : (0:Int) ≤ 60), Int.fmod_eq_emod_of_nonneg _ (by decide : (0:Int) ≤ 60), if_neg hz]
  have h := sr_p (z := z) (k := (d, e, f, g)) (A := z / 60) (B := z % 60) F (told6 F) (cat6 hT) (by omega) (by omega) (by omega) (by omega) (by omega)
  exact h
theorem sr6m_eq (hT : T = catS [isoYear a, p2 b, p3 c, p4 d e, p5 f, p6 g]) (z0 : -719 ≤ z) (z1 : z ≤ 719) (hz : z < 0) : parseF (T ++ Str.ofString "-" ++ padS ((if z < 0 then -z else z).fdiv 60).toNat (Int.toNat 2) ++ Str.ofString ":" ++ padS ((if z < 0 then -z else z).fmod 60).toNat (Int.toNat 2)) = clip (mkday a b c * 86400000 + mktime d e f g - z * 60000) := by
  rw [Int.fdiv_eq_ediv_of_nonneg _ (by decide : (0:Int) ≤ 60), Int.fmod_eq_emod_of_nonneg _ (by decide : (0:Int) ≤ 60), if_pos hz]
  have h := sr_m (z := z) (k := (d, e, f, g)) (A := (-z) / 60) (B := (-z) % 60) F (told6 F) (cat6 hT) (by omega) (by omega) (by omega) (by omega) (by omega)
  exact h
end

theorem mkday_f (Y M D : Int) (h0 : 0 ≤ M) (h1 : M ≤ 11) : mkday Y M D = dfy Y + da M (leap Y) + D - 1 := by
  unfold mkday
  rw [show M / 12 = 0 by omega, show M % 12 = M by omega, Int.add_zero]
theorem split_day (t : Int) : t / 3600000 * 3600000 + t / 60000 % 60 * 60000 + t / 1000 % 60 * 1000 + t % 1000 = t := by
  have h1 := Int.emod_add_mul_ediv t 1000
  have h2 := Int.emod_add_mul_ediv (t / 1000) 60
  have h3 := Int.emod_add_mul_ediv (t / 60000) 60
  have e2 : t / 1000 / 60 = t / 60000 := Int.ediv_ediv_of_nonneg (by decide)
  have e3 : t / 60000 / 60 = t / 3600000 := Int.ediv_ediv_of_nonneg (by decide)
  rw [e2] at h2
  rw [e3] at h3
  clear e2 e3
  generalize t / 3600000 = a, t / 60000 = b, t / 1000 = c at *
  generalize b % 60 = b', c % 60 = c', t % 1000 = t' at *
  omega
theorem tof_eq (n : Int) : mkdate (mkday (Yr n) (Mo n) (Dt n)) (mktime (Hr n) (Mi n) (Se n) (Ms n)) = n := by
  have hb := Mo_bounds n
  rw [mkday_f _ _ _ hb.1 hb.2]
  have hd : dfy (Yr n) + da (Mo n) (leap (Yr n)) + Dt n - 1 = n / 86400000 := by unfold Dt Dy; omega
  rw [hd]
  have e : n % 1000 = n % 86400000 % 1000 := (Int.emod_emod_of_dvd n (by decide)).symm
  unfold mkdate mktime Hr Mi Se Ms
  rw [e, split_day, Int.add_comm, Int.mul_comm]
  exact Int.emod_add_mul_ediv n 86400000
theorem clip_nearF {n : Int} (h0 : -8640000000000000 ≤ n) (h1 : n ≤ 8640000000000000) : clip n = some n := by unfold clip; rw [if_pos (by omega)]
theorem clip_farF {n : Int} (h : n < -8640000000000000) : clip n = none := by unfold clip; rw [if_neg (by omega)]
theorem iso_cps (n : Int) : (isoText n).cps.toList = LT (Yr n) (Mo n) (Dt n) ((padL (Hr n).toNat 2 ++ 58 :: (padL (Mi n).toNat 2 ++ 58 :: (padL (Se n).toNat 2 ++ 46 :: padL (Ms n).toNat 3))) ++ [90]) := by
  unfold isoText clockS LT
  simp only [Str.cps_append, Array.toList_append, cps_pad, cps_y, sg_minus, sg_T, sg_colon, sg_dot, sg_Z, List.append_assoc, List.cons_append, List.nil_append]
theorem parse_isoText {n : Int} (h0 : -8640000000000000 ≤ n) (h1 : n ≤ 8640000000000000) : parseF (isoText n) = some n := by
  have F := fld_of h0 h1
  rw [parse_sim, iso_cps, lt_Z F (told6 F)]
  have e := tof_eq n
  unfold mkdate at e
  show clip (mkday (Yr n) (Mo n) (Dt n) * 86400000 + mktime (Hr n) (Mi n) (Se n) (Ms n)) = _
  rw [e]; exact clip_nearF h0 h1
theorem iso_join {n : Int} {T : Str} (hT : T = catS [isoYear (Yr n), p2 (Mo n), p3 (Dt n), p4 (Hr n) (Mi n), p5 (Se n), p6 (Ms n)]) : isoText n = T ++ Str.ofString "Z" := by
  rw [str_eq, iso_cps, Str.cps_append, Array.toList_append, cat6 hT, sg_Z, lt_app]
theorem iso_len {n : Int} (h0 : -8640000000000000 ≤ n) (h1 : n ≤ 8640000000000000) : (isoText n).length ≤ 100 := by
  have P := pieces_len (fld_of h0 h1)
  rw [iso_join rfl, Str.length_append, catS_len]
  simp only [List.map_cons, List.map_nil, List.sum_cons, List.sum_nil]
  have : (Str.ofString "Z").length = 1 := by decide +kernel
  omega
section
variable {prog : Program} {w : World} {A : Around} {E : Value → Shared → Prop} {s : Shared} {h₀ : Heap} {L : Addr} {m : Str → Option Value} {news : List (Addr × Obj)}
theorem ne_same {x : Int} {t u : Tok} {Q : Value → Shared → Prop} (h : Q (.bool false) s) : wpAny (model prog w) A (compareOp .NotEq (.int x t) (.int x u)) Q E s :=
  ne_int (by rw [bne_self_eq_false]; exact h)
theorem ne_same_str {x y : Str} {t u : Tok} {Q : Value → Shared → Prop} (e : x = y) (h : Q (.bool false) s) : wpAny (model prog w) A (compareOp .NotEq (.str x t) (.str y u)) Q E s := by
  subst e
  exact ne_str (by rw [bne_self_eq_false]; exact h)
/-- the test fails; the frame and the ledger as they were -/
noncomputable def NoPost {h : Heap} (_ : Fr h₀ L h m) (_ : News h₀ L h news) (s : Shared) (b : Bool) (s' : Shared) : Prop :=
  b = false ∧ ∃ h' tk', s' = { s with heap := h', toks := tk' } ∧ Fr h₀ L h' m ∧ News h₀ L h' news
theorem cut_no {h : Heap} (F : Fr h₀ L h m) (N : News h₀ L h news) {M : Model} {t : Sem Bool} {Q : Bool → Shared → Prop} (h1 : wpAny M A t (NoPost F N s) E s)
    (h2 : ∀ h' tk', Fr h₀ L h' m → News h₀ L h' news → Q false { s with heap := h', toks := tk' }) : wpAny M A t Q E s :=
  wpAny_mono h1 (fun b s' ⟨e, h', tk', e2, F', N'⟩ => by subst e e2; exact h2 h' tk' F' N') fun _ _ h => h
noncomputable abbrev zOk (v : Value) : Prop := v = .none ∨ ∃ z t, v = .int z t ∧ -719 ≤ z ∧ z ≤ 719
noncomputable def ZAll : List Value → Prop
  | [] => True
  | v :: r => zOk v ∧ ZAll r
theorem ZAll.nil : ZAll [] := trivial
theorem ZAll.n {r : List Value} (h : ZAll r) : ZAll (.none :: r) := ⟨.inl rfl, h⟩
theorem ZAll.i {z : Int} {t : Tok} {r : List Value} (a : -719 ≤ z) (b : z ≤ 719) (h : ZAll r) : ZAll (.int z t :: r) := ⟨.inr ⟨z, t, rfl, a, b⟩, h⟩
theorem ZAll.get : ∀ {vs : List Value}, ZAll vs → ∀ k : Nat, k < vs.length → ∃ v, vs[k]? = some v ∧ zOk v
  | v :: r, h, 0, _ => ⟨v, rfl, h.1⟩
  | v :: r, h, k + 1, hk => by
    obtain ⟨y, e, h1⟩ := ZAll.get h.2 k (by simpa using hk)
    exact ⟨y, by simpa using e, h1⟩
theorem pick_z {D : Addr} {vs : List Value} {n : Nat} {value slice : PySem.Expr} {k : Int} {u : Tok} {Q : Value → Shared → Prop} (N : News h₀ L s.heap news) (hm : (D, W.listOf vs.toArray n) ∈ news) (hz : ZAll vs) (h0 : 0 ≤ k) (h1 : k < vs.length) (hl : vs.length ≤ 100)
    (h : ∀ v, zOk v → Q v s)
    (hs : subscripted slice false (.ref D) (.int k u) = operate [.ref D, .int k u] (getItem (.ref D) (.int k u)) := by with_unfolding_all rfl)
    (hg : ∀ r, letTemporaryGo value (.ref D) r = pure () := by intro _; with_unfolding_all rfl) :
    wpAny (model prog w) A (subscriptTail value slice (.ref D) (.int k u)) Q E s := by
  obtain ⟨v, e, hv⟩ := hz.get k.toNat (by omega)
  have hL : s.heap.IsList D vs.toArray := News.isList N hm
  exact PyProof.Rows.item_list hL h0 (by omega) (by simpa using e) (h v hv) hs hg
end

section
set_option linter.unusedVariables false
set_option linter.unusedSimpArgs false
variable {w : World} {loose : List Str} {mean : ExcName → Option Value} {mg mb : Str → Option Value} {news : List (Addr × Obj)}

theorem law_piecesF_ok (a b c d e f g : Int) (t₁ t₂ t₃ t₄ t₅ t₆ t₇ : Tok) (q : Addr) (hq : (q, tup7 a b c d e f g t₁ t₂ t₃ t₄ t₅ t₆ t₇) ∈ news) (F : Fld a b c d e f g) : Clm w loose mean mg mb 3 351 [.ref q] news (RetP news a b c d e f g) :=
  law_pieces_ok _ _ _ _ _ _ _ _ _ _ _ _ _ _ q hq ⟨F.y0, F.y1, F.m0, F.m1, F.d0, F.d1, F.h0, F.h1, F.i0, F.i1, F.s0, F.s1, F.u0, F.u1⟩
section
set_option maxHeartbeats 4000000 in
set_option pp.deepTerms false in
theorem law_suml_ok (a b c d e f g : Int) (t₁ t₂ t₃ t₄ t₅ t₆ t₇ : Tok) (q : Addr) (nl : Nat) (hq : (q, W.listOf #[.int a t₁, .int b t₂, .int c t₃, .int d t₄, .int e t₅, .int f t₆, .int g t₇] nl) ∈ news) : Clm w loose mean mg mb 2 358 [.ref q] news (RetV news fun t => .int (mkday a b c * 86400000 + mktime d e f g) t) := by
  w_on
  w_strict (
    k_with_none
    k_with "sub" => first | exact sub_self | (refine sub_cons ?_; k_extra "sub")
    k_with "compareOp In none ref" => (k_here; k_dflt (first | (refine' none_in_tup (b := false) ?N ?r ?c ?b ?u ?_; (case N => exact News.isTup (by k_asm) (by k_mem)); (case r => rfl); (case c => rfl); (case b => rfl); (case u => ktr_units); k_whole) | (refine' none_in_tup (b := true) ?N ?r ?c ?b ?u ?_; (case N => exact News.isTup (by k_asm) (by k_mem)); (case r => rfl); (case c => rfl); (case b => rfl); (case u => ktr_units); k_whole)))
    k_with "subc" => first | exact sub_self | (refine sub_both ?_; k_extra "subc") | (refine sub_cons ?_; k_extra "subc")
    k_with "low" => first | assumption | exact allLt_of (by assumption) | exact low1 (by assumption) | exact low2 (by assumption) | exact low3 (by assumption) | exact low4 (by assumption)
    k_with "mem" => first | exact sub_self | (k_extra "sub") | (refine List.forall_mem_cons.mpr ⟨?_, ?_⟩; k_mem; k_extra "mem")
    k_with "ne" => first | assumption | exact List.forall_mem_nil _ | exact ne_of_low (by k_extra "low") | (refine' List.forall_mem_cons.mpr ⟨?a, ?b⟩; (case a => k_ne); (case b => k_extra "ne"))
    k_with "pull" => first | k_asm | exact pull1 (by k_asm) | exact pull2 (by k_asm) | exact pull3 (by k_asm) | exact pull4 (by k_asm)
    k_with "memq" => first | with_reducible assumption | exact List.Mem.head _ | (refine' List.Mem.tail _ ?_; k_extra "memq")
    k_with "subscriptTail Name Constant ref int" => (k_dflt (first | (refine' pick_lst 0 ?n ?m ?k ?x ?f ?_; (case k => exact rfl); (case n => k_asm); (case m => k_extra "memq"); (case x => exact rfl); (case f => decide)) | (refine' pick_lst 1 ?n ?m ?k ?x ?f ?_; (case k => exact rfl); (case n => k_asm); (case m => k_extra "memq"); (case x => exact rfl); (case f => decide)) | (refine' pick_lst 2 ?n ?m ?k ?x ?f ?_; (case k => exact rfl); (case n => k_asm); (case m => k_extra "memq"); (case x => exact rfl); (case f => decide)) | (refine' pick_lst 3 ?n ?m ?k ?x ?f ?_; (case k => exact rfl); (case n => k_asm); (case m => k_extra "memq"); (case x => exact rfl); (case f => decide)) | (refine' pick_lst 4 ?n ?m ?k ?x ?f ?_; (case k => exact rfl); (case n => k_asm); (case m => k_extra "memq"); (case x => exact rfl); (case f => decide)) | (refine' pick_lst 5 ?n ?m ?k ?x ?f ?_; (case k => exact rfl); (case n => k_asm); (case m => k_extra "memq"); (case x => exact rfl); (case f => decide)) | (refine' pick_lst 6 ?n ?m ?k ?x ?f ?_; (case k => exact rfl); (case n => k_asm); (case m => k_extra "memq"); (case x => exact rfl); (case f => decide))))
    k_with "call ref" => (first
        | ((with_reducible show wpAny _ _ (call (Value.ref 323) _) _ _ _); k_dflt (refine' Clm.use (law_count_ok _ _ _ _ _ _ ) ?u1 ?u2 ?u3 ?u4 ?u5 ?u6 ?u7 ?u8 ?_; (case u1 => k_asm); (case u2 => k_asm); (case u3 => k_asm); (case u4 => k_asm); (case u5 => k_asm); (case u6 => first | exact rfl | assumption); (case u7 => first | exact room1 hdp (Nat.le_of_ble_eq_true rfl) | ktr_room); (case u8 => first | exact units1 hun (Nat.le_of_ble_eq_true rfl) | ktr_units)); intro t9 h9 tk9 F9 N9; (all_goals ((try dsimp only); (try k_sweep); (try k_fold)))))
    intro dp un gd cn cs a9 ccd cl outer A₀ base h₀ L m s Q E B F X N T hk hdp hun hret
    refine wpAny_call ?_
    k_dflt cell_enter
    k_steps
    all_goals (refine' endI hret ?e1 ?e2 ?e3 ?e4; (case e2 => k_asm); (case e3 => k_asm); (case e4 => k_extra "sub"); (case e1 => first | rfl | (unfold mktime; omega))))
end


theorem law_near_n_ok (x : Int) (t : Tok) (e : clip x = none) : Clm w loose mean mg mb 1 365 [.int x t] news (RetV news fun _ => .none) := by
  intro dp un gd cn cs a ccd cl outer A₀ base h₀ L m s Q E B F X N T hk hdp hun hret
  exact law_near_ok x t dp un gd cn cs a ccd cl outer A₀ base h₀ L m s Q E B F X N T hk hdp hun ⟨fun _ h' tk' F N => hret 0 h' tk' F N, fun i e2 => by rw [e] at e2; cases e2⟩
theorem law_near_s_ok (x i : Int) (t : Tok) (e : clip x = some i) : Clm w loose mean mg mb 1 365 [.int x t] news (RetV news fun t => .int i t) := by
  intro dp un gd cn cs a ccd cl outer A₀ base h₀ L m s Q E B F X N T hk hdp hun hret
  exact law_near_ok x t dp un gd cn cs a ccd cl outer A₀ base h₀ L m s Q E B F X N T hk hdp hun ⟨fun e2 => (by rw [e] at e2; cases e2), fun i e2 t h' tk' F N => by rw [e] at e2; cases e2; exact hret t h' tk' F N⟩
section
set_option maxHeartbeats 4000000 in
set_option pp.deepTerms false in
theorem law_sr1x_ok (a b c d e f g : Int) (t₁ t₂ t₃ t₄ t₅ t₆ t₇ : Tok) (q : Addr) (F : Fld a b c d e f g) (tk : Tok) (v : Value) : Clm w loose mean mg mb 11 372 [.ref q, .int 1 tk, v] ((q, tup7 a b c d e f g t₁ t₂ t₃ t₄ t₅ t₆ t₇) :: news) (RetV ((q, tup7 a b c d e f g t₁ t₂ t₃ t₄ t₅ t₆ t₇) :: news) fun _ => .bool true) := by
  w_on
  w_strict (
    k_with_none
    k_with "sub" => first | exact sub_self | (refine sub_cons ?_; k_extra "sub")
    k_with "compareOp In none ref" => (k_here; k_dflt (first | (refine' none_in_tup (b := false) ?N ?r ?c ?b ?u ?_; (case N => exact News.isTup (by k_asm) (by k_mem)); (case r => rfl); (case c => rfl); (case b => rfl); (case u => ktr_units); k_whole) | (refine' none_in_tup (b := true) ?N ?r ?c ?b ?u ?_; (case N => exact News.isTup (by k_asm) (by k_mem)); (case r => rfl); (case c => rfl); (case b => rfl); (case u => ktr_units); k_whole)))
    k_with "subc" => first | exact sub_self | (refine sub_both ?_; k_extra "subc") | (refine sub_cons ?_; k_extra "subc")
    k_with "low" => first | assumption | exact allLt_of (by assumption) | exact low1 (by assumption) | exact low2 (by assumption) | exact low3 (by assumption) | exact low4 (by assumption)
    k_with "mem" => first | exact sub_self | (k_extra "sub") | (refine List.forall_mem_cons.mpr ⟨?_, ?_⟩; k_mem; k_extra "mem")
    k_with "ne" => first | assumption | exact List.forall_mem_nil _ | exact ne_of_low (by k_extra "low") | (refine' List.forall_mem_cons.mpr ⟨?a, ?b⟩; (case a => k_ne); (case b => k_extra "ne"))
    k_with "pull" => first | k_asm | exact pull1 (by k_asm) | exact pull2 (by k_asm) | exact pull3 (by k_asm) | exact pull4 (by k_asm)
    k_with "memq" => first | with_reducible assumption | exact List.Mem.head _ | (refine' List.Mem.tail _ ?_; k_extra "memq")
    k_with "subscriptTail Name Slice ref ref" => ((with_reducible show wpAny _ _ (subscriptTail (Expr.Name (Str.ofString "seven") _) _ _ _) _ _ _); k_dflt (first | (refine' slice_tuple_to 1 ?F ?N ?m ?y ?b ?z ?e ?_ ?s ?g; (case F => k_asm); (case N => k_asm); (case m => k_extra "memq"); (case y => exact rfl); (case b => exact Nat.le_of_ble_eq_true rfl); (case z => exact Nat.le_of_ble_eq_true rfl); (case e => kl_lit); (case s => with_unfolding_all rfl); (case g => kmk_pure); (intro D9 h9 F9 N9 l9); (try simp only [AllLt, and_true] at l9); (try k_sweep)) | (refine' slice_tuple_to 2 ?F ?N ?m ?y ?b ?z ?e ?_ ?s ?g; (case F => k_asm); (case N => k_asm); (case m => k_extra "memq"); (case y => exact rfl); (case b => exact Nat.le_of_ble_eq_true rfl); (case z => exact Nat.le_of_ble_eq_true rfl); (case e => kl_lit); (case s => with_unfolding_all rfl); (case g => kmk_pure); (intro D9 h9 F9 N9 l9); (try simp only [AllLt, and_true] at l9); (try k_sweep)) | (refine' slice_tuple_to 3 ?F ?N ?m ?y ?b ?z ?e ?_ ?s ?g; (case F => k_asm); (case N => k_asm); (case m => k_extra "memq"); (case y => exact rfl); (case b => exact Nat.le_of_ble_eq_true rfl); (case z => exact Nat.le_of_ble_eq_true rfl); (case e => kl_lit); (case s => with_unfolding_all rfl); (case g => kmk_pure); (intro D9 h9 F9 N9 l9); (try simp only [AllLt, and_true] at l9); (try k_sweep)) | (refine' slice_tuple_to 4 ?F ?N ?m ?y ?b ?z ?e ?_ ?s ?g; (case F => k_asm); (case N => k_asm); (case m => k_extra "memq"); (case y => exact rfl); (case b => exact Nat.le_of_ble_eq_true rfl); (case z => exact Nat.le_of_ble_eq_true rfl); (case e => kl_lit); (case s => with_unfolding_all rfl); (case g => kmk_pure); (intro D9 h9 F9 N9 l9); (try simp only [AllLt, and_true] at l9); (try k_sweep)) | (refine' slice_tuple_to 5 ?F ?N ?m ?y ?b ?z ?e ?_ ?s ?g; (case F => k_asm); (case N => k_asm); (case m => k_extra "memq"); (case y => exact rfl); (case b => exact Nat.le_of_ble_eq_true rfl); (case z => exact Nat.le_of_ble_eq_true rfl); (case e => kl_lit); (case s => with_unfolding_all rfl); (case g => kmk_pure); (intro D9 h9 F9 N9 l9); (try simp only [AllLt, and_true] at l9); (try k_sweep)) | (refine' slice_tuple_to 6 ?F ?N ?m ?y ?b ?z ?e ?_ ?s ?g; (case F => k_asm); (case N => k_asm); (case m => k_extra "memq"); (case y => exact rfl); (case b => exact Nat.le_of_ble_eq_true rfl); (case z => exact Nat.le_of_ble_eq_true rfl); (case e => kl_lit); (case s => with_unfolding_all rfl); (case g => kmk_pure); (intro D9 h9 F9 N9 l9); (try simp only [AllLt, and_true] at l9); (try k_sweep))| (refine' slice_tuple_all ?F ?N ?m ?y ?_ ?s ?g; (case F => k_asm); (case N => k_asm); (case m => k_extra "memq"); (case y => exact rfl); (case s => with_unfolding_all rfl); (case g => kmk_pure); (intro h9 F9 N9); (try k_sweep))))
    k_with "call builtin:str.join" => (k_dflt (refine join_cat (by k_asm) (by k_extra "memq") (by kct_strs) (by exact Nat.le_of_ble_eq_true rfl) (by (simp only [List.map_cons, List.map_nil, List.sum_cons, List.sum_nil]; (exact Nat.le_trans (by repeat (first | with_reducible (first | exact PL1 | exact PL2 | exact PL3 | exact PL4 | exact PL5 | exact PL6) | exact Nat.le_of_eq (show _ = 1 from rfl) | exact Nat.le_refl 0 | (with_reducible apply Nat.add_le_add) | (apply len_cat))) (by exact Nat.le_of_ble_eq_true rfl)))) ?_); intro T9 t9 k9 e9 l9)
    k_with "execs cons" => (dsimp only; walk_at "execs cons")
    k_with "binaryOp Add str str" => (dsimp only; walk_at "binaryOp Add str str")
    k_with "newList" => (dsimp only; walk_at "newList")
    k_with "storeName" => (dsimp only; walk_at "storeName")
    k_with "call ref" => (first
        | ((with_reducible show wpAny _ _ (call (Value.ref 351) _) _ _ _); k_dflt (refine' Clm.use (law_piecesF_ok _ _ _ _ _ _ _ _ _ _ _ _ _ _ _ ?p0 ?p1) ?u1 ?u2 ?u3 ?u4 ?u5 ?u6 ?u7 ?u8 ?_; (case u1 => k_asm); (case u2 => k_asm); (case u3 => k_asm); (case u4 => k_asm); (case u5 => k_asm); (case u6 => first | exact rfl | assumption); (case u7 => first | exact room1 hdp (Nat.le_of_ble_eq_true rfl) | ktr_room); (case u8 => first | exact units1 hun (Nat.le_of_ble_eq_true rfl) | ktr_units); (case p0 => k_extra "memq"); (case p1 => with_reducible assumption)); intro q9 u1 u2 u3 u4 u5 u6 h9 tk9 z1 z2 z3 z4 z5 z6 F9 N9 l9; (try simp only [AllLt, and_true] at l9); (all_goals ((try dsimp only); (try k_sweep); (try k_fold))))
        | ((with_reducible show wpAny _ _ (call (Value.ref 358) _) _ _ _); k_dflt (refine' Clm.use (law_suml_ok _ _ _ _ _ _ _ _ _ _ _ _ _ _ _ _ ?p0) ?u1 ?u2 ?u3 ?u4 ?u5 ?u6 ?u7 ?u8 ?_; (case u1 => k_asm); (case u2 => k_asm); (case u3 => k_asm); (case u4 => k_asm); (case u5 => k_asm); (case u6 => first | exact rfl | assumption); (case u7 => first | exact room1 hdp (Nat.le_of_ble_eq_true rfl) | ktr_room); (case u8 => first | exact units1 hun (Nat.le_of_ble_eq_true rfl) | ktr_units); (case p0 => k_mem)); intro t9 h9 tk9 F9 N9; (all_goals ((try dsimp only); (try k_sweep); (try k_fold))))
        | ((with_reducible show wpAny _ _ (call (Value.ref 337) _) _ _ _); k_dflt (refine' Clm.use (law_wide_ok _ _ _ _ ?p0 ?p1 ?p2 ?p3) ?u1 ?u2 ?u3 ?u4 ?u5 ?u6 ?u7 ?u8 ?_; (case u1 => k_asm); (case u2 => k_asm); (case u3 => k_asm); (case u4 => k_asm); (case u5 => k_asm); (case u6 => first | exact rfl | assumption); (case u7 => first | exact room1 hdp (Nat.le_of_ble_eq_true rfl) | ktr_room); (case u8 => first | exact units1 hun (Nat.le_of_ble_eq_true rfl) | ktr_units); (case p0 => first | (with_reducible assumption) | omega); (case p1 => first | (with_reducible assumption) | omega); (case p2 => first | decide | omega); (case p3 => first | decide | omega)); intro t9 h9 tk9 z9 F9 N9; (all_goals ((try dsimp only); (try k_sweep); (try k_fold))))
        | ((with_reducible show wpAny _ _ (call (Value.ref 309) _) _ _ _); k_dflt (refine' Clm.use (parse_iso_ok _ _ ?p0) ?u1 ?u2 ?u3 ?u4 ?u5 ?u6 ?u7 ?u8 ?_; (case u1 => k_asm); (case u2 => k_asm); (case u3 => k_asm); (case u4 => k_asm); (case u5 => k_asm); (case u6 => first | exact rfl | assumption); (case u7 => first | exact room1 hdp (Nat.le_of_ble_eq_true rfl) | ktr_room); (case u8 => first | exact units1 hun (Nat.le_of_ble_eq_true rfl) | ktr_units); (case p0 => first | (with_reducible assumption) | (exact Nat.le_trans (by repeat (first | with_reducible assumption | exact Nat.le_of_eq (show _ = 1 from rfl) | exact Nat.le_refl 0 | (with_reducible apply Nat.add_le_add) | (apply len_cat))) (by exact Nat.le_of_ble_eq_true rfl)) | omega)); refine' ⟨fun e9 h9 tk9 F9 N9 => ?_, fun i9 e9 t9 h9 tk9 F9 N9 => ?_⟩; (all_goals ((try dsimp only); (try k_sweep); (try k_fold))))
        | ((with_reducible show wpAny _ _ (call (Value.ref 365) _) _ _ _); k_dflt (refine' Clm.use (law_near_n_ok _ _ ?p0) ?u1 ?u2 ?u3 ?u4 ?u5 ?u6 ?u7 ?u8 ?_; (case u1 => k_asm); (case u2 => k_asm); (case u3 => k_asm); (case u4 => k_asm); (case u5 => k_asm); (case u6 => first | exact rfl | assumption); (case u7 => first | exact room1 hdp (Nat.le_of_ble_eq_true rfl) | ktr_room); (case u8 => first | exact units1 hun (Nat.le_of_ble_eq_true rfl) | ktr_units); (case p0 => (exact (sr1_eq (by with_reducible assumption) (by with_reducible assumption)).symm.trans (by with_reducible assumption)))); intro t9 h9 tk9 F9 N9; (all_goals ((try dsimp only); (try k_sweep); (try k_fold))))
        | ((with_reducible show wpAny _ _ (call (Value.ref 365) _) _ _ _); k_dflt (refine' Clm.use (law_near_s_ok _ _ _ ?p0) ?u1 ?u2 ?u3 ?u4 ?u5 ?u6 ?u7 ?u8 ?_; (case u1 => k_asm); (case u2 => k_asm); (case u3 => k_asm); (case u4 => k_asm); (case u5 => k_asm); (case u6 => first | exact rfl | assumption); (case u7 => first | exact room1 hdp (Nat.le_of_ble_eq_true rfl) | ktr_room); (case u8 => first | exact units1 hun (Nat.le_of_ble_eq_true rfl) | ktr_units); (case p0 => (exact (sr1_eq (by with_reducible assumption) (by with_reducible assumption)).symm.trans (by with_reducible assumption)))); intro t9 h9 tk9 F9 N9; (all_goals ((try dsimp only); (try k_sweep); (try k_fold)))))
    intro dp un gd cn cs a9 ccd cl outer A₀ base h₀ L m s Q E B F9 X N T hk hdp hun hret
    obtain ⟨PL1, PL2, PL3, PL4, PL5, PL6⟩ := pieces_len F
    refine wpAny_call ?_
    k_dflt cell_enter
    k_steps
    all_goals ((refine' endB hret ?e1 ?e2 ?e3 ?e4; (case e2 => k_asm); (case e3 => k_asm); (case e4 => k_extra "mem"); (case e1 => first | rfl | simp))))
end

section
set_option maxHeartbeats 4000000 in
set_option pp.deepTerms false in
theorem law_sr2x_ok (a b c d e f g : Int) (t₁ t₂ t₃ t₄ t₅ t₆ t₇ : Tok) (q : Addr) (F : Fld a b c d e f g) (tk : Tok) (v : Value) : Clm w loose mean mg mb 11 372 [.ref q, .int 2 tk, v] ((q, tup7 a b c d e f g t₁ t₂ t₃ t₄ t₅ t₆ t₇) :: news) (RetV ((q, tup7 a b c d e f g t₁ t₂ t₃ t₄ t₅ t₆ t₇) :: news) fun _ => .bool true) := by
  w_on
  w_strict (
    k_with_none
    k_with "sub" => first | exact sub_self | (refine sub_cons ?_; k_extra "sub")
    k_with "compareOp In none ref" => (k_here; k_dflt (first | (refine' none_in_tup (b := false) ?N ?r ?c ?b ?u ?_; (case N => exact News.isTup (by k_asm) (by k_mem)); (case r => rfl); (case c => rfl); (case b => rfl); (case u => ktr_units); k_whole) | (refine' none_in_tup (b := true) ?N ?r ?c ?b ?u ?_; (case N => exact News.isTup (by k_asm) (by k_mem)); (case r => rfl); (case c => rfl); (case b => rfl); (case u => ktr_units); k_whole)))
    k_with "subc" => first | exact sub_self | (refine sub_both ?_; k_extra "subc") | (refine sub_cons ?_; k_extra "subc")
    k_with "low" => first | assumption | exact allLt_of (by assumption) | exact low1 (by assumption) | exact low2 (by assumption) | exact low3 (by assumption) | exact low4 (by assumption)
    k_with "mem" => first | exact sub_self | (k_extra "sub") | (refine List.forall_mem_cons.mpr ⟨?_, ?_⟩; k_mem; k_extra "mem")
    k_with "ne" => first | assumption | exact List.forall_mem_nil _ | exact ne_of_low (by k_extra "low") | (refine' List.forall_mem_cons.mpr ⟨?a, ?b⟩; (case a => k_ne); (case b => k_extra "ne"))
    k_with "pull" => first | k_asm | exact pull1 (by k_asm) | exact pull2 (by k_asm) | exact pull3 (by k_asm) | exact pull4 (by k_asm)
    k_with "memq" => first | with_reducible assumption | exact List.Mem.head _ | (refine' List.Mem.tail _ ?_; k_extra "memq")
    k_with "subscriptTail Name Slice ref ref" => ((with_reducible show wpAny _ _ (subscriptTail (Expr.Name (Str.ofString "seven") _) _ _ _) _ _ _); k_dflt (first | (refine' slice_tuple_to 1 ?F ?N ?m ?y ?b ?z ?e ?_ ?s ?g; (case F => k_asm); (case N => k_asm); (case m => k_extra "memq"); (case y => exact rfl); (case b => exact Nat.le_of_ble_eq_true rfl); (case z => exact Nat.le_of_ble_eq_true rfl); (case e => kl_lit); (case s => with_unfolding_all rfl); (case g => kmk_pure); (intro D9 h9 F9 N9 l9); (try simp only [AllLt, and_true] at l9); (try k_sweep)) | (refine' slice_tuple_to 2 ?F ?N ?m ?y ?b ?z ?e ?_ ?s ?g; (case F => k_asm); (case N => k_asm); (case m => k_extra "memq"); (case y => exact rfl); (case b => exact Nat.le_of_ble_eq_true rfl); (case z => exact Nat.le_of_ble_eq_true rfl); (case e => kl_lit); (case s => with_unfolding_all rfl); (case g => kmk_pure); (intro D9 h9 F9 N9 l9); (try simp only [AllLt, and_true] at l9); (try k_sweep)) | (refine' slice_tuple_to 3 ?F ?N ?m ?y ?b ?z ?e ?_ ?s ?g; (case F => k_asm); (case N => k_asm); (case m => k_extra "memq"); (case y => exact rfl); (case b => exact Nat.le_of_ble_eq_true rfl); (case z => exact Nat.le_of_ble_eq_true rfl); (case e => kl_lit); (case s => with_unfolding_all rfl); (case g => kmk_pure); (intro D9 h9 F9 N9 l9); (try simp only [AllLt, and_true] at l9); (try k_sweep)) | (refine' slice_tuple_to 4 ?F ?N ?m ?y ?b ?z ?e ?_ ?s ?g; (case F => k_asm); (case N => k_asm); (case m => k_extra "memq"); (case y => exact rfl); (case b => exact Nat.le_of_ble_eq_true rfl); (case z => exact Nat.le_of_ble_eq_true rfl); (case e => kl_lit); (case s => with_unfolding_all rfl); (case g => kmk_pure); (intro D9 h9 F9 N9 l9); (try simp only [AllLt, and_true] at l9); (try k_sweep)) | (refine' slice_tuple_to 5 ?F ?N ?m ?y ?b ?z ?e ?_ ?s ?g; (case F => k_asm); (case N => k_asm); (case m => k_extra "memq"); (case y => exact rfl); (case b => exact Nat.le_of_ble_eq_true rfl); (case z => exact Nat.le_of_ble_eq_true rfl); (case e => kl_lit); (case s => with_unfolding_all rfl); (case g => kmk_pure); (intro D9 h9 F9 N9 l9); (try simp only [AllLt, and_true] at l9); (try k_sweep)) | (refine' slice_tuple_to 6 ?F ?N ?m ?y ?b ?z ?e ?_ ?s ?g; (case F => k_asm); (case N => k_asm); (case m => k_extra "memq"); (case y => exact rfl); (case b => exact Nat.le_of_ble_eq_true rfl); (case z => exact Nat.le_of_ble_eq_true rfl); (case e => kl_lit); (case s => with_unfolding_all rfl); (case g => kmk_pure); (intro D9 h9 F9 N9 l9); (try simp only [AllLt, and_true] at l9); (try k_sweep))| (refine' slice_tuple_all ?F ?N ?m ?y ?_ ?s ?g; (case F => k_asm); (case N => k_asm); (case m => k_extra "memq"); (case y => exact rfl); (case s => with_unfolding_all rfl); (case g => kmk_pure); (intro h9 F9 N9); (try k_sweep))))
    k_with "call builtin:str.join" => (k_dflt (refine join_cat (by k_asm) (by k_extra "memq") (by kct_strs) (by exact Nat.le_of_ble_eq_true rfl) (by (simp only [List.map_cons, List.map_nil, List.sum_cons, List.sum_nil]; (exact Nat.le_trans (by repeat (first | with_reducible (first | exact PL1 | exact PL2 | exact PL3 | exact PL4 | exact PL5 | exact PL6) | exact Nat.le_of_eq (show _ = 1 from rfl) | exact Nat.le_refl 0 | (with_reducible apply Nat.add_le_add) | (apply len_cat))) (by exact Nat.le_of_ble_eq_true rfl)))) ?_); intro T9 t9 k9 e9 l9)
    k_with "execs cons" => (dsimp only; walk_at "execs cons")
    k_with "binaryOp Add str str" => (dsimp only; walk_at "binaryOp Add str str")
    k_with "newList" => (dsimp only; walk_at "newList")
    k_with "storeName" => (dsimp only; walk_at "storeName")
    k_with "call ref" => (first
        | ((with_reducible show wpAny _ _ (call (Value.ref 351) _) _ _ _); k_dflt (refine' Clm.use (law_piecesF_ok _ _ _ _ _ _ _ _ _ _ _ _ _ _ _ ?p0 ?p1) ?u1 ?u2 ?u3 ?u4 ?u5 ?u6 ?u7 ?u8 ?_; (case u1 => k_asm); (case u2 => k_asm); (case u3 => k_asm); (case u4 => k_asm); (case u5 => k_asm); (case u6 => first | exact rfl | assumption); (case u7 => first | exact room1 hdp (Nat.le_of_ble_eq_true rfl) | ktr_room); (case u8 => first | exact units1 hun (Nat.le_of_ble_eq_true rfl) | ktr_units); (case p0 => k_extra "memq"); (case p1 => with_reducible assumption)); intro q9 u1 u2 u3 u4 u5 u6 h9 tk9 z1 z2 z3 z4 z5 z6 F9 N9 l9; (try simp only [AllLt, and_true] at l9); (all_goals ((try dsimp only); (try k_sweep); (try k_fold))))
        | ((with_reducible show wpAny _ _ (call (Value.ref 358) _) _ _ _); k_dflt (refine' Clm.use (law_suml_ok _ _ _ _ _ _ _ _ _ _ _ _ _ _ _ _ ?p0) ?u1 ?u2 ?u3 ?u4 ?u5 ?u6 ?u7 ?u8 ?_; (case u1 => k_asm); (case u2 => k_asm); (case u3 => k_asm); (case u4 => k_asm); (case u5 => k_asm); (case u6 => first | exact rfl | assumption); (case u7 => first | exact room1 hdp (Nat.le_of_ble_eq_true rfl) | ktr_room); (case u8 => first | exact units1 hun (Nat.le_of_ble_eq_true rfl) | ktr_units); (case p0 => k_mem)); intro t9 h9 tk9 F9 N9; (all_goals ((try dsimp only); (try k_sweep); (try k_fold))))
        | ((with_reducible show wpAny _ _ (call (Value.ref 337) _) _ _ _); k_dflt (refine' Clm.use (law_wide_ok _ _ _ _ ?p0 ?p1 ?p2 ?p3) ?u1 ?u2 ?u3 ?u4 ?u5 ?u6 ?u7 ?u8 ?_; (case u1 => k_asm); (case u2 => k_asm); (case u3 => k_asm); (case u4 => k_asm); (case u5 => k_asm); (case u6 => first | exact rfl | assumption); (case u7 => first | exact room1 hdp (Nat.le_of_ble_eq_true rfl) | ktr_room); (case u8 => first | exact units1 hun (Nat.le_of_ble_eq_true rfl) | ktr_units); (case p0 => first | (with_reducible assumption) | omega); (case p1 => first | (with_reducible assumption) | omega); (case p2 => first | decide | omega); (case p3 => first | decide | omega)); intro t9 h9 tk9 z9 F9 N9; (all_goals ((try dsimp only); (try k_sweep); (try k_fold))))
        | ((with_reducible show wpAny _ _ (call (Value.ref 309) _) _ _ _); k_dflt (refine' Clm.use (parse_iso_ok _ _ ?p0) ?u1 ?u2 ?u3 ?u4 ?u5 ?u6 ?u7 ?u8 ?_; (case u1 => k_asm); (case u2 => k_asm); (case u3 => k_asm); (case u4 => k_asm); (case u5 => k_asm); (case u6 => first | exact rfl | assumption); (case u7 => first | exact room1 hdp (Nat.le_of_ble_eq_true rfl) | ktr_room); (case u8 => first | exact units1 hun (Nat.le_of_ble_eq_true rfl) | ktr_units); (case p0 => first | (with_reducible assumption) | (exact Nat.le_trans (by repeat (first | with_reducible assumption | exact Nat.le_of_eq (show _ = 1 from rfl) | exact Nat.le_refl 0 | (with_reducible apply Nat.add_le_add) | (apply len_cat))) (by exact Nat.le_of_ble_eq_true rfl)) | omega)); refine' ⟨fun e9 h9 tk9 F9 N9 => ?_, fun i9 e9 t9 h9 tk9 F9 N9 => ?_⟩; (all_goals ((try dsimp only); (try k_sweep); (try k_fold))))
        | ((with_reducible show wpAny _ _ (call (Value.ref 365) _) _ _ _); k_dflt (refine' Clm.use (law_near_n_ok _ _ ?p0) ?u1 ?u2 ?u3 ?u4 ?u5 ?u6 ?u7 ?u8 ?_; (case u1 => k_asm); (case u2 => k_asm); (case u3 => k_asm); (case u4 => k_asm); (case u5 => k_asm); (case u6 => first | exact rfl | assumption); (case u7 => first | exact room1 hdp (Nat.le_of_ble_eq_true rfl) | ktr_room); (case u8 => first | exact units1 hun (Nat.le_of_ble_eq_true rfl) | ktr_units); (case p0 => (exact (sr2_eq (by with_reducible assumption) (by with_reducible assumption)).symm.trans (by with_reducible assumption)))); intro t9 h9 tk9 F9 N9; (all_goals ((try dsimp only); (try k_sweep); (try k_fold))))
        | ((with_reducible show wpAny _ _ (call (Value.ref 365) _) _ _ _); k_dflt (refine' Clm.use (law_near_s_ok _ _ _ ?p0) ?u1 ?u2 ?u3 ?u4 ?u5 ?u6 ?u7 ?u8 ?_; (case u1 => k_asm); (case u2 => k_asm); (case u3 => k_asm); (case u4 => k_asm); (case u5 => k_asm); (case u6 => first | exact rfl | assumption); (case u7 => first | exact room1 hdp (Nat.le_of_ble_eq_true rfl) | ktr_room); (case u8 => first | exact units1 hun (Nat.le_of_ble_eq_true rfl) | ktr_units); (case p0 => (exact (sr2_eq (by with_reducible assumption) (by with_reducible assumption)).symm.trans (by with_reducible assumption)))); intro t9 h9 tk9 F9 N9; (all_goals ((try dsimp only); (try k_sweep); (try k_fold)))))
    intro dp un gd cn cs a9 ccd cl outer A₀ base h₀ L m s Q E B F9 X N T hk hdp hun hret
    obtain ⟨PL1, PL2, PL3, PL4, PL5, PL6⟩ := pieces_len F
    refine wpAny_call ?_
    k_dflt cell_enter
    k_steps
    all_goals ((refine' endB hret ?e1 ?e2 ?e3 ?e4; (case e2 => k_asm); (case e3 => k_asm); (case e4 => k_extra "mem"); (case e1 => first | rfl | simp))))
end

section
set_option maxHeartbeats 4000000 in
set_option pp.deepTerms false in
theorem law_sr3x_ok (a b c d e f g : Int) (t₁ t₂ t₃ t₄ t₅ t₆ t₇ : Tok) (q : Addr) (F : Fld a b c d e f g) (tk : Tok) (v : Value) : Clm w loose mean mg mb 11 372 [.ref q, .int 3 tk, v] ((q, tup7 a b c d e f g t₁ t₂ t₃ t₄ t₅ t₆ t₇) :: news) (RetV ((q, tup7 a b c d e f g t₁ t₂ t₃ t₄ t₅ t₆ t₇) :: news) fun _ => .bool true) := by
  w_on
  w_strict (
    k_with_none
    k_with "sub" => first | exact sub_self | (refine sub_cons ?_; k_extra "sub")
    k_with "compareOp In none ref" => (k_here; k_dflt (first | (refine' none_in_tup (b := false) ?N ?r ?c ?b ?u ?_; (case N => exact News.isTup (by k_asm) (by k_mem)); (case r => rfl); (case c => rfl); (case b => rfl); (case u => ktr_units); k_whole) | (refine' none_in_tup (b := true) ?N ?r ?c ?b ?u ?_; (case N => exact News.isTup (by k_asm) (by k_mem)); (case r => rfl); (case c => rfl); (case b => rfl); (case u => ktr_units); k_whole)))
    k_with "subc" => first | exact sub_self | (refine sub_both ?_; k_extra "subc") | (refine sub_cons ?_; k_extra "subc")
    k_with "low" => first | assumption | exact allLt_of (by assumption) | exact low1 (by assumption) | exact low2 (by assumption) | exact low3 (by assumption) | exact low4 (by assumption)
    k_with "mem" => first | exact sub_self | (k_extra "sub") | (refine List.forall_mem_cons.mpr ⟨?_, ?_⟩; k_mem; k_extra "mem")
    k_with "ne" => first | assumption | exact List.forall_mem_nil _ | exact ne_of_low (by k_extra "low") | (refine' List.forall_mem_cons.mpr ⟨?a, ?b⟩; (case a => k_ne); (case b => k_extra "ne"))
    k_with "pull" => first | k_asm | exact pull1 (by k_asm) | exact pull2 (by k_asm) | exact pull3 (by k_asm) | exact pull4 (by k_asm)
    k_with "memq" => first | with_reducible assumption | exact List.Mem.head _ | (refine' List.Mem.tail _ ?_; k_extra "memq")
    k_with "subscriptTail Name Slice ref ref" => ((with_reducible show wpAny _ _ (subscriptTail (Expr.Name (Str.ofString "seven") _) _ _ _) _ _ _); k_dflt (first | (refine' slice_tuple_to 1 ?F ?N ?m ?y ?b ?z ?e ?_ ?s ?g; (case F => k_asm); (case N => k_asm); (case m => k_extra "memq"); (case y => exact rfl); (case b => exact Nat.le_of_ble_eq_true rfl); (case z => exact Nat.le_of_ble_eq_true rfl); (case e => kl_lit); (case s => with_unfolding_all rfl); (case g => kmk_pure); (intro D9 h9 F9 N9 l9); (try simp only [AllLt, and_true] at l9); (try k_sweep)) | (refine' slice_tuple_to 2 ?F ?N ?m ?y ?b ?z ?e ?_ ?s ?g; (case F => k_asm); (case N => k_asm); (case m => k_extra "memq"); (case y => exact rfl); (case b => exact Nat.le_of_ble_eq_true rfl); (case z => exact Nat.le_of_ble_eq_true rfl); (case e => kl_lit); (case s => with_unfolding_all rfl); (case g => kmk_pure); (intro D9 h9 F9 N9 l9); (try simp only [AllLt, and_true] at l9); (try k_sweep)) | (refine' slice_tuple_to 3 ?F ?N ?m ?y ?b ?z ?e ?_ ?s ?g; (case F => k_asm); (case N => k_asm); (case m => k_extra "memq"); (case y => exact rfl); (case b => exact Nat.le_of_ble_eq_true rfl); (case z => exact Nat.le_of_ble_eq_true rfl); (case e => kl_lit); (case s => with_unfolding_all rfl); (case g => kmk_pure); (intro D9 h9 F9 N9 l9); (try simp only [AllLt, and_true] at l9); (try k_sweep)) | (refine' slice_tuple_to 4 ?F ?N ?m ?y ?b ?z ?e ?_ ?s ?g; (case F => k_asm); (case N => k_asm); (case m => k_extra "memq"); (case y => exact rfl); (case b => exact Nat.le_of_ble_eq_true rfl); (case z => exact Nat.le_of_ble_eq_true rfl); (case e => kl_lit); (case s => with_unfolding_all rfl); (case g => kmk_pure); (intro D9 h9 F9 N9 l9); (try simp only [AllLt, and_true] at l9); (try k_sweep)) | (refine' slice_tuple_to 5 ?F ?N ?m ?y ?b ?z ?e ?_ ?s ?g; (case F => k_asm); (case N => k_asm); (case m => k_extra "memq"); (case y => exact rfl); (case b => exact Nat.le_of_ble_eq_true rfl); (case z => exact Nat.le_of_ble_eq_true rfl); (case e => kl_lit); (case s => with_unfolding_all rfl); (case g => kmk_pure); (intro D9 h9 F9 N9 l9); (try simp only [AllLt, and_true] at l9); (try k_sweep)) | (refine' slice_tuple_to 6 ?F ?N ?m ?y ?b ?z ?e ?_ ?s ?g; (case F => k_asm); (case N => k_asm); (case m => k_extra "memq"); (case y => exact rfl); (case b => exact Nat.le_of_ble_eq_true rfl); (case z => exact Nat.le_of_ble_eq_true rfl); (case e => kl_lit); (case s => with_unfolding_all rfl); (case g => kmk_pure); (intro D9 h9 F9 N9 l9); (try simp only [AllLt, and_true] at l9); (try k_sweep))| (refine' slice_tuple_all ?F ?N ?m ?y ?_ ?s ?g; (case F => k_asm); (case N => k_asm); (case m => k_extra "memq"); (case y => exact rfl); (case s => with_unfolding_all rfl); (case g => kmk_pure); (intro h9 F9 N9); (try k_sweep))))
    k_with "call builtin:str.join" => (k_dflt (refine join_cat (by k_asm) (by k_extra "memq") (by kct_strs) (by exact Nat.le_of_ble_eq_true rfl) (by (simp only [List.map_cons, List.map_nil, List.sum_cons, List.sum_nil]; (exact Nat.le_trans (by repeat (first | with_reducible (first | exact PL1 | exact PL2 | exact PL3 | exact PL4 | exact PL5 | exact PL6) | exact Nat.le_of_eq (show _ = 1 from rfl) | exact Nat.le_refl 0 | (with_reducible apply Nat.add_le_add) | (apply len_cat))) (by exact Nat.le_of_ble_eq_true rfl)))) ?_); intro T9 t9 k9 e9 l9)
    k_with "execs cons" => (dsimp only; walk_at "execs cons")
    k_with "binaryOp Add str str" => (dsimp only; walk_at "binaryOp Add str str")
    k_with "newList" => (dsimp only; walk_at "newList")
    k_with "storeName" => (dsimp only; walk_at "storeName")
    k_with "call ref" => (first
        | ((with_reducible show wpAny _ _ (call (Value.ref 351) _) _ _ _); k_dflt (refine' Clm.use (law_piecesF_ok _ _ _ _ _ _ _ _ _ _ _ _ _ _ _ ?p0 ?p1) ?u1 ?u2 ?u3 ?u4 ?u5 ?u6 ?u7 ?u8 ?_; (case u1 => k_asm); (case u2 => k_asm); (case u3 => k_asm); (case u4 => k_asm); (case u5 => k_asm); (case u6 => first | exact rfl | assumption); (case u7 => first | exact room1 hdp (Nat.le_of_ble_eq_true rfl) | ktr_room); (case u8 => first | exact units1 hun (Nat.le_of_ble_eq_true rfl) | ktr_units); (case p0 => k_extra "memq"); (case p1 => with_reducible assumption)); intro q9 u1 u2 u3 u4 u5 u6 h9 tk9 z1 z2 z3 z4 z5 z6 F9 N9 l9; (try simp only [AllLt, and_true] at l9); (all_goals ((try dsimp only); (try k_sweep); (try k_fold))))
        | ((with_reducible show wpAny _ _ (call (Value.ref 358) _) _ _ _); k_dflt (refine' Clm.use (law_suml_ok _ _ _ _ _ _ _ _ _ _ _ _ _ _ _ _ ?p0) ?u1 ?u2 ?u3 ?u4 ?u5 ?u6 ?u7 ?u8 ?_; (case u1 => k_asm); (case u2 => k_asm); (case u3 => k_asm); (case u4 => k_asm); (case u5 => k_asm); (case u6 => first | exact rfl | assumption); (case u7 => first | exact room1 hdp (Nat.le_of_ble_eq_true rfl) | ktr_room); (case u8 => first | exact units1 hun (Nat.le_of_ble_eq_true rfl) | ktr_units); (case p0 => k_mem)); intro t9 h9 tk9 F9 N9; (all_goals ((try dsimp only); (try k_sweep); (try k_fold))))
        | ((with_reducible show wpAny _ _ (call (Value.ref 337) _) _ _ _); k_dflt (refine' Clm.use (law_wide_ok _ _ _ _ ?p0 ?p1 ?p2 ?p3) ?u1 ?u2 ?u3 ?u4 ?u5 ?u6 ?u7 ?u8 ?_; (case u1 => k_asm); (case u2 => k_asm); (case u3 => k_asm); (case u4 => k_asm); (case u5 => k_asm); (case u6 => first | exact rfl | assumption); (case u7 => first | exact room1 hdp (Nat.le_of_ble_eq_true rfl) | ktr_room); (case u8 => first | exact units1 hun (Nat.le_of_ble_eq_true rfl) | ktr_units); (case p0 => first | (with_reducible assumption) | omega); (case p1 => first | (with_reducible assumption) | omega); (case p2 => first | decide | omega); (case p3 => first | decide | omega)); intro t9 h9 tk9 z9 F9 N9; (all_goals ((try dsimp only); (try k_sweep); (try k_fold))))
        | ((with_reducible show wpAny _ _ (call (Value.ref 309) _) _ _ _); k_dflt (refine' Clm.use (parse_iso_ok _ _ ?p0) ?u1 ?u2 ?u3 ?u4 ?u5 ?u6 ?u7 ?u8 ?_; (case u1 => k_asm); (case u2 => k_asm); (case u3 => k_asm); (case u4 => k_asm); (case u5 => k_asm); (case u6 => first | exact rfl | assumption); (case u7 => first | exact room1 hdp (Nat.le_of_ble_eq_true rfl) | ktr_room); (case u8 => first | exact units1 hun (Nat.le_of_ble_eq_true rfl) | ktr_units); (case p0 => first | (with_reducible assumption) | (exact Nat.le_trans (by repeat (first | with_reducible assumption | exact Nat.le_of_eq (show _ = 1 from rfl) | exact Nat.le_refl 0 | (with_reducible apply Nat.add_le_add) | (apply len_cat))) (by exact Nat.le_of_ble_eq_true rfl)) | omega)); refine' ⟨fun e9 h9 tk9 F9 N9 => ?_, fun i9 e9 t9 h9 tk9 F9 N9 => ?_⟩; (all_goals ((try dsimp only); (try k_sweep); (try k_fold))))
        | ((with_reducible show wpAny _ _ (call (Value.ref 365) _) _ _ _); k_dflt (refine' Clm.use (law_near_n_ok _ _ ?p0) ?u1 ?u2 ?u3 ?u4 ?u5 ?u6 ?u7 ?u8 ?_; (case u1 => k_asm); (case u2 => k_asm); (case u3 => k_asm); (case u4 => k_asm); (case u5 => k_asm); (case u6 => first | exact rfl | assumption); (case u7 => first | exact room1 hdp (Nat.le_of_ble_eq_true rfl) | ktr_room); (case u8 => first | exact units1 hun (Nat.le_of_ble_eq_true rfl) | ktr_units); (case p0 => (exact (sr3_eq (by with_reducible assumption) (by with_reducible assumption)).symm.trans (by with_reducible assumption)))); intro t9 h9 tk9 F9 N9; (all_goals ((try dsimp only); (try k_sweep); (try k_fold))))
        | ((with_reducible show wpAny _ _ (call (Value.ref 365) _) _ _ _); k_dflt (refine' Clm.use (law_near_s_ok _ _ _ ?p0) ?u1 ?u2 ?u3 ?u4 ?u5 ?u6 ?u7 ?u8 ?_; (case u1 => k_asm); (case u2 => k_asm); (case u3 => k_asm); (case u4 => k_asm); (case u5 => k_asm); (case u6 => first | exact rfl | assumption); (case u7 => first | exact room1 hdp (Nat.le_of_ble_eq_true rfl) | ktr_room); (case u8 => first | exact units1 hun (Nat.le_of_ble_eq_true rfl) | ktr_units); (case p0 => (exact (sr3_eq (by with_reducible assumption) (by with_reducible assumption)).symm.trans (by with_reducible assumption)))); intro t9 h9 tk9 F9 N9; (all_goals ((try dsimp only); (try k_sweep); (try k_fold)))))
    intro dp un gd cn cs a9 ccd cl outer A₀ base h₀ L m s Q E B F9 X N T hk hdp hun hret
    obtain ⟨PL1, PL2, PL3, PL4, PL5, PL6⟩ := pieces_len F
    refine wpAny_call ?_
    k_dflt cell_enter
    k_steps
    all_goals ((refine' endB hret ?e1 ?e2 ?e3 ?e4; (case e2 => k_asm); (case e3 => k_asm); (case e4 => k_extra "mem"); (case e1 => first | rfl | simp))))
end

section
set_option maxHeartbeats 4000000 in
set_option pp.deepTerms false in
theorem law_sr4n_ok (a b c d e f g : Int) (t₁ t₂ t₃ t₄ t₅ t₆ t₇ : Tok) (q : Addr) (F : Fld a b c d e f g) (tk : Tok) : Clm w loose mean mg mb 11 372 [.ref q, .int 4 tk, .none] ((q, tup7 a b c d e f g t₁ t₂ t₃ t₄ t₅ t₆ t₇) :: news) (RetV ((q, tup7 a b c d e f g t₁ t₂ t₃ t₄ t₅ t₆ t₇) :: news) fun _ => .bool true) := by
  w_on
  w_strict (
    k_with_none
    k_with "sub" => first | exact sub_self | (refine sub_cons ?_; k_extra "sub")
    k_with "compareOp In none ref" => (k_here; k_dflt (first | (refine' none_in_tup (b := false) ?N ?r ?c ?b ?u ?_; (case N => exact News.isTup (by k_asm) (by k_mem)); (case r => rfl); (case c => rfl); (case b => rfl); (case u => ktr_units); k_whole) | (refine' none_in_tup (b := true) ?N ?r ?c ?b ?u ?_; (case N => exact News.isTup (by k_asm) (by k_mem)); (case r => rfl); (case c => rfl); (case b => rfl); (case u => ktr_units); k_whole)))
    k_with "subc" => first | exact sub_self | (refine sub_both ?_; k_extra "subc") | (refine sub_cons ?_; k_extra "subc")
    k_with "low" => first | assumption | exact allLt_of (by assumption) | exact low1 (by assumption) | exact low2 (by assumption) | exact low3 (by assumption) | exact low4 (by assumption)
    k_with "mem" => first | exact sub_self | (k_extra "sub") | (refine List.forall_mem_cons.mpr ⟨?_, ?_⟩; k_mem; k_extra "mem")
    k_with "ne" => first | assumption | exact List.forall_mem_nil _ | exact ne_of_low (by k_extra "low") | (refine' List.forall_mem_cons.mpr ⟨?a, ?b⟩; (case a => k_ne); (case b => k_extra "ne"))
    k_with "pull" => first | k_asm | exact pull1 (by k_asm) | exact pull2 (by k_asm) | exact pull3 (by k_asm) | exact pull4 (by k_asm)
    k_with "memq" => first | with_reducible assumption | exact List.Mem.head _ | (refine' List.Mem.tail _ ?_; k_extra "memq")
    k_with "subscriptTail Name Slice ref ref" => ((with_reducible show wpAny _ _ (subscriptTail (Expr.Name (Str.ofString "seven") _) _ _ _) _ _ _); k_dflt (first | (refine' slice_tuple_to 1 ?F ?N ?m ?y ?b ?z ?e ?_ ?s ?g; (case F => k_asm); (case N => k_asm); (case m => k_extra "memq"); (case y => exact rfl); (case b => exact Nat.le_of_ble_eq_true rfl); (case z => exact Nat.le_of_ble_eq_true rfl); (case e => kl_lit); (case s => with_unfolding_all rfl); (case g => kmk_pure); (intro D9 h9 F9 N9 l9); (try simp only [AllLt, and_true] at l9); (try k_sweep)) | (refine' slice_tuple_to 2 ?F ?N ?m ?y ?b ?z ?e ?_ ?s ?g; (case F => k_asm); (case N => k_asm); (case m => k_extra "memq"); (case y => exact rfl); (case b => exact Nat.le_of_ble_eq_true rfl); (case z => exact Nat.le_of_ble_eq_true rfl); (case e => kl_lit); (case s => with_unfolding_all rfl); (case g => kmk_pure); (intro D9 h9 F9 N9 l9); (try simp only [AllLt, and_true] at l9); (try k_sweep)) | (refine' slice_tuple_to 3 ?F ?N ?m ?y ?b ?z ?e ?_ ?s ?g; (case F => k_asm); (case N => k_asm); (case m => k_extra "memq"); (case y => exact rfl); (case b => exact Nat.le_of_ble_eq_true rfl); (case z => exact Nat.le_of_ble_eq_true rfl); (case e => kl_lit); (case s => with_unfolding_all rfl); (case g => kmk_pure); (intro D9 h9 F9 N9 l9); (try simp only [AllLt, and_true] at l9); (try k_sweep)) | (refine' slice_tuple_to 4 ?F ?N ?m ?y ?b ?z ?e ?_ ?s ?g; (case F => k_asm); (case N => k_asm); (case m => k_extra "memq"); (case y => exact rfl); (case b => exact Nat.le_of_ble_eq_true rfl); (case z => exact Nat.le_of_ble_eq_true rfl); (case e => kl_lit); (case s => with_unfolding_all rfl); (case g => kmk_pure); (intro D9 h9 F9 N9 l9); (try simp only [AllLt, and_true] at l9); (try k_sweep)) | (refine' slice_tuple_to 5 ?F ?N ?m ?y ?b ?z ?e ?_ ?s ?g; (case F => k_asm); (case N => k_asm); (case m => k_extra "memq"); (case y => exact rfl); (case b => exact Nat.le_of_ble_eq_true rfl); (case z => exact Nat.le_of_ble_eq_true rfl); (case e => kl_lit); (case s => with_unfolding_all rfl); (case g => kmk_pure); (intro D9 h9 F9 N9 l9); (try simp only [AllLt, and_true] at l9); (try k_sweep)) | (refine' slice_tuple_to 6 ?F ?N ?m ?y ?b ?z ?e ?_ ?s ?g; (case F => k_asm); (case N => k_asm); (case m => k_extra "memq"); (case y => exact rfl); (case b => exact Nat.le_of_ble_eq_true rfl); (case z => exact Nat.le_of_ble_eq_true rfl); (case e => kl_lit); (case s => with_unfolding_all rfl); (case g => kmk_pure); (intro D9 h9 F9 N9 l9); (try simp only [AllLt, and_true] at l9); (try k_sweep))| (refine' slice_tuple_all ?F ?N ?m ?y ?_ ?s ?g; (case F => k_asm); (case N => k_asm); (case m => k_extra "memq"); (case y => exact rfl); (case s => with_unfolding_all rfl); (case g => kmk_pure); (intro h9 F9 N9); (try k_sweep))))
    k_with "call builtin:str.join" => (k_dflt (refine join_cat (by k_asm) (by k_extra "memq") (by kct_strs) (by exact Nat.le_of_ble_eq_true rfl) (by (simp only [List.map_cons, List.map_nil, List.sum_cons, List.sum_nil]; (exact Nat.le_trans (by repeat (first | with_reducible (first | exact PL1 | exact PL2 | exact PL3 | exact PL4 | exact PL5 | exact PL6) | exact Nat.le_of_eq (show _ = 1 from rfl) | exact Nat.le_refl 0 | (with_reducible apply Nat.add_le_add) | (apply len_cat))) (by exact Nat.le_of_ble_eq_true rfl)))) ?_); intro T9 t9 k9 e9 l9)
    k_with "execs cons" => (dsimp only; walk_at "execs cons")
    k_with "binaryOp Add str str" => (dsimp only; walk_at "binaryOp Add str str")
    k_with "newList" => (dsimp only; walk_at "newList")
    k_with "storeName" => (dsimp only; walk_at "storeName")
    k_with "call ref" => (first
        | ((with_reducible show wpAny _ _ (call (Value.ref 351) _) _ _ _); k_dflt (refine' Clm.use (law_piecesF_ok _ _ _ _ _ _ _ _ _ _ _ _ _ _ _ ?p0 ?p1) ?u1 ?u2 ?u3 ?u4 ?u5 ?u6 ?u7 ?u8 ?_; (case u1 => k_asm); (case u2 => k_asm); (case u3 => k_asm); (case u4 => k_asm); (case u5 => k_asm); (case u6 => first | exact rfl | assumption); (case u7 => first | exact room1 hdp (Nat.le_of_ble_eq_true rfl) | ktr_room); (case u8 => first | exact units1 hun (Nat.le_of_ble_eq_true rfl) | ktr_units); (case p0 => k_extra "memq"); (case p1 => with_reducible assumption)); intro q9 u1 u2 u3 u4 u5 u6 h9 tk9 z1 z2 z3 z4 z5 z6 F9 N9 l9; (try simp only [AllLt, and_true] at l9); (all_goals ((try dsimp only); (try k_sweep); (try k_fold))))
        | ((with_reducible show wpAny _ _ (call (Value.ref 358) _) _ _ _); k_dflt (refine' Clm.use (law_suml_ok _ _ _ _ _ _ _ _ _ _ _ _ _ _ _ _ ?p0) ?u1 ?u2 ?u3 ?u4 ?u5 ?u6 ?u7 ?u8 ?_; (case u1 => k_asm); (case u2 => k_asm); (case u3 => k_asm); (case u4 => k_asm); (case u5 => k_asm); (case u6 => first | exact rfl | assumption); (case u7 => first | exact room1 hdp (Nat.le_of_ble_eq_true rfl) | ktr_room); (case u8 => first | exact units1 hun (Nat.le_of_ble_eq_true rfl) | ktr_units); (case p0 => k_mem)); intro t9 h9 tk9 F9 N9; (all_goals ((try dsimp only); (try k_sweep); (try k_fold))))
        | ((with_reducible show wpAny _ _ (call (Value.ref 337) _) _ _ _); k_dflt (refine' Clm.use (law_wide_ok _ _ _ _ ?p0 ?p1 ?p2 ?p3) ?u1 ?u2 ?u3 ?u4 ?u5 ?u6 ?u7 ?u8 ?_; (case u1 => k_asm); (case u2 => k_asm); (case u3 => k_asm); (case u4 => k_asm); (case u5 => k_asm); (case u6 => first | exact rfl | assumption); (case u7 => first | exact room1 hdp (Nat.le_of_ble_eq_true rfl) | ktr_room); (case u8 => first | exact units1 hun (Nat.le_of_ble_eq_true rfl) | ktr_units); (case p0 => first | (with_reducible assumption) | omega); (case p1 => first | (with_reducible assumption) | omega); (case p2 => first | decide | omega); (case p3 => first | decide | omega)); intro t9 h9 tk9 z9 F9 N9; (all_goals ((try dsimp only); (try k_sweep); (try k_fold))))
        | ((with_reducible show wpAny _ _ (call (Value.ref 309) _) _ _ _); k_dflt (refine' Clm.use (parse_iso_ok _ _ ?p0) ?u1 ?u2 ?u3 ?u4 ?u5 ?u6 ?u7 ?u8 ?_; (case u1 => k_asm); (case u2 => k_asm); (case u3 => k_asm); (case u4 => k_asm); (case u5 => k_asm); (case u6 => first | exact rfl | assumption); (case u7 => first | exact room1 hdp (Nat.le_of_ble_eq_true rfl) | ktr_room); (case u8 => first | exact units1 hun (Nat.le_of_ble_eq_true rfl) | ktr_units); (case p0 => first | (with_reducible assumption) | (exact Nat.le_trans (by repeat (first | with_reducible assumption | exact Nat.le_of_eq (show _ = 1 from rfl) | exact Nat.le_refl 0 | (with_reducible apply Nat.add_le_add) | (apply len_cat))) (by exact Nat.le_of_ble_eq_true rfl)) | omega)); refine' ⟨fun e9 h9 tk9 F9 N9 => ?_, fun i9 e9 t9 h9 tk9 F9 N9 => ?_⟩; (all_goals ((try dsimp only); (try k_sweep); (try k_fold))))
        | ((with_reducible show wpAny _ _ (call (Value.ref 365) _) _ _ _); k_dflt (refine' Clm.use (law_near_n_ok _ _ ?p0) ?u1 ?u2 ?u3 ?u4 ?u5 ?u6 ?u7 ?u8 ?_; (case u1 => k_asm); (case u2 => k_asm); (case u3 => k_asm); (case u4 => k_asm); (case u5 => k_asm); (case u6 => first | exact rfl | assumption); (case u7 => first | exact room1 hdp (Nat.le_of_ble_eq_true rfl) | ktr_room); (case u8 => first | exact units1 hun (Nat.le_of_ble_eq_true rfl) | ktr_units); (case p0 => (exact (sr4n_eq (by with_reducible assumption) (by with_reducible assumption)).symm.trans (by with_reducible assumption)))); intro t9 h9 tk9 F9 N9; (all_goals ((try dsimp only); (try k_sweep); (try k_fold))))
        | ((with_reducible show wpAny _ _ (call (Value.ref 365) _) _ _ _); k_dflt (refine' Clm.use (law_near_s_ok _ _ _ ?p0) ?u1 ?u2 ?u3 ?u4 ?u5 ?u6 ?u7 ?u8 ?_; (case u1 => k_asm); (case u2 => k_asm); (case u3 => k_asm); (case u4 => k_asm); (case u5 => k_asm); (case u6 => first | exact rfl | assumption); (case u7 => first | exact room1 hdp (Nat.le_of_ble_eq_true rfl) | ktr_room); (case u8 => first | exact units1 hun (Nat.le_of_ble_eq_true rfl) | ktr_units); (case p0 => (exact (sr4n_eq (by with_reducible assumption) (by with_reducible assumption)).symm.trans (by with_reducible assumption)))); intro t9 h9 tk9 F9 N9; (all_goals ((try dsimp only); (try k_sweep); (try k_fold)))))
    intro dp un gd cn cs a9 ccd cl outer A₀ base h₀ L m s Q E B F9 X N T hk hdp hun hret
    obtain ⟨PL1, PL2, PL3, PL4, PL5, PL6⟩ := pieces_len F
    refine wpAny_call ?_
    k_dflt cell_enter
    k_steps
    all_goals ((refine' endB hret ?e1 ?e2 ?e3 ?e4; (case e2 => k_asm); (case e3 => k_asm); (case e4 => k_extra "mem"); (case e1 => first | rfl | simp))))
end

section
set_option maxHeartbeats 4000000 in
set_option pp.deepTerms false in
theorem law_sr4i_ok (a b c d e f g : Int) (t₁ t₂ t₃ t₄ t₅ t₆ t₇ : Tok) (q : Addr) (F : Fld a b c d e f g) (tk : Tok) (z : Int) (tz : Tok) (z0 : -719 ≤ z) (z1 : z ≤ 719) : Clm w loose mean mg mb 11 372 [.ref q, .int 4 tk, .int z tz] ((q, tup7 a b c d e f g t₁ t₂ t₃ t₄ t₅ t₆ t₇) :: news) (RetV ((q, tup7 a b c d e f g t₁ t₂ t₃ t₄ t₅ t₆ t₇) :: news) fun _ => .bool true) := by
  w_on
  w_strict (
    k_with_none
    k_with "sub" => first | exact sub_self | (refine sub_cons ?_; k_extra "sub")
    k_with "compareOp In none ref" => (k_here; k_dflt (first | (refine' none_in_tup (b := false) ?N ?r ?c ?b ?u ?_; (case N => exact News.isTup (by k_asm) (by k_mem)); (case r => rfl); (case c => rfl); (case b => rfl); (case u => ktr_units); k_whole) | (refine' none_in_tup (b := true) ?N ?r ?c ?b ?u ?_; (case N => exact News.isTup (by k_asm) (by k_mem)); (case r => rfl); (case c => rfl); (case b => rfl); (case u => ktr_units); k_whole)))
    k_with "subc" => first | exact sub_self | (refine sub_both ?_; k_extra "subc") | (refine sub_cons ?_; k_extra "subc")
    k_with "low" => first | assumption | exact allLt_of (by assumption) | exact low1 (by assumption) | exact low2 (by assumption) | exact low3 (by assumption) | exact low4 (by assumption)
    k_with "mem" => first | exact sub_self | (k_extra "sub") | (refine List.forall_mem_cons.mpr ⟨?_, ?_⟩; k_mem; k_extra "mem")
    k_with "ne" => first | assumption | exact List.forall_mem_nil _ | exact ne_of_low (by k_extra "low") | (refine' List.forall_mem_cons.mpr ⟨?a, ?b⟩; (case a => k_ne); (case b => k_extra "ne"))
    k_with "pull" => first | k_asm | exact pull1 (by k_asm) | exact pull2 (by k_asm) | exact pull3 (by k_asm) | exact pull4 (by k_asm)
    k_with "memq" => first | with_reducible assumption | exact List.Mem.head _ | (refine' List.Mem.tail _ ?_; k_extra "memq")
    k_with "subscriptTail Name Slice ref ref" => ((with_reducible show wpAny _ _ (subscriptTail (Expr.Name (Str.ofString "seven") _) _ _ _) _ _ _); k_dflt (first | (refine' slice_tuple_to 1 ?F ?N ?m ?y ?b ?z ?e ?_ ?s ?g; (case F => k_asm); (case N => k_asm); (case m => k_extra "memq"); (case y => exact rfl); (case b => exact Nat.le_of_ble_eq_true rfl); (case z => exact Nat.le_of_ble_eq_true rfl); (case e => kl_lit); (case s => with_unfolding_all rfl); (case g => kmk_pure); (intro D9 h9 F9 N9 l9); (try simp only [AllLt, and_true] at l9); (try k_sweep)) | (refine' slice_tuple_to 2 ?F ?N ?m ?y ?b ?z ?e ?_ ?s ?g; (case F => k_asm); (case N => k_asm); (case m => k_extra "memq"); (case y => exact rfl); (case b => exact Nat.le_of_ble_eq_true rfl); (case z => exact Nat.le_of_ble_eq_true rfl); (case e => kl_lit); (case s => with_unfolding_all rfl); (case g => kmk_pure); (intro D9 h9 F9 N9 l9); (try simp only [AllLt, and_true] at l9); (try k_sweep)) | (refine' slice_tuple_to 3 ?F ?N ?m ?y ?b ?z ?e ?_ ?s ?g; (case F => k_asm); (case N => k_asm); (case m => k_extra "memq"); (case y => exact rfl); (case b => exact Nat.le_of_ble_eq_true rfl); (case z => exact Nat.le_of_ble_eq_true rfl); (case e => kl_lit); (case s => with_unfolding_all rfl); (case g => kmk_pure); (intro D9 h9 F9 N9 l9); (try simp only [AllLt, and_true] at l9); (try k_sweep)) | (refine' slice_tuple_to 4 ?F ?N ?m ?y ?b ?z ?e ?_ ?s ?g; (case F => k_asm); (case N => k_asm); (case m => k_extra "memq"); (case y => exact rfl); (case b => exact Nat.le_of_ble_eq_true rfl); (case z => exact Nat.le_of_ble_eq_true rfl); (case e => kl_lit); (case s => with_unfolding_all rfl); (case g => kmk_pure); (intro D9 h9 F9 N9 l9); (try simp only [AllLt, and_true] at l9); (try k_sweep)) | (refine' slice_tuple_to 5 ?F ?N ?m ?y ?b ?z ?e ?_ ?s ?g; (case F => k_asm); (case N => k_asm); (case m => k_extra "memq"); (case y => exact rfl); (case b => exact Nat.le_of_ble_eq_true rfl); (case z => exact Nat.le_of_ble_eq_true rfl); (case e => kl_lit); (case s => with_unfolding_all rfl); (case g => kmk_pure); (intro D9 h9 F9 N9 l9); (try simp only [AllLt, and_true] at l9); (try k_sweep)) | (refine' slice_tuple_to 6 ?F ?N ?m ?y ?b ?z ?e ?_ ?s ?g; (case F => k_asm); (case N => k_asm); (case m => k_extra "memq"); (case y => exact rfl); (case b => exact Nat.le_of_ble_eq_true rfl); (case z => exact Nat.le_of_ble_eq_true rfl); (case e => kl_lit); (case s => with_unfolding_all rfl); (case g => kmk_pure); (intro D9 h9 F9 N9 l9); (try simp only [AllLt, and_true] at l9); (try k_sweep))| (refine' slice_tuple_all ?F ?N ?m ?y ?_ ?s ?g; (case F => k_asm); (case N => k_asm); (case m => k_extra "memq"); (case y => exact rfl); (case s => with_unfolding_all rfl); (case g => kmk_pure); (intro h9 F9 N9); (try k_sweep))))
    k_with "call builtin:str.join" => (k_dflt (refine join_cat (by k_asm) (by k_extra "memq") (by kct_strs) (by exact Nat.le_of_ble_eq_true rfl) (by (simp only [List.map_cons, List.map_nil, List.sum_cons, List.sum_nil]; (exact Nat.le_trans (by repeat (first | with_reducible (first | exact PL1 | exact PL2 | exact PL3 | exact PL4 | exact PL5 | exact PL6) | exact Nat.le_of_eq (show _ = 1 from rfl) | exact Nat.le_refl 0 | (with_reducible apply Nat.add_le_add) | (apply len_cat))) (by exact Nat.le_of_ble_eq_true rfl)))) ?_); intro T9 t9 k9 e9 l9)
    k_with "execs cons" => (dsimp only; walk_at "execs cons")
    k_with "binaryOp Add str str" => (dsimp only; walk_at "binaryOp Add str str")
    k_with "newList" => (dsimp only; walk_at "newList")
    k_with "storeName" => (dsimp only; walk_at "storeName")
    k_with "call ref" => (first
        | ((with_reducible show wpAny _ _ (call (Value.ref 351) _) _ _ _); k_dflt (refine' Clm.use (law_piecesF_ok _ _ _ _ _ _ _ _ _ _ _ _ _ _ _ ?p0 ?p1) ?u1 ?u2 ?u3 ?u4 ?u5 ?u6 ?u7 ?u8 ?_; (case u1 => k_asm); (case u2 => k_asm); (case u3 => k_asm); (case u4 => k_asm); (case u5 => k_asm); (case u6 => first | exact rfl | assumption); (case u7 => first | exact room1 hdp (Nat.le_of_ble_eq_true rfl) | ktr_room); (case u8 => first | exact units1 hun (Nat.le_of_ble_eq_true rfl) | ktr_units); (case p0 => k_extra "memq"); (case p1 => with_reducible assumption)); intro q9 u1 u2 u3 u4 u5 u6 h9 tk9 z1 z2 z3 z4 z5 z6 F9 N9 l9; (try simp only [AllLt, and_true] at l9); (all_goals ((try dsimp only); (try k_sweep); (try k_fold))))
        | ((with_reducible show wpAny _ _ (call (Value.ref 358) _) _ _ _); k_dflt (refine' Clm.use (law_suml_ok _ _ _ _ _ _ _ _ _ _ _ _ _ _ _ _ ?p0) ?u1 ?u2 ?u3 ?u4 ?u5 ?u6 ?u7 ?u8 ?_; (case u1 => k_asm); (case u2 => k_asm); (case u3 => k_asm); (case u4 => k_asm); (case u5 => k_asm); (case u6 => first | exact rfl | assumption); (case u7 => first | exact room1 hdp (Nat.le_of_ble_eq_true rfl) | ktr_room); (case u8 => first | exact units1 hun (Nat.le_of_ble_eq_true rfl) | ktr_units); (case p0 => k_mem)); intro t9 h9 tk9 F9 N9; (all_goals ((try dsimp only); (try k_sweep); (try k_fold))))
        | ((with_reducible show wpAny _ _ (call (Value.ref 337) _) _ _ _); k_dflt (refine' Clm.use (law_wide_ok _ _ _ _ ?p0 ?p1 ?p2 ?p3) ?u1 ?u2 ?u3 ?u4 ?u5 ?u6 ?u7 ?u8 ?_; (case u1 => k_asm); (case u2 => k_asm); (case u3 => k_asm); (case u4 => k_asm); (case u5 => k_asm); (case u6 => first | exact rfl | assumption); (case u7 => first | exact room1 hdp (Nat.le_of_ble_eq_true rfl) | ktr_room); (case u8 => first | exact units1 hun (Nat.le_of_ble_eq_true rfl) | ktr_units); (case p0 => first | (with_reducible assumption) | omega); (case p1 => first | (with_reducible assumption) | omega); (case p2 => first | decide | omega); (case p3 => first | decide | omega)); intro t9 h9 tk9 z9 F9 N9; (all_goals ((try dsimp only); (try k_sweep); (try k_fold))))
        | ((with_reducible show wpAny _ _ (call (Value.ref 309) _) _ _ _); k_dflt (refine' Clm.use (parse_iso_ok _ _ ?p0) ?u1 ?u2 ?u3 ?u4 ?u5 ?u6 ?u7 ?u8 ?_; (case u1 => k_asm); (case u2 => k_asm); (case u3 => k_asm); (case u4 => k_asm); (case u5 => k_asm); (case u6 => first | exact rfl | assumption); (case u7 => first | exact room1 hdp (Nat.le_of_ble_eq_true rfl) | ktr_room); (case u8 => first | exact units1 hun (Nat.le_of_ble_eq_true rfl) | ktr_units); (case p0 => first | (with_reducible assumption) | (exact Nat.le_trans (by repeat (first | with_reducible assumption | exact Nat.le_of_eq (show _ = 1 from rfl) | exact Nat.le_refl 0 | (with_reducible apply Nat.add_le_add) | (apply len_cat))) (by exact Nat.le_of_ble_eq_true rfl)) | omega)); refine' ⟨fun e9 h9 tk9 F9 N9 => ?_, fun i9 e9 t9 h9 tk9 F9 N9 => ?_⟩; (all_goals ((try dsimp only); (try k_sweep); (try k_fold))))
        | ((with_reducible show wpAny _ _ (call (Value.ref 365) _) _ _ _); k_dflt (refine' Clm.use (law_near_n_ok _ _ ?p0) ?u1 ?u2 ?u3 ?u4 ?u5 ?u6 ?u7 ?u8 ?_; (case u1 => k_asm); (case u2 => k_asm); (case u3 => k_asm); (case u4 => k_asm); (case u5 => k_asm); (case u6 => first | exact rfl | assumption); (case u7 => first | exact room1 hdp (Nat.le_of_ble_eq_true rfl) | ktr_room); (case u8 => first | exact units1 hun (Nat.le_of_ble_eq_true rfl) | ktr_units); (case p0 => (first | exact (sr4p_eq (by with_reducible assumption) (by with_reducible assumption) (by with_reducible assumption) (by with_reducible assumption) (by with_reducible assumption)).symm.trans (by with_reducible assumption) | exact (sr4m_eq (by with_reducible assumption) (by with_reducible assumption) (by with_reducible assumption) (by with_reducible assumption) (by with_reducible assumption)).symm.trans (by with_reducible assumption)))); intro t9 h9 tk9 F9 N9; (all_goals ((try dsimp only); (try k_sweep); (try k_fold))))
        | ((with_reducible show wpAny _ _ (call (Value.ref 365) _) _ _ _); k_dflt (refine' Clm.use (law_near_s_ok _ _ _ ?p0) ?u1 ?u2 ?u3 ?u4 ?u5 ?u6 ?u7 ?u8 ?_; (case u1 => k_asm); (case u2 => k_asm); (case u3 => k_asm); (case u4 => k_asm); (case u5 => k_asm); (case u6 => first | exact rfl | assumption); (case u7 => first | exact room1 hdp (Nat.le_of_ble_eq_true rfl) | ktr_room); (case u8 => first | exact units1 hun (Nat.le_of_ble_eq_true rfl) | ktr_units); (case p0 => (first | exact (sr4p_eq (by with_reducible assumption) (by with_reducible assumption) (by with_reducible assumption) (by with_reducible assumption) (by with_reducible assumption)).symm.trans (by with_reducible assumption) | exact (sr4m_eq (by with_reducible assumption) (by with_reducible assumption) (by with_reducible assumption) (by with_reducible assumption) (by with_reducible assumption)).symm.trans (by with_reducible assumption)))); intro t9 h9 tk9 F9 N9; (all_goals ((try dsimp only); (try k_sweep); (try k_fold)))))
    intro dp un gd cn cs a9 ccd cl outer A₀ base h₀ L m s Q E B F9 X N T hk hdp hun hret
    obtain ⟨PL1, PL2, PL3, PL4, PL5, PL6⟩ := pieces_len F
    obtain ⟨ZB1, ZB2, ZB3, ZB4⟩ := zone_bnds z0 z1
    refine wpAny_call ?_
    k_dflt cell_enter
    k_steps
    all_goals ((refine' endB hret ?e1 ?e2 ?e3 ?e4; (case e2 => k_asm); (case e3 => k_asm); (case e4 => k_extra "mem"); (case e1 => first | rfl | simp))))
end

section
set_option maxHeartbeats 4000000 in
set_option pp.deepTerms false in
theorem law_sr5n_ok (a b c d e f g : Int) (t₁ t₂ t₃ t₄ t₅ t₆ t₇ : Tok) (q : Addr) (F : Fld a b c d e f g) (tk : Tok) : Clm w loose mean mg mb 11 372 [.ref q, .int 5 tk, .none] ((q, tup7 a b c d e f g t₁ t₂ t₃ t₄ t₅ t₆ t₇) :: news) (RetV ((q, tup7 a b c d e f g t₁ t₂ t₃ t₄ t₅ t₆ t₇) :: news) fun _ => .bool true) := by
  w_on
  w_strict (
    k_with_none
    k_with "sub" => first | exact sub_self | (refine sub_cons ?_; k_extra "sub")
    k_with "compareOp In none ref" => (k_here; k_dflt (first | (refine' none_in_tup (b := false) ?N ?r ?c ?b ?u ?_; (case N => exact News.isTup (by k_asm) (by k_mem)); (case r => rfl); (case c => rfl); (case b => rfl); (case u => ktr_units); k_whole) | (refine' none_in_tup (b := true) ?N ?r ?c ?b ?u ?_; (case N => exact News.isTup (by k_asm) (by k_mem)); (case r => rfl); (case c => rfl); (case b => rfl); (case u => ktr_units); k_whole)))
    k_with "subc" => first | exact sub_self | (refine sub_both ?_; k_extra "subc") | (refine sub_cons ?_; k_extra "subc")
    k_with "low" => first | assumption | exact allLt_of (by assumption) | exact low1 (by assumption) | exact low2 (by assumption) | exact low3 (by assumption) | exact low4 (by assumption)
    k_with "mem" => first | exact sub_self | (k_extra "sub") | (refine List.forall_mem_cons.mpr ⟨?_, ?_⟩; k_mem; k_extra "mem")
    k_with "ne" => first | assumption | exact List.forall_mem_nil _ | exact ne_of_low (by k_extra "low") | (refine' List.forall_mem_cons.mpr ⟨?a, ?b⟩; (case a => k_ne); (case b => k_extra "ne"))
    k_with "pull" => first | k_asm | exact pull1 (by k_asm) | exact pull2 (by k_asm) | exact pull3 (by k_asm) | exact pull4 (by k_asm)
    k_with "memq" => first | with_reducible assumption | exact List.Mem.head _ | (refine' List.Mem.tail _ ?_; k_extra "memq")
    k_with "subscriptTail Name Slice ref ref" => ((with_reducible show wpAny _ _ (subscriptTail (Expr.Name (Str.ofString "seven") _) _ _ _) _ _ _); k_dflt (first | (refine' slice_tuple_to 1 ?F ?N ?m ?y ?b ?z ?e ?_ ?s ?g; (case F => k_asm); (case N => k_asm); (case m => k_extra "memq"); (case y => exact rfl); (case b => exact Nat.le_of_ble_eq_true rfl); (case z => exact Nat.le_of_ble_eq_true rfl); (case e => kl_lit); (case s => with_unfolding_all rfl); (case g => kmk_pure); (intro D9 h9 F9 N9 l9); (try simp only [AllLt, and_true] at l9); (try k_sweep)) | (refine' slice_tuple_to 2 ?F ?N ?m ?y ?b ?z ?e ?_ ?s ?g; (case F => k_asm); (case N => k_asm); (case m => k_extra "memq"); (case y => exact rfl); (case b => exact Nat.le_of_ble_eq_true rfl); (case z => exact Nat.le_of_ble_eq_true rfl); (case e => kl_lit); (case s => with_unfolding_all rfl); (case g => kmk_pure); (intro D9 h9 F9 N9 l9); (try simp only [AllLt, and_true] at l9); (try k_sweep)) | (refine' slice_tuple_to 3 ?F ?N ?m ?y ?b ?z ?e ?_ ?s ?g; (case F => k_asm); (case N => k_asm); (case m => k_extra "memq"); (case y => exact rfl); (case b => exact Nat.le_of_ble_eq_true rfl); (case z => exact Nat.le_of_ble_eq_true rfl); (case e => kl_lit); (case s => with_unfolding_all rfl); (case g => kmk_pure); (intro D9 h9 F9 N9 l9); (try simp only [AllLt, and_true] at l9); (try k_sweep)) | (refine' slice_tuple_to 4 ?F ?N ?m ?y ?b ?z ?e ?_ ?s ?g; (case F => k_asm); (case N => k_asm); (case m => k_extra "memq"); (case y => exact rfl); (case b => exact Nat.le_of_ble_eq_true rfl); (case z => exact Nat.le_of_ble_eq_true rfl); (case e => kl_lit); (case s => with_unfolding_all rfl); (case g => kmk_pure); (intro D9 h9 F9 N9 l9); (try simp only [AllLt, and_true] at l9); (try k_sweep)) | (refine' slice_tuple_to 5 ?F ?N ?m ?y ?b ?z ?e ?_ ?s ?g; (case F => k_asm); (case N => k_asm); (case m => k_extra "memq"); (case y => exact rfl); (case b => exact Nat.le_of_ble_eq_true rfl); (case z => exact Nat.le_of_ble_eq_true rfl); (case e => kl_lit); (case s => with_unfolding_all rfl); (case g => kmk_pure); (intro D9 h9 F9 N9 l9); (try simp only [AllLt, and_true] at l9); (try k_sweep)) | (refine' slice_tuple_to 6 ?F ?N ?m ?y ?b ?z ?e ?_ ?s ?g; (case F => k_asm); (case N => k_asm); (case m => k_extra "memq"); (case y => exact rfl); (case b => exact Nat.le_of_ble_eq_true rfl); (case z => exact Nat.le_of_ble_eq_true rfl); (case e => kl_lit); (case s => with_unfolding_all rfl); (case g => kmk_pure); (intro D9 h9 F9 N9 l9); (try simp only [AllLt, and_true] at l9); (try k_sweep))| (refine' slice_tuple_all ?F ?N ?m ?y ?_ ?s ?g; (case F => k_asm); (case N => k_asm); (case m => k_extra "memq"); (case y => exact rfl); (case s => with_unfolding_all rfl); (case g => kmk_pure); (intro h9 F9 N9); (try k_sweep))))
    k_with "call builtin:str.join" => (k_dflt (refine join_cat (by k_asm) (by k_extra "memq") (by kct_strs) (by exact Nat.le_of_ble_eq_true rfl) (by (simp only [List.map_cons, List.map_nil, List.sum_cons, List.sum_nil]; (exact Nat.le_trans (by repeat (first | with_reducible (first | exact PL1 | exact PL2 | exact PL3 | exact PL4 | exact PL5 | exact PL6) | exact Nat.le_of_eq (show _ = 1 from rfl) | exact Nat.le_refl 0 | (with_reducible apply Nat.add_le_add) | (apply len_cat))) (by exact Nat.le_of_ble_eq_true rfl)))) ?_); intro T9 t9 k9 e9 l9)
    k_with "execs cons" => (dsimp only; walk_at "execs cons")
    k_with "binaryOp Add str str" => (dsimp only; walk_at "binaryOp Add str str")
    k_with "newList" => (dsimp only; walk_at "newList")
    k_with "storeName" => (dsimp only; walk_at "storeName")
    k_with "call ref" => (first
        | ((with_reducible show wpAny _ _ (call (Value.ref 351) _) _ _ _); k_dflt (refine' Clm.use (law_piecesF_ok _ _ _ _ _ _ _ _ _ _ _ _ _ _ _ ?p0 ?p1) ?u1 ?u2 ?u3 ?u4 ?u5 ?u6 ?u7 ?u8 ?_; (case u1 => k_asm); (case u2 => k_asm); (case u3 => k_asm); (case u4 => k_asm); (case u5 => k_asm); (case u6 => first | exact rfl | assumption); (case u7 => first | exact room1 hdp (Nat.le_of_ble_eq_true rfl) | ktr_room); (case u8 => first | exact units1 hun (Nat.le_of_ble_eq_true rfl) | ktr_units); (case p0 => k_extra "memq"); (case p1 => with_reducible assumption)); intro q9 u1 u2 u3 u4 u5 u6 h9 tk9 z1 z2 z3 z4 z5 z6 F9 N9 l9; (try simp only [AllLt, and_true] at l9); (all_goals ((try dsimp only); (try k_sweep); (try k_fold))))
        | ((with_reducible show wpAny _ _ (call (Value.ref 358) _) _ _ _); k_dflt (refine' Clm.use (law_suml_ok _ _ _ _ _ _ _ _ _ _ _ _ _ _ _ _ ?p0) ?u1 ?u2 ?u3 ?u4 ?u5 ?u6 ?u7 ?u8 ?_; (case u1 => k_asm); (case u2 => k_asm); (case u3 => k_asm); (case u4 => k_asm); (case u5 => k_asm); (case u6 => first | exact rfl | assumption); (case u7 => first | exact room1 hdp (Nat.le_of_ble_eq_true rfl) | ktr_room); (case u8 => first | exact units1 hun (Nat.le_of_ble_eq_true rfl) | ktr_units); (case p0 => k_mem)); intro t9 h9 tk9 F9 N9; (all_goals ((try dsimp only); (try k_sweep); (try k_fold))))
        | ((with_reducible show wpAny _ _ (call (Value.ref 337) _) _ _ _); k_dflt (refine' Clm.use (law_wide_ok _ _ _ _ ?p0 ?p1 ?p2 ?p3) ?u1 ?u2 ?u3 ?u4 ?u5 ?u6 ?u7 ?u8 ?_; (case u1 => k_asm); (case u2 => k_asm); (case u3 => k_asm); (case u4 => k_asm); (case u5 => k_asm); (case u6 => first | exact rfl | assumption); (case u7 => first | exact room1 hdp (Nat.le_of_ble_eq_true rfl) | ktr_room); (case u8 => first | exact units1 hun (Nat.le_of_ble_eq_true rfl) | ktr_units); (case p0 => first | (with_reducible assumption) | omega); (case p1 => first | (with_reducible assumption) | omega); (case p2 => first | decide | omega); (case p3 => first | decide | omega)); intro t9 h9 tk9 z9 F9 N9; (all_goals ((try dsimp only); (try k_sweep); (try k_fold))))
        | ((with_reducible show wpAny _ _ (call (Value.ref 309) _) _ _ _); k_dflt (refine' Clm.use (parse_iso_ok _ _ ?p0) ?u1 ?u2 ?u3 ?u4 ?u5 ?u6 ?u7 ?u8 ?_; (case u1 => k_asm); (case u2 => k_asm); (case u3 => k_asm); (case u4 => k_asm); (case u5 => k_asm); (case u6 => first | exact rfl | assumption); (case u7 => first | exact room1 hdp (Nat.le_of_ble_eq_true rfl) | ktr_room); (case u8 => first | exact units1 hun (Nat.le_of_ble_eq_true rfl) | ktr_units); (case p0 => first | (with_reducible assumption) | (exact Nat.le_trans (by repeat (first | with_reducible assumption | exact Nat.le_of_eq (show _ = 1 from rfl) | exact Nat.le_refl 0 | (with_reducible apply Nat.add_le_add) | (apply len_cat))) (by exact Nat.le_of_ble_eq_true rfl)) | omega)); refine' ⟨fun e9 h9 tk9 F9 N9 => ?_, fun i9 e9 t9 h9 tk9 F9 N9 => ?_⟩; (all_goals ((try dsimp only); (try k_sweep); (try k_fold))))
        | ((with_reducible show wpAny _ _ (call (Value.ref 365) _) _ _ _); k_dflt (refine' Clm.use (law_near_n_ok _ _ ?p0) ?u1 ?u2 ?u3 ?u4 ?u5 ?u6 ?u7 ?u8 ?_; (case u1 => k_asm); (case u2 => k_asm); (case u3 => k_asm); (case u4 => k_asm); (case u5 => k_asm); (case u6 => first | exact rfl | assumption); (case u7 => first | exact room1 hdp (Nat.le_of_ble_eq_true rfl) | ktr_room); (case u8 => first | exact units1 hun (Nat.le_of_ble_eq_true rfl) | ktr_units); (case p0 => (exact (sr5n_eq (by with_reducible assumption) (by with_reducible assumption)).symm.trans (by with_reducible assumption)))); intro t9 h9 tk9 F9 N9; (all_goals ((try dsimp only); (try k_sweep); (try k_fold))))
        | ((with_reducible show wpAny _ _ (call (Value.ref 365) _) _ _ _); k_dflt (refine' Clm.use (law_near_s_ok _ _ _ ?p0) ?u1 ?u2 ?u3 ?u4 ?u5 ?u6 ?u7 ?u8 ?_; (case u1 => k_asm); (case u2 => k_asm); (case u3 => k_asm); (case u4 => k_asm); (case u5 => k_asm); (case u6 => first | exact rfl | assumption); (case u7 => first | exact room1 hdp (Nat.le_of_ble_eq_true rfl) | ktr_room); (case u8 => first | exact units1 hun (Nat.le_of_ble_eq_true rfl) | ktr_units); (case p0 => (exact (sr5n_eq (by with_reducible assumption) (by with_reducible assumption)).symm.trans (by with_reducible assumption)))); intro t9 h9 tk9 F9 N9; (all_goals ((try dsimp only); (try k_sweep); (try k_fold)))))
    intro dp un gd cn cs a9 ccd cl outer A₀ base h₀ L m s Q E B F9 X N T hk hdp hun hret
    obtain ⟨PL1, PL2, PL3, PL4, PL5, PL6⟩ := pieces_len F
    refine wpAny_call ?_
    k_dflt cell_enter
    k_steps
    all_goals ((refine' endB hret ?e1 ?e2 ?e3 ?e4; (case e2 => k_asm); (case e3 => k_asm); (case e4 => k_extra "mem"); (case e1 => first | rfl | simp))))
end

section
set_option maxHeartbeats 4000000 in
set_option pp.deepTerms false in
theorem law_sr5i_ok (a b c d e f g : Int) (t₁ t₂ t₃ t₄ t₅ t₆ t₇ : Tok) (q : Addr) (F : Fld a b c d e f g) (tk : Tok) (z : Int) (tz : Tok) (z0 : -719 ≤ z) (z1 : z ≤ 719) : Clm w loose mean mg mb 11 372 [.ref q, .int 5 tk, .int z tz] ((q, tup7 a b c d e f g t₁ t₂ t₃ t₄ t₅ t₆ t₇) :: news) (RetV ((q, tup7 a b c d e f g t₁ t₂ t₃ t₄ t₅ t₆ t₇) :: news) fun _ => .bool true) := by
  w_on
  w_strict (
    k_with_none
    k_with "sub" => first | exact sub_self | (refine sub_cons ?_; k_extra "sub")
    k_with "compareOp In none ref" => (k_here; k_dflt (first | (refine' none_in_tup (b := false) ?N ?r ?c ?b ?u ?_; (case N => exact News.isTup (by k_asm) (by k_mem)); (case r => rfl); (case c => rfl); (case b => rfl); (case u => ktr_units); k_whole) | (refine' none_in_tup (b := true) ?N ?r ?c ?b ?u ?_; (case N => exact News.isTup (by k_asm) (by k_mem)); (case r => rfl); (case c => rfl); (case b => rfl); (case u => ktr_units); k_whole)))
    k_with "subc" => first | exact sub_self | (refine sub_both ?_; k_extra "subc") | (refine sub_cons ?_; k_extra "subc")
    k_with "low" => first | assumption | exact allLt_of (by assumption) | exact low1 (by assumption) | exact low2 (by assumption) | exact low3 (by assumption) | exact low4 (by assumption)
    k_with "mem" => first | exact sub_self | (k_extra "sub") | (refine List.forall_mem_cons.mpr ⟨?_, ?_⟩; k_mem; k_extra "mem")
    k_with "ne" => first | assumption | exact List.forall_mem_nil _ | exact ne_of_low (by k_extra "low") | (refine' List.forall_mem_cons.mpr ⟨?a, ?b⟩; (case a => k_ne); (case b => k_extra "ne"))
    k_with "pull" => first | k_asm | exact pull1 (by k_asm) | exact pull2 (by k_asm) | exact pull3 (by k_asm) | exact pull4 (by k_asm)
    k_with "memq" => first | with_reducible assumption | exact List.Mem.head _ | (refine' List.Mem.tail _ ?_; k_extra "memq")
    k_with "subscriptTail Name Slice ref ref" => ((with_reducible show wpAny _ _ (subscriptTail (Expr.Name (Str.ofString "seven") _) _ _ _) _ _ _); k_dflt (first | (refine' slice_tuple_to 1 ?F ?N ?m ?y ?b ?z ?e ?_ ?s ?g; (case F => k_asm); (case N => k_asm); (case m => k_extra "memq"); (case y => exact rfl); (case b => exact Nat.le_of_ble_eq_true rfl); (case z => exact Nat.le_of_ble_eq_true rfl); (case e => kl_lit); (case s => with_unfolding_all rfl); (case g => kmk_pure); (intro D9 h9 F9 N9 l9); (try simp only [AllLt, and_true] at l9); (try k_sweep)) | (refine' slice_tuple_to 2 ?F ?N ?m ?y ?b ?z ?e ?_ ?s ?g; (case F => k_asm); (case N => k_asm); (case m => k_extra "memq"); (case y => exact rfl); (case b => exact Nat.le_of_ble_eq_true rfl); (case z => exact Nat.le_of_ble_eq_true rfl); (case e => kl_lit); (case s => with_unfolding_all rfl); (case g => kmk_pure); (intro D9 h9 F9 N9 l9); (try simp only [AllLt, and_true] at l9); (try k_sweep)) | (refine' slice_tuple_to 3 ?F ?N ?m ?y ?b ?z ?e ?_ ?s ?g; (case F => k_asm); (case N => k_asm); (case m => k_extra "memq"); (case y => exact rfl); (case b => exact Nat.le_of_ble_eq_true rfl); (case z => exact Nat.le_of_ble_eq_true rfl); (case e => kl_lit); (case s => with_unfolding_all rfl); (case g => kmk_pure); (intro D9 h9 F9 N9 l9); (try simp only [AllLt, and_true] at l9); (try k_sweep)) | (refine' slice_tuple_to 4 ?F ?N ?m ?y ?b ?z ?e ?_ ?s ?g; (case F => k_asm); (case N => k_asm); (case m => k_extra "memq"); (case y => exact rfl); (case b => exact Nat.le_of_ble_eq_true rfl); (case z => exact Nat.le_of_ble_eq_true rfl); (case e => kl_lit); (case s => with_unfolding_all rfl); (case g => kmk_pure); (intro D9 h9 F9 N9 l9); (try simp only [AllLt, and_true] at l9); (try k_sweep)) | (refine' slice_tuple_to 5 ?F ?N ?m ?y ?b ?z ?e ?_ ?s ?g; (case F => k_asm); (case N => k_asm); (case m => k_extra "memq"); (case y => exact rfl); (case b => exact Nat.le_of_ble_eq_true rfl); (case z => exact Nat.le_of_ble_eq_true rfl); (case e => kl_lit); (case s => with_unfolding_all rfl); (case g => kmk_pure); (intro D9 h9 F9 N9 l9); (try simp only [AllLt, and_true] at l9); (try k_sweep)) | (refine' slice_tuple_to 6 ?F ?N ?m ?y ?b ?z ?e ?_ ?s ?g; (case F => k_asm); (case N => k_asm); (case m => k_extra "memq"); (case y => exact rfl); (case b => exact Nat.le_of_ble_eq_true rfl); (case z => exact Nat.le_of_ble_eq_true rfl); (case e => kl_lit); (case s => with_unfolding_all rfl); (case g => kmk_pure); (intro D9 h9 F9 N9 l9); (try simp only [AllLt, and_true] at l9); (try k_sweep))| (refine' slice_tuple_all ?F ?N ?m ?y ?_ ?s ?g; (case F => k_asm); (case N => k_asm); (case m => k_extra "memq"); (case y => exact rfl); (case s => with_unfolding_all rfl); (case g => kmk_pure); (intro h9 F9 N9); (try k_sweep))))
    k_with "call builtin:str.join" => (k_dflt (refine join_cat (by k_asm) (by k_extra "memq") (by kct_strs) (by exact Nat.le_of_ble_eq_true rfl) (by (simp only [List.map_cons, List.map_nil, List.sum_cons, List.sum_nil]; (exact Nat.le_trans (by repeat (first | with_reducible (first | exact PL1 | exact PL2 | exact PL3 | exact PL4 | exact PL5 | exact PL6) | exact Nat.le_of_eq (show _ = 1 from rfl) | exact Nat.le_refl 0 | (with_reducible apply Nat.add_le_add) | (apply len_cat))) (by exact Nat.le_of_ble_eq_true rfl)))) ?_); intro T9 t9 k9 e9 l9)
    k_with "execs cons" => (dsimp only; walk_at "execs cons")
    k_with "binaryOp Add str str" => (dsimp only; walk_at "binaryOp Add str str")
    k_with "newList" => (dsimp only; walk_at "newList")
    k_with "storeName" => (dsimp only; walk_at "storeName")
    k_with "call ref" => (first
        | ((with_reducible show wpAny _ _ (call (Value.ref 351) _) _ _ _); k_dflt (refine' Clm.use (law_piecesF_ok _ _ _ _ _ _ _ _ _ _ _ _ _ _ _ ?p0 ?p1) ?u1 ?u2 ?u3 ?u4 ?u5 ?u6 ?u7 ?u8 ?_; (case u1 => k_asm); (case u2 => k_asm); (case u3 => k_asm); (case u4 => k_asm); (case u5 => k_asm); (case u6 => first | exact rfl | assumption); (case u7 => first | exact room1 hdp (Nat.le_of_ble_eq_true rfl) | ktr_room); (case u8 => first | exact units1 hun (Nat.le_of_ble_eq_true rfl) | ktr_units); (case p0 => k_extra "memq"); (case p1 => with_reducible assumption)); intro q9 u1 u2 u3 u4 u5 u6 h9 tk9 z1 z2 z3 z4 z5 z6 F9 N9 l9; (try simp only [AllLt, and_true] at l9); (all_goals ((try dsimp only); (try k_sweep); (try k_fold))))
        | ((with_reducible show wpAny _ _ (call (Value.ref 358) _) _ _ _); k_dflt (refine' Clm.use (law_suml_ok _ _ _ _ _ _ _ _ _ _ _ _ _ _ _ _ ?p0) ?u1 ?u2 ?u3 ?u4 ?u5 ?u6 ?u7 ?u8 ?_; (case u1 => k_asm); (case u2 => k_asm); (case u3 => k_asm); (case u4 => k_asm); (case u5 => k_asm); (case u6 => first | exact rfl | assumption); (case u7 => first | exact room1 hdp (Nat.le_of_ble_eq_true rfl) | ktr_room); (case u8 => first | exact units1 hun (Nat.le_of_ble_eq_true rfl) | ktr_units); (case p0 => k_mem)); intro t9 h9 tk9 F9 N9; (all_goals ((try dsimp only); (try k_sweep); (try k_fold))))
        | ((with_reducible show wpAny _ _ (call (Value.ref 337) _) _ _ _); k_dflt (refine' Clm.use (law_wide_ok _ _ _ _ ?p0 ?p1 ?p2 ?p3) ?u1 ?u2 ?u3 ?u4 ?u5 ?u6 ?u7 ?u8 ?_; (case u1 => k_asm); (case u2 => k_asm); (case u3 => k_asm); (case u4 => k_asm); (case u5 => k_asm); (case u6 => first | exact rfl | assumption); (case u7 => first | exact room1 hdp (Nat.le_of_ble_eq_true rfl) | ktr_room); (case u8 => first | exact units1 hun (Nat.le_of_ble_eq_true rfl) | ktr_units); (case p0 => first | (with_reducible assumption) | omega); (case p1 => first | (with_reducible assumption) | omega); (case p2 => first | decide | omega); (case p3 => first | decide | omega)); intro t9 h9 tk9 z9 F9 N9; (all_goals ((try dsimp only); (try k_sweep); (try k_fold))))
        | ((with_reducible show wpAny _ _ (call (Value.ref 309) _) _ _ _); k_dflt (refine' Clm.use (parse_iso_ok _ _ ?p0) ?u1 ?u2 ?u3 ?u4 ?u5 ?u6 ?u7 ?u8 ?_; (case u1 => k_asm); (case u2 => k_asm); (case u3 => k_asm); (case u4 => k_asm); (case u5 => k_asm); (case u6 => first | exact rfl | assumption); (case u7 => first | exact room1 hdp (Nat.le_of_ble_eq_true rfl) | ktr_room); (case u8 => first | exact units1 hun (Nat.le_of_ble_eq_true rfl) | ktr_units); (case p0 => first | (with_reducible assumption) | (exact Nat.le_trans (by repeat (first | with_reducible assumption | exact Nat.le_of_eq (show _ = 1 from rfl) | exact Nat.le_refl 0 | (with_reducible apply Nat.add_le_add) | (apply len_cat))) (by exact Nat.le_of_ble_eq_true rfl)) | omega)); refine' ⟨fun e9 h9 tk9 F9 N9 => ?_, fun i9 e9 t9 h9 tk9 F9 N9 => ?_⟩; (all_goals ((try dsimp only); (try k_sweep); (try k_fold))))
        | ((with_reducible show wpAny _ _ (call (Value.ref 365) _) _ _ _); k_dflt (refine' Clm.use (law_near_n_ok _ _ ?p0) ?u1 ?u2 ?u3 ?u4 ?u5 ?u6 ?u7 ?u8 ?_; (case u1 => k_asm); (case u2 => k_asm); (case u3 => k_asm); (case u4 => k_asm); (case u5 => k_asm); (case u6 => first | exact rfl | assumption); (case u7 => first | exact room1 hdp (Nat.le_of_ble_eq_true rfl) | ktr_room); (case u8 => first | exact units1 hun (Nat.le_of_ble_eq_true rfl) | ktr_units); (case p0 => (first | exact (sr5p_eq (by with_reducible assumption) (by with_reducible assumption) (by with_reducible assumption) (by with_reducible assumption) (by with_reducible assumption)).symm.trans (by with_reducible assumption) | exact (sr5m_eq (by with_reducible assumption) (by with_reducible assumption) (by with_reducible assumption) (by with_reducible assumption) (by with_reducible assumption)).symm.trans (by with_reducible assumption)))); intro t9 h9 tk9 F9 N9; (all_goals ((try dsimp only); (try k_sweep); (try k_fold))))
        | ((with_reducible show wpAny _ _ (call (Value.ref 365) _) _ _ _); k_dflt (refine' Clm.use (law_near_s_ok _ _ _ ?p0) ?u1 ?u2 ?u3 ?u4 ?u5 ?u6 ?u7 ?u8 ?_; (case u1 => k_asm); (case u2 => k_asm); (case u3 => k_asm); (case u4 => k_asm); (case u5 => k_asm); (case u6 => first | exact rfl | assumption); (case u7 => first | exact room1 hdp (Nat.le_of_ble_eq_true rfl) | ktr_room); (case u8 => first | exact units1 hun (Nat.le_of_ble_eq_true rfl) | ktr_units); (case p0 => (first | exact (sr5p_eq (by with_reducible assumption) (by with_reducible assumption) (by with_reducible assumption) (by with_reducible assumption) (by with_reducible assumption)).symm.trans (by with_reducible assumption) | exact (sr5m_eq (by with_reducible assumption) (by with_reducible assumption) (by with_reducible assumption) (by with_reducible assumption) (by with_reducible assumption)).symm.trans (by with_reducible assumption)))); intro t9 h9 tk9 F9 N9; (all_goals ((try dsimp only); (try k_sweep); (try k_fold)))))
    intro dp un gd cn cs a9 ccd cl outer A₀ base h₀ L m s Q E B F9 X N T hk hdp hun hret
    obtain ⟨PL1, PL2, PL3, PL4, PL5, PL6⟩ := pieces_len F
    obtain ⟨ZB1, ZB2, ZB3, ZB4⟩ := zone_bnds z0 z1
    refine wpAny_call ?_
    k_dflt cell_enter
    k_steps
    all_goals ((refine' endB hret ?e1 ?e2 ?e3 ?e4; (case e2 => k_asm); (case e3 => k_asm); (case e4 => k_extra "mem"); (case e1 => first | rfl | simp))))
end

section
set_option maxHeartbeats 4000000 in
set_option pp.deepTerms false in
theorem law_sr6n_ok (a b c d e f g : Int) (t₁ t₂ t₃ t₄ t₅ t₆ t₇ : Tok) (q : Addr) (F : Fld a b c d e f g) (tk : Tok) : Clm w loose mean mg mb 11 372 [.ref q, .int 6 tk, .none] ((q, tup7 a b c d e f g t₁ t₂ t₃ t₄ t₅ t₆ t₇) :: news) (RetV ((q, tup7 a b c d e f g t₁ t₂ t₃ t₄ t₅ t₆ t₇) :: news) fun _ => .bool true) := by
  w_on
  w_strict (
    k_with_none
    k_with "sub" => first | exact sub_self | (refine sub_cons ?_; k_extra "sub")
    k_with "compareOp In none ref" => (k_here; k_dflt (first | (refine' none_in_tup (b := false) ?N ?r ?c ?b ?u ?_; (case N => exact News.isTup (by k_asm) (by k_mem)); (case r => rfl); (case c => rfl); (case b => rfl); (case u => ktr_units); k_whole) | (refine' none_in_tup (b := true) ?N ?r ?c ?b ?u ?_; (case N => exact News.isTup (by k_asm) (by k_mem)); (case r => rfl); (case c => rfl); (case b => rfl); (case u => ktr_units); k_whole)))
    k_with "subc" => first | exact sub_self | (refine sub_both ?_; k_extra "subc") | (refine sub_cons ?_; k_extra "subc")
    k_with "low" => first | assumption | exact allLt_of (by assumption) | exact low1 (by assumption) | exact low2 (by assumption) | exact low3 (by assumption) | exact low4 (by assumption)
    k_with "mem" => first | exact sub_self | (k_extra "sub") | (refine List.forall_mem_cons.mpr ⟨?_, ?_⟩; k_mem; k_extra "mem")
    k_with "ne" => first | assumption | exact List.forall_mem_nil _ | exact ne_of_low (by k_extra "low") | (refine' List.forall_mem_cons.mpr ⟨?a, ?b⟩; (case a => k_ne); (case b => k_extra "ne"))
    k_with "pull" => first | k_asm | exact pull1 (by k_asm) | exact pull2 (by k_asm) | exact pull3 (by k_asm) | exact pull4 (by k_asm)
    k_with "memq" => first | with_reducible assumption | exact List.Mem.head _ | (refine' List.Mem.tail _ ?_; k_extra "memq")
    k_with "subscriptTail Name Slice ref ref" => ((with_reducible show wpAny _ _ (subscriptTail (Expr.Name (Str.ofString "seven") _) _ _ _) _ _ _); k_dflt (first | (refine' slice_tuple_to 1 ?F ?N ?m ?y ?b ?z ?e ?_ ?s ?g; (case F => k_asm); (case N => k_asm); (case m => k_extra "memq"); (case y => exact rfl); (case b => exact Nat.le_of_ble_eq_true rfl); (case z => exact Nat.le_of_ble_eq_true rfl); (case e => kl_lit); (case s => with_unfolding_all rfl); (case g => kmk_pure); (intro D9 h9 F9 N9 l9); (try simp only [AllLt, and_true] at l9); (try k_sweep)) | (refine' slice_tuple_to 2 ?F ?N ?m ?y ?b ?z ?e ?_ ?s ?g; (case F => k_asm); (case N => k_asm); (case m => k_extra "memq"); (case y => exact rfl); (case b => exact Nat.le_of_ble_eq_true rfl); (case z => exact Nat.le_of_ble_eq_true rfl); (case e => kl_lit); (case s => with_unfolding_all rfl); (case g => kmk_pure); (intro D9 h9 F9 N9 l9); (try simp only [AllLt, and_true] at l9); (try k_sweep)) | (refine' slice_tuple_to 3 ?F ?N ?m ?y ?b ?z ?e ?_ ?s ?g; (case F => k_asm); (case N => k_asm); (case m => k_extra "memq"); (case y => exact rfl); (case b => exact Nat.le_of_ble_eq_true rfl); (case z => exact Nat.le_of_ble_eq_true rfl); (case e => kl_lit); (case s => with_unfolding_all rfl); (case g => kmk_pure); (intro D9 h9 F9 N9 l9); (try simp only [AllLt, and_true] at l9); (try k_sweep)) | (refine' slice_tuple_to 4 ?F ?N ?m ?y ?b ?z ?e ?_ ?s ?g; (case F => k_asm); (case N => k_asm); (case m => k_extra "memq"); (case y => exact rfl); (case b => exact Nat.le_of_ble_eq_true rfl); (case z => exact Nat.le_of_ble_eq_true rfl); (case e => kl_lit); (case s => with_unfolding_all rfl); (case g => kmk_pure); (intro D9 h9 F9 N9 l9); (try simp only [AllLt, and_true] at l9); (try k_sweep)) | (refine' slice_tuple_to 5 ?F ?N ?m ?y ?b ?z ?e ?_ ?s ?g; (case F => k_asm); (case N => k_asm); (case m => k_extra "memq"); (case y => exact rfl); (case b => exact Nat.le_of_ble_eq_true rfl); (case z => exact Nat.le_of_ble_eq_true rfl); (case e => kl_lit); (case s => with_unfolding_all rfl); (case g => kmk_pure); (intro D9 h9 F9 N9 l9); (try simp only [AllLt, and_true] at l9); (try k_sweep)) | (refine' slice_tuple_to 6 ?F ?N ?m ?y ?b ?z ?e ?_ ?s ?g; (case F => k_asm); (case N => k_asm); (case m => k_extra "memq"); (case y => exact rfl); (case b => exact Nat.le_of_ble_eq_true rfl); (case z => exact Nat.le_of_ble_eq_true rfl); (case e => kl_lit); (case s => with_unfolding_all rfl); (case g => kmk_pure); (intro D9 h9 F9 N9 l9); (try simp only [AllLt, and_true] at l9); (try k_sweep))| (refine' slice_tuple_all ?F ?N ?m ?y ?_ ?s ?g; (case F => k_asm); (case N => k_asm); (case m => k_extra "memq"); (case y => exact rfl); (case s => with_unfolding_all rfl); (case g => kmk_pure); (intro h9 F9 N9); (try k_sweep))))
    k_with "call builtin:str.join" => (k_dflt (refine join_cat (by k_asm) (by k_extra "memq") (by kct_strs) (by exact Nat.le_of_ble_eq_true rfl) (by (simp only [List.map_cons, List.map_nil, List.sum_cons, List.sum_nil]; (exact Nat.le_trans (by repeat (first | with_reducible (first | exact PL1 | exact PL2 | exact PL3 | exact PL4 | exact PL5 | exact PL6) | exact Nat.le_of_eq (show _ = 1 from rfl) | exact Nat.le_refl 0 | (with_reducible apply Nat.add_le_add) | (apply len_cat))) (by exact Nat.le_of_ble_eq_true rfl)))) ?_); intro T9 t9 k9 e9 l9)
    k_with "execs cons" => (dsimp only; walk_at "execs cons")
    k_with "binaryOp Add str str" => (dsimp only; walk_at "binaryOp Add str str")
    k_with "newList" => (dsimp only; walk_at "newList")
    k_with "storeName" => (dsimp only; walk_at "storeName")
    k_with "call ref" => (first
        | ((with_reducible show wpAny _ _ (call (Value.ref 351) _) _ _ _); k_dflt (refine' Clm.use (law_piecesF_ok _ _ _ _ _ _ _ _ _ _ _ _ _ _ _ ?p0 ?p1) ?u1 ?u2 ?u3 ?u4 ?u5 ?u6 ?u7 ?u8 ?_; (case u1 => k_asm); (case u2 => k_asm); (case u3 => k_asm); (case u4 => k_asm); (case u5 => k_asm); (case u6 => first | exact rfl | assumption); (case u7 => first | exact room1 hdp (Nat.le_of_ble_eq_true rfl) | ktr_room); (case u8 => first | exact units1 hun (Nat.le_of_ble_eq_true rfl) | ktr_units); (case p0 => k_extra "memq"); (case p1 => with_reducible assumption)); intro q9 u1 u2 u3 u4 u5 u6 h9 tk9 z1 z2 z3 z4 z5 z6 F9 N9 l9; (try simp only [AllLt, and_true] at l9); (all_goals ((try dsimp only); (try k_sweep); (try k_fold))))
        | ((with_reducible show wpAny _ _ (call (Value.ref 358) _) _ _ _); k_dflt (refine' Clm.use (law_suml_ok _ _ _ _ _ _ _ _ _ _ _ _ _ _ _ _ ?p0) ?u1 ?u2 ?u3 ?u4 ?u5 ?u6 ?u7 ?u8 ?_; (case u1 => k_asm); (case u2 => k_asm); (case u3 => k_asm); (case u4 => k_asm); (case u5 => k_asm); (case u6 => first | exact rfl | assumption); (case u7 => first | exact room1 hdp (Nat.le_of_ble_eq_true rfl) | ktr_room); (case u8 => first | exact units1 hun (Nat.le_of_ble_eq_true rfl) | ktr_units); (case p0 => k_mem)); intro t9 h9 tk9 F9 N9; (all_goals ((try dsimp only); (try k_sweep); (try k_fold))))
        | ((with_reducible show wpAny _ _ (call (Value.ref 337) _) _ _ _); k_dflt (refine' Clm.use (law_wide_ok _ _ _ _ ?p0 ?p1 ?p2 ?p3) ?u1 ?u2 ?u3 ?u4 ?u5 ?u6 ?u7 ?u8 ?_; (case u1 => k_asm); (case u2 => k_asm); (case u3 => k_asm); (case u4 => k_asm); (case u5 => k_asm); (case u6 => first | exact rfl | assumption); (case u7 => first | exact room1 hdp (Nat.le_of_ble_eq_true rfl) | ktr_room); (case u8 => first | exact units1 hun (Nat.le_of_ble_eq_true rfl) | ktr_units); (case p0 => first | (with_reducible assumption) | omega); (case p1 => first | (with_reducible assumption) | omega); (case p2 => first | decide | omega); (case p3 => first | decide | omega)); intro t9 h9 tk9 z9 F9 N9; (all_goals ((try dsimp only); (try k_sweep); (try k_fold))))
        | ((with_reducible show wpAny _ _ (call (Value.ref 309) _) _ _ _); k_dflt (refine' Clm.use (parse_iso_ok _ _ ?p0) ?u1 ?u2 ?u3 ?u4 ?u5 ?u6 ?u7 ?u8 ?_; (case u1 => k_asm); (case u2 => k_asm); (case u3 => k_asm); (case u4 => k_asm); (case u5 => k_asm); (case u6 => first | exact rfl | assumption); (case u7 => first | exact room1 hdp (Nat.le_of_ble_eq_true rfl) | ktr_room); (case u8 => first | exact units1 hun (Nat.le_of_ble_eq_true rfl) | ktr_units); (case p0 => first | (with_reducible assumption) | (exact Nat.le_trans (by repeat (first | with_reducible assumption | exact Nat.le_of_eq (show _ = 1 from rfl) | exact Nat.le_refl 0 | (with_reducible apply Nat.add_le_add) | (apply len_cat))) (by exact Nat.le_of_ble_eq_true rfl)) | omega)); refine' ⟨fun e9 h9 tk9 F9 N9 => ?_, fun i9 e9 t9 h9 tk9 F9 N9 => ?_⟩; (all_goals ((try dsimp only); (try k_sweep); (try k_fold))))
        | ((with_reducible show wpAny _ _ (call (Value.ref 365) _) _ _ _); k_dflt (refine' Clm.use (law_near_n_ok _ _ ?p0) ?u1 ?u2 ?u3 ?u4 ?u5 ?u6 ?u7 ?u8 ?_; (case u1 => k_asm); (case u2 => k_asm); (case u3 => k_asm); (case u4 => k_asm); (case u5 => k_asm); (case u6 => first | exact rfl | assumption); (case u7 => first | exact room1 hdp (Nat.le_of_ble_eq_true rfl) | ktr_room); (case u8 => first | exact units1 hun (Nat.le_of_ble_eq_true rfl) | ktr_units); (case p0 => (exact (sr6n_eq (by with_reducible assumption) (by with_reducible assumption)).symm.trans (by with_reducible assumption)))); intro t9 h9 tk9 F9 N9; (all_goals ((try dsimp only); (try k_sweep); (try k_fold))))
        | ((with_reducible show wpAny _ _ (call (Value.ref 365) _) _ _ _); k_dflt (refine' Clm.use (law_near_s_ok _ _ _ ?p0) ?u1 ?u2 ?u3 ?u4 ?u5 ?u6 ?u7 ?u8 ?_; (case u1 => k_asm); (case u2 => k_asm); (case u3 => k_asm); (case u4 => k_asm); (case u5 => k_asm); (case u6 => first | exact rfl | assumption); (case u7 => first | exact room1 hdp (Nat.le_of_ble_eq_true rfl) | ktr_room); (case u8 => first | exact units1 hun (Nat.le_of_ble_eq_true rfl) | ktr_units); (case p0 => (exact (sr6n_eq (by with_reducible assumption) (by with_reducible assumption)).symm.trans (by with_reducible assumption)))); intro t9 h9 tk9 F9 N9; (all_goals ((try dsimp only); (try k_sweep); (try k_fold)))))
    intro dp un gd cn cs a9 ccd cl outer A₀ base h₀ L m s Q E B F9 X N T hk hdp hun hret
    obtain ⟨PL1, PL2, PL3, PL4, PL5, PL6⟩ := pieces_len F
    refine wpAny_call ?_
    k_dflt cell_enter
    k_steps
    all_goals ((refine' endB hret ?e1 ?e2 ?e3 ?e4; (case e2 => k_asm); (case e3 => k_asm); (case e4 => k_extra "mem"); (case e1 => first | rfl | simp))))
end

section
set_option maxHeartbeats 4000000 in
set_option pp.deepTerms false in
theorem law_sr6i_ok (a b c d e f g : Int) (t₁ t₂ t₃ t₄ t₅ t₆ t₇ : Tok) (q : Addr) (F : Fld a b c d e f g) (tk : Tok) (z : Int) (tz : Tok) (z0 : -719 ≤ z) (z1 : z ≤ 719) : Clm w loose mean mg mb 11 372 [.ref q, .int 6 tk, .int z tz] ((q, tup7 a b c d e f g t₁ t₂ t₃ t₄ t₅ t₆ t₇) :: news) (RetV ((q, tup7 a b c d e f g t₁ t₂ t₃ t₄ t₅ t₆ t₇) :: news) fun _ => .bool true) := by
  w_on
  w_strict (
    k_with_none
    k_with "sub" => first | exact sub_self | (refine sub_cons ?_; k_extra "sub")
    k_with "compareOp In none ref" => (k_here; k_dflt (first | (refine' none_in_tup (b := false) ?N ?r ?c ?b ?u ?_; (case N => exact News.isTup (by k_asm) (by k_mem)); (case r => rfl); (case c => rfl); (case b => rfl); (case u => ktr_units); k_whole) | (refine' none_in_tup (b := true) ?N ?r ?c ?b ?u ?_; (case N => exact News.isTup (by k_asm) (by k_mem)); (case r => rfl); (case c => rfl); (case b => rfl); (case u => ktr_units); k_whole)))
    k_with "subc" => first | exact sub_self | (refine sub_both ?_; k_extra "subc") | (refine sub_cons ?_; k_extra "subc")
    k_with "low" => first | assumption | exact allLt_of (by assumption) | exact low1 (by assumption) | exact low2 (by assumption) | exact low3 (by assumption) | exact low4 (by assumption)
    k_with "mem" => first | exact sub_self | (k_extra "sub") | (refine List.forall_mem_cons.mpr ⟨?_, ?_⟩; k_mem; k_extra "mem")
    k_with "ne" => first | assumption | exact List.forall_mem_nil _ | exact ne_of_low (by k_extra "low") | (refine' List.forall_mem_cons.mpr ⟨?a, ?b⟩; (case a => k_ne); (case b => k_extra "ne"))
    k_with "pull" => first | k_asm | exact pull1 (by k_asm) | exact pull2 (by k_asm) | exact pull3 (by k_asm) | exact pull4 (by k_asm)
    k_with "memq" => first | with_reducible assumption | exact List.Mem.head _ | (refine' List.Mem.tail _ ?_; k_extra "memq")
    k_with "subscriptTail Name Slice ref ref" => ((with_reducible show wpAny _ _ (subscriptTail (Expr.Name (Str.ofString "seven") _) _ _ _) _ _ _); k_dflt (first | (refine' slice_tuple_to 1 ?F ?N ?m ?y ?b ?z ?e ?_ ?s ?g; (case F => k_asm); (case N => k_asm); (case m => k_extra "memq"); (case y => exact rfl); (case b => exact Nat.le_of_ble_eq_true rfl); (case z => exact Nat.le_of_ble_eq_true rfl); (case e => kl_lit); (case s => with_unfolding_all rfl); (case g => kmk_pure); (intro D9 h9 F9 N9 l9); (try simp only [AllLt, and_true] at l9); (try k_sweep)) | (refine' slice_tuple_to 2 ?F ?N ?m ?y ?b ?z ?e ?_ ?s ?g; (case F => k_asm); (case N => k_asm); (case m => k_extra "memq"); (case y => exact rfl); (case b => exact Nat.le_of_ble_eq_true rfl); (case z => exact Nat.le_of_ble_eq_true rfl); (case e => kl_lit); (case s => with_unfolding_all rfl); (case g => kmk_pure); (intro D9 h9 F9 N9 l9); (try simp only [AllLt, and_true] at l9); (try k_sweep)) | (refine' slice_tuple_to 3 ?F ?N ?m ?y ?b ?z ?e ?_ ?s ?g; (case F => k_asm); (case N => k_asm); (case m => k_extra "memq"); (case y => exact rfl); (case b => exact Nat.le_of_ble_eq_true rfl); (case z => exact Nat.le_of_ble_eq_true rfl); (case e => kl_lit); (case s => with_unfolding_all rfl); (case g => kmk_pure); (intro D9 h9 F9 N9 l9); (try simp only [AllLt, and_true] at l9); (try k_sweep)) | (refine' slice_tuple_to 4 ?F ?N ?m ?y ?b ?z ?e ?_ ?s ?g; (case F => k_asm); (case N => k_asm); (case m => k_extra "memq"); (case y => exact rfl); (case b => exact Nat.le_of_ble_eq_true rfl); (case z => exact Nat.le_of_ble_eq_true rfl); (case e => kl_lit); (case s => with_unfolding_all rfl); (case g => kmk_pure); (intro D9 h9 F9 N9 l9); (try simp only [AllLt, and_true] at l9); (try k_sweep)) | (refine' slice_tuple_to 5 ?F ?N ?m ?y ?b ?z ?e ?_ ?s ?g; (case F => k_asm); (case N => k_asm); (case m => k_extra "memq"); (case y => exact rfl); (case b => exact Nat.le_of_ble_eq_true rfl); (case z => exact Nat.le_of_ble_eq_true rfl); (case e => kl_lit); (case s => with_unfolding_all rfl); (case g => kmk_pure); (intro D9 h9 F9 N9 l9); (try simp only [AllLt, and_true] at l9); (try k_sweep)) | (refine' slice_tuple_to 6 ?F ?N ?m ?y ?b ?z ?e ?_ ?s ?g; (case F => k_asm); (case N => k_asm); (case m => k_extra "memq"); (case y => exact rfl); (case b => exact Nat.le_of_ble_eq_true rfl); (case z => exact Nat.le_of_ble_eq_true rfl); (case e => kl_lit); (case s => with_unfolding_all rfl); (case g => kmk_pure); (intro D9 h9 F9 N9 l9); (try simp only [AllLt, and_true] at l9); (try k_sweep))| (refine' slice_tuple_all ?F ?N ?m ?y ?_ ?s ?g; (case F => k_asm); (case N => k_asm); (case m => k_extra "memq"); (case y => exact rfl); (case s => with_unfolding_all rfl); (case g => kmk_pure); (intro h9 F9 N9); (try k_sweep))))
    k_with "call builtin:str.join" => (k_dflt (refine join_cat (by k_asm) (by k_extra "memq") (by kct_strs) (by exact Nat.le_of_ble_eq_true rfl) (by (simp only [List.map_cons, List.map_nil, List.sum_cons, List.sum_nil]; (exact Nat.le_trans (by repeat (first | with_reducible (first | exact PL1 | exact PL2 | exact PL3 | exact PL4 | exact PL5 | exact PL6) | exact Nat.le_of_eq (show _ = 1 from rfl) | exact Nat.le_refl 0 | (with_reducible apply Nat.add_le_add) | (apply len_cat))) (by exact Nat.le_of_ble_eq_true rfl)))) ?_); intro T9 t9 k9 e9 l9)
    k_with "execs cons" => (dsimp only; walk_at "execs cons")
    k_with "binaryOp Add str str" => (dsimp only; walk_at "binaryOp Add str str")
    k_with "newList" => (dsimp only; walk_at "newList")
    k_with "storeName" => (dsimp only; walk_at "storeName")
    k_with "call ref" => (first
        | ((with_reducible show wpAny _ _ (call (Value.ref 351) _) _ _ _); k_dflt (refine' Clm.use (law_piecesF_ok _ _ _ _ _ _ _ _ _ _ _ _ _ _ _ ?p0 ?p1) ?u1 ?u2 ?u3 ?u4 ?u5 ?u6 ?u7 ?u8 ?_; (case u1 => k_asm); (case u2 => k_asm); (case u3 => k_asm); (case u4 => k_asm); (case u5 => k_asm); (case u6 => first | exact rfl | assumption); (case u7 => first | exact room1 hdp (Nat.le_of_ble_eq_true rfl) | ktr_room); (case u8 => first | exact units1 hun (Nat.le_of_ble_eq_true rfl) | ktr_units); (case p0 => k_extra "memq"); (case p1 => with_reducible assumption)); intro q9 u1 u2 u3 u4 u5 u6 h9 tk9 z1 z2 z3 z4 z5 z6 F9 N9 l9; (try simp only [AllLt, and_true] at l9); (all_goals ((try dsimp only); (try k_sweep); (try k_fold))))
        | ((with_reducible show wpAny _ _ (call (Value.ref 358) _) _ _ _); k_dflt (refine' Clm.use (law_suml_ok _ _ _ _ _ _ _ _ _ _ _ _ _ _ _ _ ?p0) ?u1 ?u2 ?u3 ?u4 ?u5 ?u6 ?u7 ?u8 ?_; (case u1 => k_asm); (case u2 => k_asm); (case u3 => k_asm); (case u4 => k_asm); (case u5 => k_asm); (case u6 => first | exact rfl | assumption); (case u7 => first | exact room1 hdp (Nat.le_of_ble_eq_true rfl) | ktr_room); (case u8 => first | exact units1 hun (Nat.le_of_ble_eq_true rfl) | ktr_units); (case p0 => k_mem)); intro t9 h9 tk9 F9 N9; (all_goals ((try dsimp only); (try k_sweep); (try k_fold))))
        | ((with_reducible show wpAny _ _ (call (Value.ref 337) _) _ _ _); k_dflt (refine' Clm.use (law_wide_ok _ _ _ _ ?p0 ?p1 ?p2 ?p3) ?u1 ?u2 ?u3 ?u4 ?u5 ?u6 ?u7 ?u8 ?_; (case u1 => k_asm); (case u2 => k_asm); (case u3 => k_asm); (case u4 => k_asm); (case u5 => k_asm); (case u6 => first | exact rfl | assumption); (case u7 => first | exact room1 hdp (Nat.le_of_ble_eq_true rfl) | ktr_room); (case u8 => first | exact units1 hun (Nat.le_of_ble_eq_true rfl) | ktr_units); (case p0 => first | (with_reducible assumption) | omega); (case p1 => first | (with_reducible assumption) | omega); (case p2 => first | decide | omega); (case p3 => first | decide | omega)); intro t9 h9 tk9 z9 F9 N9; (all_goals ((try dsimp only); (try k_sweep); (try k_fold))))
        | ((with_reducible show wpAny _ _ (call (Value.ref 309) _) _ _ _); k_dflt (refine' Clm.use (parse_iso_ok _ _ ?p0) ?u1 ?u2 ?u3 ?u4 ?u5 ?u6 ?u7 ?u8 ?_; (case u1 => k_asm); (case u2 => k_asm); (case u3 => k_asm); (case u4 => k_asm); (case u5 => k_asm); (case u6 => first | exact rfl | assumption); (case u7 => first | exact room1 hdp (Nat.le_of_ble_eq_true rfl) | ktr_room); (case u8 => first | exact units1 hun (Nat.le_of_ble_eq_true rfl) | ktr_units); (case p0 => first | (with_reducible assumption) | (exact Nat.le_trans (by repeat (first | with_reducible assumption | exact Nat.le_of_eq (show _ = 1 from rfl) | exact Nat.le_refl 0 | (with_reducible apply Nat.add_le_add) | (apply len_cat))) (by exact Nat.le_of_ble_eq_true rfl)) | omega)); refine' ⟨fun e9 h9 tk9 F9 N9 => ?_, fun i9 e9 t9 h9 tk9 F9 N9 => ?_⟩; (all_goals ((try dsimp only); (try k_sweep); (try k_fold))))
        | ((with_reducible show wpAny _ _ (call (Value.ref 365) _) _ _ _); k_dflt (refine' Clm.use (law_near_n_ok _ _ ?p0) ?u1 ?u2 ?u3 ?u4 ?u5 ?u6 ?u7 ?u8 ?_; (case u1 => k_asm); (case u2 => k_asm); (case u3 => k_asm); (case u4 => k_asm); (case u5 => k_asm); (case u6 => first | exact rfl | assumption); (case u7 => first | exact room1 hdp (Nat.le_of_ble_eq_true rfl) | ktr_room); (case u8 => first | exact units1 hun (Nat.le_of_ble_eq_true rfl) | ktr_units); (case p0 => (first | exact (sr6p_eq (by with_reducible assumption) (by with_reducible assumption) (by with_reducible assumption) (by with_reducible assumption) (by with_reducible assumption)).symm.trans (by with_reducible assumption) | exact (sr6m_eq (by with_reducible assumption) (by with_reducible assumption) (by with_reducible assumption) (by with_reducible assumption) (by with_reducible assumption)).symm.trans (by with_reducible assumption)))); intro t9 h9 tk9 F9 N9; (all_goals ((try dsimp only); (try k_sweep); (try k_fold))))
        | ((with_reducible show wpAny _ _ (call (Value.ref 365) _) _ _ _); k_dflt (refine' Clm.use (law_near_s_ok _ _ _ ?p0) ?u1 ?u2 ?u3 ?u4 ?u5 ?u6 ?u7 ?u8 ?_; (case u1 => k_asm); (case u2 => k_asm); (case u3 => k_asm); (case u4 => k_asm); (case u5 => k_asm); (case u6 => first | exact rfl | assumption); (case u7 => first | exact room1 hdp (Nat.le_of_ble_eq_true rfl) | ktr_room); (case u8 => first | exact units1 hun (Nat.le_of_ble_eq_true rfl) | ktr_units); (case p0 => (first | exact (sr6p_eq (by with_reducible assumption) (by with_reducible assumption) (by with_reducible assumption) (by with_reducible assumption) (by with_reducible assumption)).symm.trans (by with_reducible assumption) | exact (sr6m_eq (by with_reducible assumption) (by with_reducible assumption) (by with_reducible assumption) (by with_reducible assumption) (by with_reducible assumption)).symm.trans (by with_reducible assumption)))); intro t9 h9 tk9 F9 N9; (all_goals ((try dsimp only); (try k_sweep); (try k_fold)))))
    intro dp un gd cn cs a9 ccd cl outer A₀ base h₀ L m s Q E B F9 X N T hk hdp hun hret
    obtain ⟨PL1, PL2, PL3, PL4, PL5, PL6⟩ := pieces_len F
    obtain ⟨ZB1, ZB2, ZB3, ZB4⟩ := zone_bnds z0 z1
    refine wpAny_call ?_
    k_dflt cell_enter
    k_steps
    all_goals ((refine' endB hret ?e1 ?e2 ?e3 ?e4; (case e2 => k_asm); (case e3 => k_asm); (case e4 => k_extra "mem"); (case e1 => first | rfl | simp))))
end

theorem six_of {k : Int} (g0 : 1 ≤ k) (g1 : k ≤ 6) : k = 1 ∨ k = 2 ∨ k = 3 ∨ k = 4 ∨ k = 5 ∨ k = 6 := by
  obtain ⟨n, rfl⟩ := Int.eq_ofNat_of_zero_le (Int.le_trans (by decide) g0)
  have c : ∀ i : Fin 7, 1 ≤ i.val → (i.val : Int) = 1 ∨ (i.val : Int) = 2 ∨ (i.val : Int) = 3 ∨ (i.val : Int) = 4 ∨ (i.val : Int) = 5 ∨ (i.val : Int) = 6 := by decide
  exact c ⟨n, Nat.lt_succ_of_le (Int.ofNat_le.mp g1)⟩ (Int.ofNat_le.mp g0)
theorem law_sr_ok (n k : Int) (t : Tok) (v : Value) (t₁ t₂ t₃ t₄ t₅ t₆ t₇ : Tok) (q : Addr) (hq : (q, tup7 (Yr n) (Mo n) (Dt n) (Hr n) (Mi n) (Se n) (Ms n) t₁ t₂ t₃ t₄ t₅ t₆ t₇) ∈ news) (h0 : -8640000000000000 ≤ n) (h1 : n ≤ 8640000000000000) (g0 : 1 ≤ k) (g1 : k ≤ 6) (gz : zOk v) : Clm w loose mean mg mb 11 372 [.ref q, .int k t, v] news (RetV news fun _ => .bool true) := by
  have F := fld_of h0 h1
  refine Clm.open1 hq ?_
  rcases six_of g0 g1 with rfl | rfl | rfl | rfl | rfl | rfl
  · exact law_sr1x_ok _ _ _ _ _ _ _ _ _ _ _ _ _ _ q F t v
  · exact law_sr2x_ok _ _ _ _ _ _ _ _ _ _ _ _ _ _ q F t v
  · exact law_sr3x_ok _ _ _ _ _ _ _ _ _ _ _ _ _ _ q F t v
  · rcases gz with rfl | ⟨z, tz, rfl, z0, z1⟩
    · exact law_sr4n_ok _ _ _ _ _ _ _ _ _ _ _ _ _ _ q F t
    · exact law_sr4i_ok _ _ _ _ _ _ _ _ _ _ _ _ _ _ q F t z tz z0 z1
  · rcases gz with rfl | ⟨z, tz, rfl, z0, z1⟩
    · exact law_sr5n_ok _ _ _ _ _ _ _ _ _ _ _ _ _ _ q F t
    · exact law_sr5i_ok _ _ _ _ _ _ _ _ _ _ _ _ _ _ q F t z tz z0 z1
  · rcases gz with rfl | ⟨z, tz, rfl, z0, z1⟩
    · exact law_sr6n_ok _ _ _ _ _ _ _ _ _ _ _ _ _ _ q F t
    · exact law_sr6i_ok _ _ _ _ _ _ _ _ _ _ _ _ _ _ q F t z tz z0 z1
end

theorem lit13 : (Str.ofString "-13").cps.toList = [45, 49, 51] := by decide +kernel
theorem lit00 : (Str.ofString "-00").cps.toList = [45, 48, 48] := by decide +kernel
theorem lit0230 : (Str.ofString "-02-30").cps.toList = [45, 48, 50, 45, 51, 48] := by decide +kernel
theorem litT25 : (Str.ofString "T25:00").cps.toList = [84, 50, 53, 58, 48, 48] := by decide +kernel
theorem litT1060 : (Str.ofString "T10:60").cps.toList = [84, 49, 48, 58, 54, 48] := by decide +kernel
theorem lit60 : (Str.ofString ":60").cps.toList = [58, 54, 48] := by decide +kernel
theorem litd1 : (Str.ofString ".1").cps.toList = [46, 49] := by decide +kernel
theorem litZz : (Str.ofString "Zz").cps.toList = [90, 122] := by decide +kernel
theorem lit0100 : (Str.ofString "+0100").cps.toList = [43, 48, 49, 48, 48] := by decide +kernel
theorem litT10 : (Str.ofString "T10").cps.toList = [84, 49, 48] := by decide +kernel
theorem litt10 : (Str.ofString "t10:00").cps.toList = [116, 49, 48, 58, 48, 48] := by decide +kernel
theorem litsp : (Str.ofString " ").cps.toList = [32] := by decide +kernel
theorem litT24 : (Str.ofString "T24:01").cps.toList = [84, 50, 52, 58, 48, 49] := by decide +kernel
theorem litT1000 : (Str.ofString "T10:00+24:00").cps.toList = [84, 49, 48, 58, 48, 48, 43, 50, 52, 58, 48, 48] := by decide +kernel
theorem litnil : (Str.ofString "").cps.toList = [] := by decide +kernel
section
variable {r : List Nat} {lo hi : Int}
theorem n13 : numL [49, 51] false 2 1 12 = (1, [49, 51], true) := by rw [show [49, 51] = (48 + 1) :: (48 + 3) :: [] from rfl, numL_two 1 3 (by omega) (by omega), if_neg (by decide)]
theorem n00 : numL [48, 48] false 2 1 hi = (1, [48, 48], true) := by rw [show [48, 48] = (48 + 0) :: (48 + 0) :: [] from rfl, numL_two 0 0 (by omega) (by omega), if_neg (by omega)]
theorem n02 : numL (48 :: 50 :: r) false 2 1 12 = (2, r, false) := by rw [show 48 :: 50 :: r = (48 + 0) :: (48 + 2) :: r from rfl, numL_two 0 2 (by omega) (by omega), if_pos (by decide)]; rfl
theorem n30 (h : hi < 30) : numL [51, 48] false 2 1 hi = (1, [51, 48], true) := by rw [show [51, 48] = (48 + 3) :: (48 + 0) :: [] from rfl, numL_two 3 0 (by omega) (by omega), if_neg (by omega)]
theorem n25 : numL (50 :: 53 :: r) false 2 0 24 = (0, 50 :: 53 :: r, true) := by rw [show 50 :: 53 :: r = (48 + 2) :: (48 + 5) :: r from rfl, numL_two 2 5 (by omega) (by omega), if_neg (by decide)]
theorem n10 : numL (49 :: 48 :: r) false 2 0 24 = (10, r, false) := by rw [show 49 :: 48 :: r = (48 + 1) :: (48 + 0) :: r from rfl, numL_two 1 0 (by omega) (by omega), if_pos (by decide)]; rfl
theorem n60 : numL (54 :: 48 :: r) false 2 0 59 = (0, 54 :: 48 :: r, true) := by rw [show 54 :: 48 :: r = (48 + 6) :: (48 + 0) :: r from rfl, numL_two 6 0 (by omega) (by omega), if_neg (by decide)]
theorem n24 : numL (50 :: 52 :: r) false 2 0 24 = (24, r, false) := by rw [show 50 :: 52 :: r = (48 + 2) :: (48 + 4) :: r from rfl, numL_two 2 4 (by omega) (by omega), if_pos (by decide)]; rfl
theorem n24z : numL (50 :: 52 :: r) false 2 0 23 = (0, 50 :: 52 :: r, true) := by rw [show 50 :: 52 :: r = (48 + 2) :: (48 + 4) :: r from rfl, numL_two 2 4 (by omega) (by omega), if_neg (by decide)]
theorem n0001 : numL (48 :: 49 :: r) false 2 0 59 = (1, r, false) := by rw [show 48 :: 49 :: r = (48 + 0) :: (48 + 1) :: r from rfl, numL_two 0 1 (by omega) (by omega), if_pos (by decide)]; rfl
theorem n01z : numL (48 :: 49 :: r) false 2 0 23 = (1, r, false) := by rw [show 48 :: 49 :: r = (48 + 0) :: (48 + 1) :: r from rfl, numL_two 0 1 (by omega) (by omega), if_pos (by decide)]; rfl
theorem n0000 : numL (48 :: 48 :: r) false 2 0 59 = (0, r, false) := by rw [show 48 :: 48 :: r = (48 + 0) :: (48 + 0) :: r from rfl, numL_two 0 0 (by omega) (by omega), if_pos (by decide)]; rfl
end
section
variable {a b c d e f g : Int} (F : Fld a b c d e f g) {T : Str}
include F
theorem wr1 : parseF (isoYear a ++ Str.ofString "-13") = none := by
  rw [parse_sim, Str.cps_append, Array.toList_append, cps_y, lit13]
  exact parse_wd (day_m F.y0 F.y1 n13)
theorem wr2 : parseF (isoYear a ++ Str.ofString "-00") = none := by
  rw [parse_sim, Str.cps_append, Array.toList_append, cps_y, lit00]
  exact parse_wd (day_m F.y0 F.y1 n00)
theorem wr3 : parseF (isoYear a ++ Str.ofString "-02-30") = none := by
  rw [parse_sim, Str.cps_append, Array.toList_append, cps_y, lit0230]
  have hh : da (2 - 1 + 1) (leap a) - da (2 - 1) (leap a) < 30 := by
    have := da_vals (leap a)
    rw [show (2 : Int) - 1 + 1 = 2 by omega, show (2 : Int) - 1 = 1 by omega]
    have h2 := this.2.2.1
    rw [h2]; split <;> omega
  exact parse_wd (day_d F.y0 F.y1 n02 (n30 hh))
theorem day_dF {S r' : List Nat} {v : Int} (h : numL S false 2 1 (da (b + 1 - 1 + 1) (leap a) - da (b + 1 - 1) (leap a)) = (v, r', true)) : dayL (yL a ++ 45 :: (padL (b + 1).toNat 2 ++ 45 :: S)) = ((a, b + 1, v), r', true) :=
  day_d F.y0 F.y1 (numL_i2 (by have := F.m0; omega) (by have := F.m1; omega) (by have := F.m0; omega) (by have := F.m1; omega)) h
theorem wr4 : parseF (isoYear a ++ p2 b ++ Str.ofString "-00") = none := by
  rw [parse_sim]
  simp only [Str.cps_append, Array.toList_append, cps_y, cps_p2, lit00, List.append_assoc, List.cons_append, List.nil_append]
  exact parse_wd (day_dF F n00)
theorem badT {C r : List Nat} (h : ∃ k, clockL C false = (k, r, true)) : parseL (LT a b c C) = none := by
  obtain ⟨k, h⟩ := h
  exact parse_clock F.day3 h
omit F in
theorem cps3 : (isoYear a ++ p2 b ++ p3 c).cps.toList = yL a ++ 45 :: (padL (b + 1).toNat 2 ++ 45 :: padL c.toNat 2) := by
  rw [Str.cps_append (isoYear a ++ p2 b) (p3 c), Array.toList_append, Str.cps_append (isoYear a) (p2 b), Array.toList_append, cps_y, cps_p2, cps_p3]
  simp only [List.append_assoc, List.cons_append]
omit F in
theorem lt3 {x : Str} {C : List Nat} (h : x.cps.toList = 84 :: C) : (isoYear a ++ p2 b ++ p3 c ++ x).cps.toList = LT a b c C := by
  rw [Str.cps_append, Array.toList_append, cps3, h]; simp only [LT, List.append_assoc, List.cons_append]
theorem wr5 : parseF (isoYear a ++ p2 b ++ p3 c ++ Str.ofString "T25:00") = none := by
  rw [parse_sim, lt3 litT25]; exact badT F (clock_h n25)
theorem wr6 : parseF (isoYear a ++ p2 b ++ p3 c ++ Str.ofString "T10:60") = none := by
  rw [parse_sim, lt3 litT1060]; exact badT F (clock_m n10 n60)
theorem hN {r : List Nat} : numL (padL d.toNat 2 ++ r) false 2 0 24 = (d, r, false) := numL_i2 F.h0 (by have := F.h1; omega) F.h0 (by have := F.h1; omega)
theorem iN {r : List Nat} : numL (padL e.toNat 2 ++ r) false 2 0 59 = (e, r, false) := numL_i2 F.i0 (by have := F.i1; omega) F.i0 F.i1
theorem sN {r : List Nat} : numL (padL f.toNat 2 ++ r) false 2 0 59 = (f, r, false) := numL_i2 F.s0 (by have := F.s1; omega) F.s0 F.s1
theorem wr7 : parseF (isoYear a ++ p2 b ++ p3 c ++ p4 d e ++ Str.ofString ":60") = none := by
  rw [parse_sim, Str.append_assoc, lt3 (C := padL d.toNat 2 ++ 58 :: (padL e.toNat 2 ++ [58, 54, 48])) (by rw [Str.cps_append, Array.toList_append, cps_p4, lit60]; simp only [List.append_assoc, List.cons_append])]
  exact badT F (clock_s (hN F) (iN F) n60)
theorem wr8 : parseF (isoYear a ++ p2 b ++ p3 c ++ p4 d e ++ p5 f ++ Str.ofString ".1") = none := by
  rw [parse_sim, Str.append_assoc, Str.append_assoc, lt3 (C := padL d.toNat 2 ++ 58 :: (padL e.toNat 2 ++ 58 :: (padL f.toNat 2 ++ [46, 49]))) (by rw [Str.cps_append (p4 d e) (p5 f ++ _), Array.toList_append, Str.cps_append (p5 f) _, Array.toList_append, cps_p4, cps_p5, litd1]; simp only [List.append_assoc, List.cons_append])]
  exact badT F (clock_u (hN F) (iN F) (sN F) (numL_short (by decide)))
theorem wr9 (hT : T = catS [isoYear a, p2 b, p3 c, p4 d e, p5 f, p6 g]) : parseF (T ++ Str.ofString "Zz") = none := by
  rw [parse_sim, Str.cps_append, Array.toList_append, cat6 hT, litZz, lt_app]
  exact parse_more F.day3 (time_Z (told6 F) [122]) (by simp)
theorem wr10 (hT : T = catS [isoYear a, p2 b, p3 c, p4 d e, p5 f, p6 g]) : parseF (T ++ Str.ofString "+0100") = none := by
  rw [parse_sim, Str.cps_append, Array.toList_append, cat6 hT, lit0100, lt_app]
  have ez : ∃ z r', zoneL [43, 48, 49, 48, 48] false = (z, r', true) := by
    exact ⟨_, _, zoneL_n (hasL_n (by decide)) needL_y n01z (needL_n (hasL_n (by decide))) numL_w⟩
  obtain ⟨z, r', ez⟩ := ez
  exact parse_zone F.day3 (told6 F _ (hasL_n (by decide)) (hasL_n (by decide))) (hasL_n (by decide)) (by simp) ez
theorem wr11 : parseF (isoYear a ++ p2 b ++ p3 c ++ Str.ofString "T10") = none := by
  rw [parse_sim, lt3 litT10]; exact badT F (clock_c n10 hasL_nil)
theorem wr12 : parseF (isoYear a ++ p2 b ++ p3 c ++ Str.ofString "t10:00") = none := by
  rw [parse_sim, Str.cps_append, Array.toList_append, cps3, litt10]
  simp only [List.append_assoc, List.cons_append]
  exact parse_more F.day3 (rest_none (hasL_n (by decide))) (by simp)
omit F in
theorem wr14 : parseF (Str.ofString "") = none := by
  rw [parse_sim, litnil]; exact parse_wd (day_y year_nil)
omit F in
theorem wr15 (x : Str) : parseF (Str.ofString " " ++ x) = none := by
  rw [parse_sim, Str.cps_append, Array.toList_append, litsp]
  exact parse_wd (day_y (year_nodig (by decide) (by decide) (by decide)))
theorem wr16 : parseF (isoYear a ++ p2 b ++ p3 c ++ Str.ofString "T24:01") = none := by
  rw [parse_sim, lt3 litT24]
  have : ∃ k, clockL [50, 52, 58, 48, 49] false = (k, [], true) := by
    exact ⟨_, clockL_1 n24 needL_y n0001 hasL_nil⟩
  exact badT F this
theorem wr17 : parseF (isoYear a ++ Str.ofString "-") = none := by
  rw [parse_sim, Str.cps_append, Array.toList_append, cps_y, sg_minus]
  exact parse_wd (day_m F.y0 F.y1 (numL_short (by decide)))
theorem wr18 : parseF (isoYear a ++ p2 b ++ p3 c ++ Str.ofString "T10:00+24:00") = none := by
  rw [parse_sim, lt3 litT1000]
  have ec : clockL [49, 48, 58, 48, 48, 43, 50, 52, 58, 48, 48] false = ((10, 0, 0, 0), [43, 50, 52, 58, 48, 48], false) := by
    exact clockL_1 n10 needL_y n0000 (hasL_n (by decide))
  have ez : ∃ z r', zoneL [43, 50, 52, 58, 48, 48] false = (z, r', true) := by
    exact ⟨_, _, zoneL_n (hasL_n (by decide)) needL_y n24z needL_w numL_w⟩
  obtain ⟨z, r', ez⟩ := ez
  exact parse_zone F.day3 ec (hasL_n (by decide)) (by simp) ez
omit F in
theorem slice_dl {x : Str} (h : 1 ≤ x.length) : (Txt.slice x none (some (-1))).cps.toList = x.cps.toList.dropLast := by
  have e : PySem.Builtin.Str.strSliceIndices none (some (-1)) 1 x.length = PySem.Builtin.Str.strSliceIndices (some 0) (some (0 + ((x.length - 1 : Nat) : Int))) 1 x.length := by
    obtain ⟨l, hl⟩ := Nat.exists_eq_add_of_le' h
    rw [hl]
    unfold PySem.Builtin.Str.strSliceIndices
    have h3 : ¬ ((0 : Int) + ((l + 1 - 1 : Nat) : Int) < 0) := by rw [Int.zero_add]; exact Int.not_lt.mpr (Int.natCast_nonneg _)
    have e1 : -1 + ((l + 1 : Nat) : Int) = 0 + ((l + 1 - 1 : Nat) : Int) := by rw [Int.zero_add]; show -1 + ((l : Int) + 1) = (l : Int); omega
    have e2 : max (0 : Int) (min (0 : Int) ((l + 1 : Nat) : Int)) = 0 := by rw [Int.min_eq_left (Int.natCast_nonneg _)]; rfl
    simp only [h3, if_false, show ((-1 : Int) < 0) = True from by simp, show ((0 : Int) < 0) = False from by simp, show ((1 : Int) > 0) = True from by simp, if_true, e1, e2]
  have e2 : Txt.slice x none (some (-1)) = Txt.slice x (some 0) (some (0 + ((x.length - 1 : Nat) : Int))) := by
    unfold Txt.slice; rw [e]
  rw [e2, slice_list (Int.le_refl 0) (Int.natCast_nonneg _) (Int.natCast_nonneg _), List.dropLast_eq_take, len_list]
  simp
theorem wr13 : parseF (Txt.slice (isoYear a) none (some (-1))) = none := by
  have hl : 1 ≤ (isoYear a).length := by rw [← len_list, cps_y]; have := yL_len F.y0 F.y1; omega
  rw [parse_sim, slice_dl hl, cps_y]
  obtain ⟨v, r, h⟩ := year_cut F.y0 F.y1
  exact parse_wd (day_y h)
end
theorem la {x y : Str} {i j : Nat} (h : x.length ≤ i) (g : y.length ≤ j) (hk : i + j ≤ 100) : (x ++ y).length ≤ 100 := by rw [Str.length_append]; omega
theorem la2 {x y : Str} {i j k : Nat} (h : x.length ≤ i) (g : y.length ≤ j) (hk : i + j ≤ k) : (x ++ y).length ≤ k := by rw [Str.length_append]; omega
section
variable {a b c d e f g : Int} (F : Fld a b c d e f g)
include F
theorem base1 : (isoYear a).length ≤ 7 := (pieces_len F).1
theorem base2 : (isoYear a ++ p2 b).length ≤ 10 := la2 (pieces_len F).1 (pieces_len F).2.1 (by decide)
theorem base3 : (isoYear a ++ p2 b ++ p3 c).length ≤ 13 := la2 (base2 F) (pieces_len F).2.2.1 (by decide)
theorem base4 : (isoYear a ++ p2 b ++ p3 c ++ p4 d e).length ≤ 19 := la2 (base3 F) (pieces_len F).2.2.2.1 (by decide)
theorem base5 : (isoYear a ++ p2 b ++ p3 c ++ p4 d e ++ p5 f).length ≤ 22 := la2 (base4 F) (pieces_len F).2.2.2.2.1 (by decide)
theorem base_cut : (Txt.slice (isoYear a) none (some (-1))).length ≤ 100 := by
  have hl : 1 ≤ (isoYear a).length := by rw [← len_list, cps_y]; have := yL_len F.y0 F.y1; omega
  have := base1 F
  rw [← len_list, slice_dl hl, List.length_dropLast, len_list]; omega
end
theorem k13 : (Str.ofString "-13").length ≤ 12 := by decide +kernel
theorem k00 : (Str.ofString "-00").length ≤ 12 := by decide +kernel
theorem k0230 : (Str.ofString "-02-30").length ≤ 12 := by decide +kernel
theorem kT25 : (Str.ofString "T25:00").length ≤ 12 := by decide +kernel
theorem kT1060 : (Str.ofString "T10:60").length ≤ 12 := by decide +kernel
theorem k60 : (Str.ofString ":60").length ≤ 12 := by decide +kernel
theorem kd1 : (Str.ofString ".1").length ≤ 12 := by decide +kernel
theorem kZz : (Str.ofString "Zz").length ≤ 12 := by decide +kernel
theorem k0100 : (Str.ofString "+0100").length ≤ 12 := by decide +kernel
theorem kT10 : (Str.ofString "T10").length ≤ 12 := by decide +kernel
theorem kt10 : (Str.ofString "t10:00").length ≤ 12 := by decide +kernel
theorem knil : (Str.ofString "").length ≤ 100 := by decide +kernel
theorem ksp : (Str.ofString " ").length ≤ 12 := by decide +kernel
theorem kT24 : (Str.ofString "T24:01").length ≤ 12 := by decide +kernel
theorem km : (Str.ofString "-").length ≤ 12 := by decide +kernel
theorem kT1000 : (Str.ofString "T10:00+24:00").length ≤ 12 := by decide +kernel
/-- texts that are read as nothing -/
noncomputable def BadAll : List Value → Prop
  | [] => True
  | v :: r => (∃ y t, v = .str y t ∧ y.length ≤ 100 ∧ parseF y = none) ∧ BadAll r
theorem BadAll.get : ∀ {vs : List Value}, BadAll vs → ∀ k : Nat, k < vs.length → ∃ y t, vs[k]? = some (.str y t) ∧ y.length ≤ 100 ∧ parseF y = none
  | v :: r, h, 0, _ => by obtain ⟨⟨y, t, e, h1, h2⟩, _⟩ := h; exact ⟨y, t, by rw [e]; rfl, h1, h2⟩
  | v :: r, h, k + 1, hk => by
    obtain ⟨y, t, e, h1, h2⟩ := BadAll.get h.2 k (by simpa using hk)
    exact ⟨y, t, by simpa using e, h1, h2⟩
section
variable {prog : Program} {w : World} {A : Around} {E : Value → Shared → Prop} {s : Shared} {h₀ : Heap} {L : Addr} {m : Str → Option Value} {news : List (Addr × Obj)}
noncomputable def BadPost {h : Heap} (_ : Fr h₀ L h m) (_ : News h₀ L h news) (s : Shared) (v : Value) (s' : Shared) : Prop :=
  ∃ D h' tk' vs, v = .ref D ∧ s' = { s with heap := h', toks := tk' } ∧ Fr h₀ L h' m ∧ News h₀ L h' ((D, W.listOf vs.toArray 0) :: news) ∧ AllLt D news ∧ vs.length = 18 ∧ BadAll vs
theorem cut_bad {h : Heap} (F : Fr h₀ L h m) (N : News h₀ L h news) {M : Model} {t : Sem Value} {Q : Value → Shared → Prop} (h1 : wpAny M A t (BadPost F N s) E s)
    (h2 : ∀ D h' tk' vs, Fr h₀ L h' m → News h₀ L h' ((D, W.listOf vs.toArray 0) :: news) → AllLt D news → vs.length = 18 → BadAll vs → Q (.ref D) { s with heap := h', toks := tk' }) : wpAny M A t Q E s :=
  wpAny_mono h1 (fun v s' ⟨D, h', tk', vs, e1, e2, F', N', l, hl, hb⟩ => by subst e1 e2; exact h2 D h' tk' vs F' N' l hl hb) fun _ _ h => h
theorem len_bad {D : Addr} {vs : List Value} {n : Nat} {Q : Value → Shared → Prop} (N : News h₀ L s.heap news) (hm : (D, W.listOf vs.toArray n) ∈ news) (hl : vs.length = 18) (h : ∀ t tk, Q (.int 18 t) { s with toks := tk }) :
    wpAny (model prog w) A (call (.builtin "len") [.ref D]) Q E s := by
  have e : ((vs.toArray.size : Nat) : Int) = 18 := by rw [List.size_toArray, hl]; rfl
  refine PyProof.Rows.len_list (News.isList N hm) (by omega) ?_
  rw [e]; exact h _ _
theorem pick_bad {D : Addr} {vs : List Value} {n : Nat} {value slice : PySem.Expr} {k : Int} {u : Tok} {Q : Value → Shared → Prop} (N : News h₀ L s.heap news) (hm : (D, W.listOf vs.toArray n) ∈ news) (hl : vs.length = 18) (hb : BadAll vs) (h0 : 0 ≤ k) (h1 : k < 18)
    (h : ∀ y t, y.length ≤ 100 → parseF y = none → Q (.str y t) s)
    (hs : subscripted slice false (.ref D) (.int k u) = operate [.ref D, .int k u] (getItem (.ref D) (.int k u)) := by with_unfolding_all rfl) :
    wpAny (model prog w) A (subscriptTail value slice (.ref D) (.int k u)) Q E s := by
  obtain ⟨y, t, e, l, hy⟩ := hb.get k.toNat (by omega)
  have hL : s.heap.IsList D vs.toArray := News.isList N hm
  exact tail_any hL.typeIs slot_list_getitem.lookup (wpAny_getItem_list hL h0 (by omega) (by simpa using e) (h y t l hy)) hs
end
theorem BadAll.nil : BadAll [] := trivial
theorem BadAll.cons {y : Str} {t : Tok} {r : List Value} (h1 : y.length ≤ 100) (h2 : parseF y = none) (h : BadAll r) : BadAll (.str y t :: r) := ⟨⟨y, t, rfl, h1, h2⟩, h⟩

section
set_option linter.unusedVariables false
set_option linter.unusedSimpArgs false
variable {w : World} {loose : List Str} {mean : ExcName → Option Value} {mg mb : Str → Option Value} {news : List (Addr × Obj)}

theorem parse_none_ok (x : Str) (t : Tok) (hx : x.length ≤ 100) (e : parseF x = none) : Clm w loose mean mg mb 9 309 [.str x t] news (RetV news fun _ => .none) := by
  intro dp un gd cn cs a ccd cl outer A₀ base h₀ L m s Q E B F X N T hk hdp hun hret
  exact parse_iso_ok x t hx dp un gd cn cs a ccd cl outer A₀ base h₀ L m s Q E B F X N T hk hdp hun ⟨fun _ h' tk' F N => hret 0 h' tk' F N, fun i e2 => by rw [e] at e2; cases e2⟩
section
set_option maxHeartbeats 4000000 in
set_option pp.deepTerms false in
theorem law_wrF_ok (a b c d e f g : Int) (t₁ t₂ t₃ t₄ t₅ t₆ t₇ : Tok) (q : Addr) (F : Fld a b c d e f g) (k : Int) (tk : Tok) : Clm w loose mean mg mb 11 379 [.ref q, .int k tk] ((q, tup7 a b c d e f g t₁ t₂ t₃ t₄ t₅ t₆ t₇) :: news) (RetV ((q, tup7 a b c d e f g t₁ t₂ t₃ t₄ t₅ t₆ t₇) :: news) fun _ => .bool true) := by
  w_on
  w_strict (
    k_with_none
    k_with "sub" => first | exact sub_self | (refine sub_cons ?_; k_extra "sub")
    k_with "compareOp In none ref" => (k_here; k_dflt (first | (refine' none_in_tup (b := false) ?N ?r ?c ?b ?u ?_; (case N => exact News.isTup (by k_asm) (by k_mem)); (case r => rfl); (case c => rfl); (case b => rfl); (case u => ktr_units); k_whole) | (refine' none_in_tup (b := true) ?N ?r ?c ?b ?u ?_; (case N => exact News.isTup (by k_asm) (by k_mem)); (case r => rfl); (case c => rfl); (case b => rfl); (case u => ktr_units); k_whole)))
    k_with "subc" => first | exact sub_self | (refine sub_both ?_; k_extra "subc") | (refine sub_cons ?_; k_extra "subc")
    k_with "low" => first | assumption | exact allLt_of (by assumption) | exact low1 (by assumption) | exact low2 (by assumption) | exact low3 (by assumption) | exact low4 (by assumption)
    k_with "mem" => first | exact sub_self | (k_extra "sub") | (refine List.forall_mem_cons.mpr ⟨?_, ?_⟩; k_mem; k_extra "mem")
    k_with "ne" => first | assumption | exact List.forall_mem_nil _ | exact ne_of_low (by k_extra "low") | (refine' List.forall_mem_cons.mpr ⟨?a, ?b⟩; (case a => k_ne); (case b => k_extra "ne"))
    k_with "pull" => first | k_asm | exact pull1 (by k_asm) | exact pull2 (by k_asm) | exact pull3 (by k_asm) | exact pull4 (by k_asm)
    k_with "memq" => first | with_reducible assumption | exact List.Mem.head _ | (refine' List.Mem.tail _ ?_; k_extra "memq")
    k_with "call builtin:str.join" => (k_dflt (refine join_cat (by k_asm) (by k_extra "memq") (by kct_strs) (by exact Nat.le_of_ble_eq_true rfl) (by (simp only [List.map_cons, List.map_nil, List.sum_cons, List.sum_nil]; (exact Nat.le_trans (by repeat (first | with_reducible (first | exact PL1 | exact PL2 | exact PL3 | exact PL4 | exact PL5 | exact PL6) | exact Nat.le_of_eq (show _ = 1 from rfl) | exact Nat.le_refl 0 | (with_reducible apply Nat.add_le_add) | (apply len_cat))) (by exact Nat.le_of_ble_eq_true rfl)))) ?_); intro T9 t9 k9 e9 l9)
    k_with "binaryOp Add str str" => (dsimp only; walk_at "binaryOp Add str str")
    k_with "eval List" => ((fail_if_success with_reducible show wpAny _ _ _ (BadPost _ _ _) _ _); (rename Fr _ _ _ _ => lF'); (rename News _ _ _ _ => lN'); (refine cut_bad lF' lN' ?_ ?_); rotate_left; (clear lF' lN'; intro D9 h9 tk9 vs9 F9 N9 l9 e9 b9; (try simp only [AllLt, and_true] at l9)); rotate_right; (all_goals ((try dsimp only); (try k_sweep); (try k_fold))))
    k_with "newList" => ((k_dflt (refine' newList_K ?k1 ?k2 ?_; (case k1 => k_asm); (case k2 => k_asm))); (intro l9 h9 F9 N9 b9); (try dsimp only); (k_dflt (show BadPost _ _ _ _ _)); (unfold BadPost); (refine ⟨_, _, _, _, rfl, rfl, F9, ledger_sub N9 (sub_both (by k_extra "sub")), allLt_of b9, rfl, ?_⟩); exact (BadAll.cons (la (base1 (by with_reducible assumption)) k13 (by decide)) (wr1 (by with_reducible assumption)) (BadAll.cons (la (base1 (by with_reducible assumption)) k00 (by decide)) (wr2 (by with_reducible assumption)) (BadAll.cons (la (base1 (by with_reducible assumption)) k0230 (by decide)) (wr3 (by with_reducible assumption)) (BadAll.cons (la (base2 (by with_reducible assumption)) k00 (by decide)) (wr4 (by with_reducible assumption)) (BadAll.cons (la (base3 (by with_reducible assumption)) kT25 (by decide)) (wr5 (by with_reducible assumption)) (BadAll.cons (la (base3 (by with_reducible assumption)) kT1060 (by decide)) (wr6 (by with_reducible assumption)) (BadAll.cons (la (base4 (by with_reducible assumption)) k60 (by decide)) (wr7 (by with_reducible assumption)) (BadAll.cons (la (base5 (by with_reducible assumption)) kd1 (by decide)) (wr8 (by with_reducible assumption)) (BadAll.cons (la (by with_reducible assumption) kZz (by decide)) (wr9 (by with_reducible assumption) (by with_reducible assumption)) (BadAll.cons (la (by with_reducible assumption) k0100 (by decide)) (wr10 (by with_reducible assumption) (by with_reducible assumption)) (BadAll.cons (la (base3 (by with_reducible assumption)) kT10 (by decide)) (wr11 (by with_reducible assumption)) (BadAll.cons (la (base3 (by with_reducible assumption)) kt10 (by decide)) (wr12 (by with_reducible assumption)) (BadAll.cons (base_cut (by with_reducible assumption)) (wr13 (by with_reducible assumption)) (BadAll.cons (knil) (wr14) (BadAll.cons (la ksp (by with_reducible assumption) (by decide)) (wr15 _) (BadAll.cons (la (base3 (by with_reducible assumption)) kT24 (by decide)) (wr16 (by with_reducible assumption)) (BadAll.cons (la (base1 (by with_reducible assumption)) km (by decide)) (wr17 (by with_reducible assumption)) (BadAll.cons (la (base3 (by with_reducible assumption)) kT1000 (by decide)) (wr18 (by with_reducible assumption)) BadAll.nil)))))))))))))))))))
    k_with "call builtin:len" => (k_dflt (refine' len_bad ?N ?m ?l ?_; (case N => k_asm); (case m => k_extra "memq"); (case l => assumption)); intro t9 tk9)
    k_with "subscriptTail Name BinOp ref int" => (k_dflt (refine' pick_bad ?N ?m ?l ?b ?h0 ?h1 ?_; (case N => k_asm); (case m => k_extra "memq"); (case l => assumption); (case b => assumption); (case h0 => exact (fmod_bnd _ (by decide)).1); (case h1 => exact (fmod_bnd _ (by decide)).2)); intro y9 t9 l9 e9)
    k_with "call ref" => (first
        | ((with_reducible show wpAny _ _ (call (Value.ref 351) _) _ _ _); k_dflt (refine' Clm.use (law_piecesF_ok _ _ _ _ _ _ _ _ _ _ _ _ _ _ _ ?p0 ?p1) ?u1 ?u2 ?u3 ?u4 ?u5 ?u6 ?u7 ?u8 ?_; (case u1 => k_asm); (case u2 => k_asm); (case u3 => k_asm); (case u4 => k_asm); (case u5 => k_asm); (case u6 => first | exact rfl | assumption); (case u7 => first | exact room1 hdp (Nat.le_of_ble_eq_true rfl) | ktr_room); (case u8 => first | exact units1 hun (Nat.le_of_ble_eq_true rfl) | ktr_units); (case p0 => k_extra "memq"); (case p1 => with_reducible assumption)); intro q9 u1 u2 u3 u4 u5 u6 h9 tk9 z1 z2 z3 z4 z5 z6 F9 N9 l9; (try simp only [AllLt, and_true] at l9); (all_goals ((try dsimp only); (try k_sweep); (try k_fold))))
        | ((with_reducible show wpAny _ _ (call (Value.ref 309) _) _ _ _); k_dflt (refine' Clm.use (parse_none_ok _ _ ?p0 ?p1) ?u1 ?u2 ?u3 ?u4 ?u5 ?u6 ?u7 ?u8 ?_; (case u1 => k_asm); (case u2 => k_asm); (case u3 => k_asm); (case u4 => k_asm); (case u5 => k_asm); (case u6 => first | exact rfl | assumption); (case u7 => first | exact room1 hdp (Nat.le_of_ble_eq_true rfl) | ktr_room); (case u8 => first | exact units1 hun (Nat.le_of_ble_eq_true rfl) | ktr_units); (case p0 => with_reducible assumption); (case p1 => with_reducible assumption)); intro t9 h9 tk9 F9 N9; (all_goals ((try dsimp only); (try k_sweep); (try k_fold)))))
    intro dp un gd cn cs a9 ccd cl outer A₀ base h₀ L m s Q E B F9 X N T hk hdp hun hret
    obtain ⟨PL1, PL2, PL3, PL4, PL5, PL6⟩ := pieces_len F
    refine wpAny_call ?_
    k_dflt cell_enter
    k_steps
    all_goals (refine' endB hret ?e1 ?e2 ?e3 ?e4; (case e2 => k_asm); (case e3 => k_asm); (case e4 => k_extra "mem"); (case e1 => first | rfl | simp)))
end

theorem law_wr_ok (n k : Int) (t : Tok) (t₁ t₂ t₃ t₄ t₅ t₆ t₇ : Tok) (q : Addr) (hq : (q, tup7 (Yr n) (Mo n) (Dt n) (Hr n) (Mi n) (Se n) (Ms n) t₁ t₂ t₃ t₄ t₅ t₆ t₇) ∈ news) (h0 : -8640000000000000 ≤ n) (h1 : n ≤ 8640000000000000) : Clm w loose mean mg mb 11 379 [.ref q, .int k t] news (RetV news fun _ => .bool true) :=
  Clm.open1 hq (law_wrF_ok _ _ _ _ _ _ _ _ _ _ _ _ _ _ q (fld_of h0 h1) k t)
end

section
set_option linter.unusedVariables false
variable {w : World} {loose : List Str} {mean : ExcName → Option Value} {mg mb : Str → Option Value} {news : List (Addr × Obj)}

theorem TurnC.intro {h₀ h' : Heap} {L : Addr} {m' : Str → Option Value} {news l : List (Addr × Obj)} {Q : Flow → Shared → Prop} {s : Shared} {tk' : Nat} (F : Fr h₀ L h' m') (N : News h₀ L h' l) (hs : ∀ p ∈ news, p ∈ l) : TurnC h₀ L news Q s .next { s with heap := h', toks := tk' } :=
  ⟨_, _, _, rfl, F, ledger_sub N hs⟩
theorem NoPost.intro {h₀ h h' : Heap} {L : Addr} {m : Str → Option Value} {news l : List (Addr × Obj)} {F0 : Fr h₀ L h m} {N0 : News h₀ L h news} {s : Shared} {tk' : Nat} (F : Fr h₀ L h' m) (N : News h₀ L h' l) (hs : ∀ p ∈ news, p ∈ l) : NoPost F0 N0 s false { s with heap := h', toks := tk' } :=
  ⟨rfl, _, _, rfl, F, ledger_sub N hs⟩
theorem pick6a (x : Int) : 1 ≤ 1 + x.fmod 6 := by have := (fmod_bnd x (show (0:Int) < 6 by decide)).1; omega
theorem pick6b (x : Int) : 1 + x.fmod 6 ≤ 6 := by have := (fmod_bnd x (show (0:Int) < 6 by decide)).2; omega
theorem near_lo {x k c : Int} (hk : k = 17280000000000001) (hc : c = 8640000000000000) : -8640000000000000 ≤ x.fmod k - c := by subst hk hc; have := (fmod_bnd x (show (0:Int) < 17280000000000001 by decide)).1; omega
theorem near_hi {x k c : Int} (hk : k = 17280000000000001) (hc : c = 8640000000000000) : x.fmod k - c ≤ 8640000000000000 := by subst hk hc; have := (fmod_bnd x (show (0:Int) < 17280000000000001 by decide)).2; omega
theorem pick_zz {prog : Program} {A : Around} {E : Value → Shared → Prop} {s : Shared} {h₀ : Heap} {L D : Addr} {vs : List Value} {n : Nat} {value slice : PySem.Expr} {k : Int} {u : Tok} {Q : Value → Shared → Prop} (N : News h₀ L s.heap news) (hm : (D, W.listOf vs.toArray n) ∈ news) (hz : ZAll vs) (h0 : 0 ≤ k) (h1 : k < vs.length) (hl : vs.length ≤ 100)
    (h : ∀ v, zOk v → Q v s)
    (hs : subscripted slice false (.ref D) (.int k u) = operate [.ref D, .int k u] (getItem (.ref D) (.int k u)) := by with_unfolding_all rfl) :
    wpAny (model prog w) A (subscriptTail value slice (.ref D) (.int k u)) Q E s := by
  obtain ⟨v, e, hv⟩ := hz.get k.toNat (by omega)
  have hL : s.heap.IsList D vs.toArray := News.isList N hm
  exact tail_any hL.typeIs slot_list_getitem.lookup (wpAny_getItem_list hL h0 (by omega) (by simpa using e) (h v hv)) hs
theorem clip_near_ok (n : Int) (t : Tok) (h0 : -8640000000000000 ≤ n) (h1 : n ≤ 8640000000000000) : Clm w loose mean mg mb 1 162 [.int n t] news (RetV news fun t => .int n t) := by
  intro dp un gd cn cs a ccd cl outer A₀ base h₀ L m s Q E B F X N T hk hdp hun hret
  exact time_clip_ok n t dp un gd cn cs a ccd cl outer A₀ base h₀ L m s Q E B F X N T hk hdp hun ⟨fun e => (by rw [clip_nearF h0 h1] at e; cases e), fun i e t h' tk' F N => (by rw [clip_nearF h0 h1] at e; cases e; exact hret t h' tk' F N)⟩
theorem clip_far_ok (n : Int) (t : Tok) (h : n < -8640000000000000) : Clm w loose mean mg mb 1 162 [.int n t] news (RetV news fun _ => .none) := by
  intro dp un gd cn cs a ccd cl outer A₀ base h₀ L m s Q E B F X N T hk hdp hun hret
  exact time_clip_ok n t dp un gd cn cs a ccd cl outer A₀ base h₀ L m s Q E B F X N T hk hdp hun ⟨fun e h' tk' F N => hret 0 h' tk' F N, fun i e t h' tk' F N => (by rw [clip_farF h] at e; cases e)⟩
theorem parse_near_ok (n : Int) (t : Tok) (h0 : -8640000000000000 ≤ n) (h1 : n ≤ 8640000000000000) : Clm w loose mean mg mb 9 309 [.str (isoText n) t] news (RetV news fun t => .int n t) := by
  intro dp un gd cn cs a ccd cl outer A₀ base h₀ L m s Q E B F X N T hk hdp hun hret
  exact parse_iso_ok (isoText n) t (iso_len h0 h1) dp un gd cn cs a ccd cl outer A₀ base h₀ L m s Q E B F X N T hk hdp hun ⟨fun e => (by rw [parse_isoText h0 h1] at e; cases e), fun i e t h' tk' F N => (by rw [parse_isoText h0 h1] at e; cases e; exact hret t h' tk' F N)⟩
theorem tof_near_ok (n : Int) (t₁ t₂ t₃ t₄ t₅ t₆ t₇ : Tok) (q : Addr) (hq : (q, tup7 (Yr n) (Mo n) (Dt n) (Hr n) (Mi n) (Se n) (Ms n) t₁ t₂ t₃ t₄ t₅ t₆ t₇) ∈ news) : Clm w loose mean mg mb 4 169 [.ref q] news (RetV news fun t => .int n t) := by
  have h := time_of_fields_ok (w := w) (loose := loose) (mean := mean) (mg := mg) (mb := mb) _ _ _ _ _ _ _ _ _ _ _ _ _ _ q hq
  rw [tof_eq] at h
  exact h
theorem law_sumD_ok (a b c d e f g : Int) (t₁ t₂ t₃ t₄ t₅ t₆ t₇ : Tok) (q : Addr) (hq : (q, tup7 a b c d e f g t₁ t₂ t₃ t₄ t₅ t₆ t₇) ∈ news) : Clm w loose mean mg mb 2 358 [.ref q] news (RetV news fun t => .int (mkdate (mkday a b c) (mktime d e f g)) t) :=
  law_sum_ok _ _ _ _ _ _ _ _ _ _ _ _ _ _ q hq
theorem law_pieces_n_ok (n : Int) (t₁ t₂ t₃ t₄ t₅ t₆ t₇ : Tok) (q : Addr) (hq : (q, tup7 (Yr n) (Mo n) (Dt n) (Hr n) (Mi n) (Se n) (Ms n) t₁ t₂ t₃ t₄ t₅ t₆ t₇) ∈ news) (h0 : -8640000000000000 ≤ n) (h1 : n ≤ 8640000000000000) : Clm w loose mean mg mb 3 351 [.ref q] news (RetP news (Yr n) (Mo n) (Dt n) (Hr n) (Mi n) (Se n) (Ms n)) :=
  law_piecesF_ok _ _ _ _ _ _ _ _ _ _ _ _ _ _ q hq (fld_of h0 h1)
end
section
theorem lawtop.tw3900778236709352535 : True := trivial
set_option Elab.async true in
set_option maxHeartbeats 4000000 in
set_option pp.deepTerms false in
theorem lawtop : PySem.Challenge.rw_nt0351_01.Holds := by
  refine go_on pre rfl left ?_
  w_on
  w_strict (
    k_with_none
    k_with "sub" => first | exact sub_self | (refine sub_cons ?_; k_extra "sub")
    k_with "compareOp In none ref" => (k_here; k_dflt (first | (refine' none_in_tup (b := false) ?N ?r ?c ?b ?u ?_; (case N => exact News.isTup (by k_asm) (by k_mem)); (case r => rfl); (case c => rfl); (case b => rfl); (case u => ktr_units); k_whole) | (refine' none_in_tup (b := true) ?N ?r ?c ?b ?u ?_; (case N => exact News.isTup (by k_asm) (by k_mem)); (case r => rfl); (case c => rfl); (case b => rfl); (case u => ktr_units); k_whole)))
    k_with "subc" => first | exact sub_self | (refine sub_both ?_; k_extra "subc") | (refine sub_cons ?_; k_extra "subc")
    k_with "low" => first | assumption | exact allLt_of (by assumption) | exact low1 (by assumption) | exact low2 (by assumption) | exact low3 (by assumption) | exact low4 (by assumption)
    k_with "mem" => first | exact sub_self | (k_extra "sub") | (refine List.forall_mem_cons.mpr ⟨?_, ?_⟩; k_mem; k_extra "mem")
    k_with "ne" => first | assumption | exact List.forall_mem_nil _ | exact ne_of_low (by k_extra "low") | (refine' List.forall_mem_cons.mpr ⟨?a, ?b⟩; (case a => k_ne); (case b => k_extra "ne"))
    k_with "pull" => first | k_asm | exact pull1 (by k_asm) | exact pull2 (by k_asm) | exact pull3 (by k_asm) | exact pull4 (by k_asm)
    k_with "memq" => first | with_reducible assumption | exact List.Mem.head _ | (refine' List.Mem.tail _ ?_; k_extra "memq")
    k_with "exec For Name Call cons nil" => (k_here; (k_dflt (refine' For_cell ?_)); (try dsimp only))
    k_with "pyIter ref" => ((with_reducible show wpAny _ _ (pyIter (Value.ref _)) (fun it s₂ => codeAny _ _ (Code.forLoop _ _ _ _ _) _ _) _ _); (rename IsRange _ _ _ _ _ _ _ _ => rgX); (rename Fr _ _ _ _ => lF'); (rename News _ _ _ _ => lN'); (k_dflt (refine' iter_cellB 2 (by rfl) (by rfl) rgX (by decide) (by decide) lF' lN' ?y1 (by rfl) (by rfl) (by rfl) ?y2 ?_ ?_)); (case y1 => k_all); (case y2 => assumption); (clear lF' lN'); rotate_left; (intro o9 u9 h9 tk9 F9 N9); rotate_right; (intro i9 I9 it9 o9 u9 t9 h9 tk9 b1 b2 c9 l9 F9 N9); (try simp only [AllLt, and_true] at l9); (all_goals ((try dsimp only); (try k_sweep); (try k_fold))))
    k_with "AbsB" => (refine ⟨_, _, _, rfl, ?_, ?_, rfl⟩; (all_goals first | exact near_lo (by decide) (by decide) | exact near_hi (by decide) (by decide)))
    k_with "subscriptTail Name Constant ref int" => ((with_reducible show wpAny _ _ (subscriptTail (Expr.Name _ _) (Expr.Constant _ _ _) (Value.ref _) (Value.int _ _)) _ _ _); (k_dflt (first | ((with_reducible show wpAny _ _ (subscriptTail (Expr.Name (Str.ofString "cells") _) _ _ _) _ _ _); (refine' pick_abs ?n ?m ?c ?d ?i ?z ?l ?f ?_); (case n => k_asm); (case m => k_mem); (case c => exact rfl); (case d => exact rfl); (case i => assumption); (case z => decide); (case l => exact map_len (by decide)); (case f => decide); intro i9 t9) | (refine' pick_tup 0 ?n ?m ?k ?x ?f ?_; (case k => exact rfl); (case n => k_asm); (case m => k_mem); (case x => exact rfl); (case f => decide)) | (refine' pick_tup 1 ?n ?m ?k ?x ?f ?_; (case k => exact rfl); (case n => k_asm); (case m => k_mem); (case x => exact rfl); (case f => decide)) | (refine' pick_tup 2 ?n ?m ?k ?x ?f ?_; (case k => exact rfl); (case n => k_asm); (case m => k_mem); (case x => exact rfl); (case f => decide)) | (refine' pick_tup 3 ?n ?m ?k ?x ?f ?_; (case k => exact rfl); (case n => k_asm); (case m => k_mem); (case x => exact rfl); (case f => decide)))))
    k_with "eval BinOp" => ((with_reducible show wpAny _ _ (eval (Expr.BinOp (Expr.BinOp (Expr.Name (Str.ofString "time") _) _ _ _) _ _ _) _) _ _ _); (fail_if_success with_reducible show wpAny _ _ _ (AbsB _ _ _) _ _); (refine abs_bnd (-8640000000000000) 8640000000000000 ?_ ?_); rotate_left; (intro i9 t9 tk9 b3 b4); rotate_right; (all_goals ((try dsimp only))))
    k_with "isTrue Compare" => ((with_reducible show wpAny _ _ (PySem.isTrue (Expr.Compare (Expr.Call (Expr.Name (Str.ofString "time_clip") _) _ _ _) [_] [Expr.Call _ _ _ _] _) _ _) _ _ _); (fail_if_success with_reducible show wpAny _ _ _ (NoPost _ _ _) _ _); (rename Fr _ _ _ _ => lF'); (rename News _ _ _ _ => lN'); (refine cut_no lF' lN' ?_ ?_); rotate_left; (clear lF' lN'; intro h9 tk9 F9 N9); rotate_right; (all_goals ((try dsimp only); (try k_sweep))))
    k_with "AbsI" => exact ⟨_, _, _, rfl, rfl⟩
    k_with "eval IfExp" => ((fail_if_success with_reducible show wpAny _ _ _ (AbsI _) _ _); (refine abs_int ?_ ?_); rotate_left; (intro i9 t9 tk9); rotate_right; (all_goals ((try dsimp only))))
    k_with "NoPost" => (k_dflt (refine' NoPost.intro ?F ?N ?s; (case F => k_asm); (case N => k_asm); (case s => k_extra "sub")))
    k_with "TurnC" => (k_dflt (refine' TurnC.intro ?F ?N ?s; (case F => k_asm); (case N => k_asm); (case s => k_extra "mem")))
    k_with "compareOp NotEq int int" => (with_reducible refine ne_same ?_)
    k_with "compareOp NotEq str str" => (refine ne_same_str (iso_join (by with_reducible assumption)) ?_)
    k_with "call builtin:str.join" => (k_dflt (refine join_cat (by k_asm) (by k_mem) (by kct_strs) (by exact Nat.le_of_ble_eq_true rfl) (by (simp only [List.map_cons, List.map_nil, List.sum_cons, List.sum_nil]; obtain ⟨PL1, PL2, PL3, PL4, PL5, PL6⟩ := pieces_len (fld_of (by with_reducible assumption) (by with_reducible assumption)); (exact Nat.le_trans (by repeat (first | with_reducible (first | exact PL1 | exact PL2 | exact PL3 | exact PL4 | exact PL5 | exact PL6) | exact Nat.le_of_eq (show _ = 1 from rfl) | exact Nat.le_refl 0 | (with_reducible apply Nat.add_le_add) | (apply len_cat))) (by exact Nat.le_of_ble_eq_true rfl)))) ?_); intro T9 t9 k9 e9 l9)
    k_with "subscriptTail" => ((with_reducible show wpAny _ _ (subscriptTail (Expr.List _ _) _ (Value.ref _) (Value.int _ _)) _ _ _); k_dflt (refine' pick_zz ?N ?m ?z ?h0 ?h1 ?l ?_; (case N => k_asm); (case m => k_mem); (case z => exact ZAll.n (ZAll.i (by decide) (by decide) (ZAll.i (by decide) (by decide) (ZAll.i (by decide) (by decide) (ZAll.i (by decide) (by decide) (ZAll.i (by decide) (by decide) ZAll.nil)))))); (case h0 => exact (fmod_bnd _ (by decide)).1); (case h1 => exact (fmod_bnd _ (by decide)).2); (case l => exact Nat.le_of_ble_eq_true rfl)); intro v9 z9)
    k_with "call ref" => (first
        | ((with_reducible show wpAny _ _ (call (Value.ref 379) _) _ _ _); k_dflt (refine' Clm.use (law_wr_ok _ _ _ _ _ _ _ _ _ _ _ ?p0 ?p1 ?p2) ?u1 ?u2 ?u3 ?u4 ?u5 ?u6 ?u7 ?u8 ?_; (case u2 => k_asm); (case u1 => k_asm); (case u3 => k_asm); (case u4 => k_asm); (case u5 => k_asm); (case u6 => first | exact rfl | assumption); (case u7 => first | exact room1 hdp (Nat.le_of_ble_eq_true rfl) | ktr_room); (case u8 => first | exact units1 hun (Nat.le_of_ble_eq_true rfl) | ktr_units); (case p0 => k_mem); (case p1 => with_reducible assumption); (case p2 => with_reducible assumption)); intro t9 h9 tk9 F9 N9; (all_goals ((try dsimp only); (try k_sweep); (try k_fold))))
        | ((with_reducible show wpAny _ _ (call (Value.ref 372) _) _ _ _); k_dflt (refine' Clm.use (law_sr_ok _ _ _ _ _ _ _ _ _ _ _ _ ?p0 ?p1 ?p2 ?p3 ?p4 ?p5) ?u1 ?u2 ?u3 ?u4 ?u5 ?u6 ?u7 ?u8 ?_; (case u2 => k_asm); (case u1 => k_asm); (case u3 => k_asm); (case u4 => k_asm); (case u5 => k_asm); (case u6 => first | exact rfl | assumption); (case u7 => first | exact room1 hdp (Nat.le_of_ble_eq_true rfl) | ktr_room); (case u8 => first | exact units1 hun (Nat.le_of_ble_eq_true rfl) | ktr_units); (case p0 => k_mem); (case p1 => with_reducible assumption); (case p2 => with_reducible assumption); (case p3 => exact pick6a _); (case p4 => exact pick6b _); (case p5 => with_reducible assumption)); intro t9 h9 tk9 F9 N9; (all_goals ((try dsimp only); (try k_sweep); (try k_fold))))
        | ((with_reducible show wpAny _ _ (call (Value.ref 309) _) _ _ _); k_dflt (refine' Clm.use (parse_near_ok _ _ ?p0 ?p1) ?u1 ?u2 ?u3 ?u4 ?u5 ?u6 ?u7 ?u8 ?_; (case u2 => k_asm); (case u1 => k_asm); (case u3 => k_asm); (case u4 => k_asm); (case u5 => k_asm); (case u6 => first | exact rfl | assumption); (case u7 => first | exact room1 hdp (Nat.le_of_ble_eq_true rfl) | ktr_room); (case u8 => first | exact units1 hun (Nat.le_of_ble_eq_true rfl) | ktr_units); (case p0 => with_reducible assumption); (case p1 => with_reducible assumption)); intro t9 h9 tk9 F9 N9; (all_goals ((try dsimp only); (try k_sweep); (try k_fold))))
        | ((with_reducible show wpAny _ _ (call (Value.ref 169) _) _ _ _); k_dflt (refine' Clm.use (tof_near_ok _ _ _ _ _ _ _ _ _ ?p0) ?u1 ?u2 ?u3 ?u4 ?u5 ?u6 ?u7 ?u8 ?_; (case u2 => k_asm); (case u1 => k_asm); (case u3 => k_asm); (case u4 => k_asm); (case u5 => k_asm); (case u6 => first | exact rfl | assumption); (case u7 => first | exact room1 hdp (Nat.le_of_ble_eq_true rfl) | ktr_room); (case u8 => first | exact units1 hun (Nat.le_of_ble_eq_true rfl) | ktr_units); (case p0 => k_mem)); intro t9 h9 tk9 F9 N9; (all_goals ((try dsimp only); (try k_sweep); (try k_fold))))
        | ((with_reducible show wpAny _ _ (call (Value.ref 162) _) _ _ _); k_dflt (refine' Clm.use (clip_near_ok _ _ ?p0 ?p1) ?u1 ?u2 ?u3 ?u4 ?u5 ?u6 ?u7 ?u8 ?_; (case u2 => k_asm); (case u1 => k_asm); (case u3 => k_asm); (case u4 => k_asm); (case u5 => k_asm); (case u6 => first | exact rfl | assumption); (case u7 => first | exact room1 hdp (Nat.le_of_ble_eq_true rfl) | ktr_room); (case u8 => first | exact units1 hun (Nat.le_of_ble_eq_true rfl) | ktr_units); (case p0 => omega); (case p1 => omega)); intro t9 h9 tk9 F9 N9; (all_goals ((try dsimp only); (try k_sweep); (try k_fold))))
        | ((with_reducible show wpAny _ _ (call (Value.ref 162) _) _ _ _); k_dflt (refine' Clm.use (clip_far_ok _ _ ?p0) ?u1 ?u2 ?u3 ?u4 ?u5 ?u6 ?u7 ?u8 ?_; (case u2 => k_asm); (case u1 => k_asm); (case u3 => k_asm); (case u4 => k_asm); (case u5 => k_asm); (case u6 => first | exact rfl | assumption); (case u7 => first | exact room1 hdp (Nat.le_of_ble_eq_true rfl) | ktr_room); (case u8 => first | exact units1 hun (Nat.le_of_ble_eq_true rfl) | ktr_units); (case p0 => omega)); intro t9 h9 tk9 F9 N9; (all_goals ((try dsimp only); (try k_sweep); (try k_fold))))
        | ((with_reducible show wpAny _ _ (call (Value.ref 162) _) _ _ _); k_dflt (refine' Clm.use (time_clip_n_ok ) ?u1 ?u2 ?u3 ?u4 ?u5 ?u6 ?u7 ?u8 ?_; (case u2 => k_asm); (case u1 => k_asm); (case u3 => k_asm); (case u4 => k_asm); (case u5 => k_asm); (case u6 => first | exact rfl | assumption); (case u7 => first | exact room1 hdp (Nat.le_of_ble_eq_true rfl) | ktr_room); (case u8 => first | exact units1 hun (Nat.le_of_ble_eq_true rfl) | ktr_units)); intro t9 h9 tk9 F9 N9; (all_goals ((try dsimp only); (try k_sweep); (try k_fold))))
        | ((with_reducible show wpAny _ _ (call (Value.ref 148) _) _ _ _); k_dflt (refine' Clm.use (make_day_n_ok _ _ _ _ ) ?u1 ?u2 ?u3 ?u4 ?u5 ?u6 ?u7 ?u8 ?_; (case u2 => k_asm); (case u1 => k_asm); (case u3 => k_asm); (case u4 => k_asm); (case u5 => k_asm); (case u6 => first | exact rfl | assumption); (case u7 => first | exact room1 hdp (Nat.le_of_ble_eq_true rfl) | ktr_room); (case u8 => first | exact units1 hun (Nat.le_of_ble_eq_true rfl) | ktr_units)); intro t9 h9 tk9 F9 N9; (all_goals ((try dsimp only); (try k_sweep); (try k_fold))))
        | ((with_reducible show wpAny _ _ (call (Value.ref 141) _) _ _ _); k_dflt (refine' Clm.use (make_time_n_ok _ _ _ _ _ _ ) ?u1 ?u2 ?u3 ?u4 ?u5 ?u6 ?u7 ?u8 ?_; (case u2 => k_asm); (case u1 => k_asm); (case u3 => k_asm); (case u4 => k_asm); (case u5 => k_asm); (case u6 => first | exact rfl | assumption); (case u7 => first | exact room1 hdp (Nat.le_of_ble_eq_true rfl) | ktr_room); (case u8 => first | exact units1 hun (Nat.le_of_ble_eq_true rfl) | ktr_units)); intro t9 h9 tk9 F9 N9; (all_goals ((try dsimp only); (try k_sweep); (try k_fold))))
        | ((with_reducible show wpAny _ _ (call (Value.ref 155) _) _ _ _); k_dflt (refine' Clm.use (make_date_n_ok _ _ ) ?u1 ?u2 ?u3 ?u4 ?u5 ?u6 ?u7 ?u8 ?_; (case u2 => k_asm); (case u1 => k_asm); (case u3 => k_asm); (case u4 => k_asm); (case u5 => k_asm); (case u6 => first | exact rfl | assumption); (case u7 => first | exact room1 hdp (Nat.le_of_ble_eq_true rfl) | ktr_room); (case u8 => first | exact units1 hun (Nat.le_of_ble_eq_true rfl) | ktr_units)); intro t9 h9 tk9 F9 N9; (all_goals ((try dsimp only); (try k_sweep); (try k_fold))))
        | ((with_reducible show wpAny _ _ (call (Value.ref 148) _) _ _ _); k_dflt (refine' Clm.use (make_day_ok _ _ _ _ _ _ ) ?u1 ?u2 ?u3 ?u4 ?u5 ?u6 ?u7 ?u8 ?_; (case u2 => k_asm); (case u1 => k_asm); (case u3 => k_asm); (case u4 => k_asm); (case u5 => k_asm); (case u6 => first | exact rfl | assumption); (case u7 => first | exact room1 hdp (Nat.le_of_ble_eq_true rfl) | ktr_room); (case u8 => first | exact units1 hun (Nat.le_of_ble_eq_true rfl) | ktr_units)); intro t9 h9 tk9 F9 N9; (all_goals ((try dsimp only); (try k_sweep); (try k_fold))))
        | ((with_reducible show wpAny _ _ (call (Value.ref 323) _) _ _ _); k_dflt (refine' Clm.use (law_count_ok _ _ _ _ _ _ ) ?u1 ?u2 ?u3 ?u4 ?u5 ?u6 ?u7 ?u8 ?_; (case u2 => k_asm); (case u1 => k_asm); (case u3 => k_asm); (case u4 => k_asm); (case u5 => k_asm); (case u6 => first | exact rfl | assumption); (case u7 => first | exact room1 hdp (Nat.le_of_ble_eq_true rfl) | ktr_room); (case u8 => first | exact units1 hun (Nat.le_of_ble_eq_true rfl) | ktr_units)); intro t9 h9 tk9 F9 N9; (all_goals ((try dsimp only); (try k_sweep); (try k_fold))))
        | ((with_reducible show wpAny _ _ (call (Value.ref 141) _) _ _ _); k_dflt (refine' Clm.use (make_time_ok _ _ _ _ _ _ _ _ ) ?u1 ?u2 ?u3 ?u4 ?u5 ?u6 ?u7 ?u8 ?_; (case u2 => k_asm); (case u1 => k_asm); (case u3 => k_asm); (case u4 => k_asm); (case u5 => k_asm); (case u6 => first | exact rfl | assumption); (case u7 => first | exact room1 hdp (Nat.le_of_ble_eq_true rfl) | ktr_room); (case u8 => first | exact units1 hun (Nat.le_of_ble_eq_true rfl) | ktr_units)); intro t9 h9 tk9 F9 N9; (all_goals ((try dsimp only); (try k_sweep); (try k_fold))))
        | ((with_reducible show wpAny _ _ (call (Value.ref 155) _) _ _ _); k_dflt (refine' Clm.use (make_date_ok _ _ _ _ ) ?u1 ?u2 ?u3 ?u4 ?u5 ?u6 ?u7 ?u8 ?_; (case u2 => k_asm); (case u1 => k_asm); (case u3 => k_asm); (case u4 => k_asm); (case u5 => k_asm); (case u6 => first | exact rfl | assumption); (case u7 => first | exact room1 hdp (Nat.le_of_ble_eq_true rfl) | ktr_room); (case u8 => first | exact units1 hun (Nat.le_of_ble_eq_true rfl) | ktr_units)); intro t9 h9 tk9 F9 N9; (all_goals ((try dsimp only); (try k_sweep); (try k_fold))))
        | ((with_reducible show wpAny _ _ (call (Value.ref 358) _) _ _ _); k_dflt (refine' Clm.use (law_sumD_ok _ _ _ _ _ _ _ _ _ _ _ _ _ _ _ ?p0) ?u1 ?u2 ?u3 ?u4 ?u5 ?u6 ?u7 ?u8 ?_; (case u2 => k_asm); (case u1 => k_asm); (case u3 => k_asm); (case u4 => k_asm); (case u5 => k_asm); (case u6 => first | exact rfl | assumption); (case u7 => first | exact room1 hdp (Nat.le_of_ble_eq_true rfl) | ktr_room); (case u8 => first | exact units1 hun (Nat.le_of_ble_eq_true rfl) | ktr_units); (case p0 => k_mem)); intro t9 h9 tk9 F9 N9; (all_goals ((try dsimp only); (try k_sweep); (try k_fold))))
        | ((with_reducible show wpAny _ _ (call (Value.ref 169) _) _ _ _); k_dflt (refine' Clm.use (time_of_fields_ok _ _ _ _ _ _ _ _ _ _ _ _ _ _ _ ?p0) ?u1 ?u2 ?u3 ?u4 ?u5 ?u6 ?u7 ?u8 ?_; (case u2 => k_asm); (case u1 => k_asm); (case u3 => k_asm); (case u4 => k_asm); (case u5 => k_asm); (case u6 => first | exact rfl | assumption); (case u7 => first | exact room1 hdp (Nat.le_of_ble_eq_true rfl) | ktr_room); (case u8 => first | exact units1 hun (Nat.le_of_ble_eq_true rfl) | ktr_units); (case p0 => k_mem)); intro t9 h9 tk9 F9 N9; (all_goals ((try dsimp only); (try k_sweep); (try k_fold))))
        | ((with_reducible show wpAny _ _ (call (Value.ref 330) _) _ _ _); k_dflt (refine' Clm.use (law_fields_ok _ _ ) ?u1 ?u2 ?u3 ?u4 ?u5 ?u6 ?u7 ?u8 ?_; (case u2 => k_asm); (case u1 => k_asm); (case u3 => k_asm); (case u4 => k_asm); (case u5 => k_asm); (case u6 => first | exact rfl | assumption); (case u7 => first | exact room1 hdp (Nat.le_of_ble_eq_true rfl) | ktr_room); (case u8 => first | exact units1 hun (Nat.le_of_ble_eq_true rfl) | ktr_units)); intro q9 t1 t2 t3 t4 t5 t6 t7 h9 tk9 F9 N9 l9; (try simp only [AllLt, and_true] at l9); (all_goals ((try dsimp only); (try k_sweep); (try k_fold))))
        | ((with_reducible show wpAny _ _ (call (Value.ref 134) _) _ _ _); k_dflt (refine' Clm.use (fields_of_ok _ _ ) ?u1 ?u2 ?u3 ?u4 ?u5 ?u6 ?u7 ?u8 ?_; (case u2 => k_asm); (case u1 => k_asm); (case u3 => k_asm); (case u4 => k_asm); (case u5 => k_asm); (case u6 => first | exact rfl | assumption); (case u7 => first | exact room1 hdp (Nat.le_of_ble_eq_true rfl) | ktr_room); (case u8 => first | exact units1 hun (Nat.le_of_ble_eq_true rfl) | ktr_units)); intro q9 t1 t2 t3 t4 t5 t6 t7 h9 tk9 F9 N9 l9; (try simp only [AllLt, and_true] at l9); (all_goals ((try dsimp only); (try k_sweep); (try k_fold))))
        | ((with_reducible show wpAny _ _ (call (Value.ref 351) _) _ _ _); k_dflt (refine' Clm.use (law_pieces_n_ok _ _ _ _ _ _ _ _ _ ?p0 ?p1 ?p2) ?u1 ?u2 ?u3 ?u4 ?u5 ?u6 ?u7 ?u8 ?_; (case u2 => k_asm); (case u1 => k_asm); (case u3 => k_asm); (case u4 => k_asm); (case u5 => k_asm); (case u6 => first | exact rfl | assumption); (case u7 => first | exact room1 hdp (Nat.le_of_ble_eq_true rfl) | ktr_room); (case u8 => first | exact units1 hun (Nat.le_of_ble_eq_true rfl) | ktr_units); (case p0 => k_mem); (case p1 => with_reducible assumption); (case p2 => with_reducible assumption)); intro q9 u1 u2 u3 u4 u5 u6 h9 tk9 z1 z2 z3 z4 z5 z6 F9 N9 l9; (try simp only [AllLt, and_true] at l9); (all_goals ((try dsimp only); (try k_sweep); (try k_fold))))
        | ((with_reducible show wpAny _ _ (call (Value.ref 204) _) _ _ _); k_dflt (refine' Clm.use (iso_text_ok _ _ ?p0 ?p1) ?u1 ?u2 ?u3 ?u4 ?u5 ?u6 ?u7 ?u8 ?_; (case u2 => k_asm); (case u1 => k_asm); (case u3 => k_asm); (case u4 => k_asm); (case u5 => k_asm); (case u6 => first | exact rfl | assumption); (case u7 => first | exact room1 hdp (Nat.le_of_ble_eq_true rfl) | ktr_room); (case u8 => first | exact units1 hun (Nat.le_of_ble_eq_true rfl) | ktr_units); (case p0 => omega); (case p1 => omega)); intro t9 h9 tk9 z9 F9 N9; (all_goals ((try dsimp only); (try k_sweep); (try k_fold))))
        | ((with_reducible show wpAny _ _ (call (Value.ref 162) _) _ _ _); k_dflt (refine' Clm.use (time_clip_ok _ _ ) ?u1 ?u2 ?u3 ?u4 ?u5 ?u6 ?u7 ?u8 ?_; (case u2 => k_asm); (case u1 => k_asm); (case u3 => k_asm); (case u4 => k_asm); (case u5 => k_asm); (case u6 => first | exact rfl | assumption); (case u7 => first | exact room1 hdp (Nat.le_of_ble_eq_true rfl) | ktr_room); (case u8 => first | exact units1 hun (Nat.le_of_ble_eq_true rfl) | ktr_units)); refine' ⟨fun e9 h9 tk9 F9 N9 => ?_, fun i9 e9 t9 h9 tk9 F9 N9 => ?_⟩; (all_goals ((try dsimp only); (try k_sweep); (try k_fold))))
        | ((with_reducible show wpAny _ _ (call (Value.ref 365) _) _ _ _); k_dflt (refine' Clm.use (law_near_n_ok _ _ ?p0) ?u1 ?u2 ?u3 ?u4 ?u5 ?u6 ?u7 ?u8 ?_; (case u2 => k_asm); (case u1 => k_asm); (case u3 => k_asm); (case u4 => k_asm); (case u5 => k_asm); (case u6 => first | exact rfl | assumption); (case u7 => first | exact room1 hdp (Nat.le_of_ble_eq_true rfl) | ktr_room); (case u8 => first | exact units1 hun (Nat.le_of_ble_eq_true rfl) | ktr_units); (case p0 => with_reducible assumption)); intro t9 h9 tk9 F9 N9; (all_goals ((try dsimp only); (try k_sweep); (try k_fold))))
        | ((with_reducible show wpAny _ _ (call (Value.ref 365) _) _ _ _); k_dflt (refine' Clm.use (law_near_s_ok _ _ _ ?p0) ?u1 ?u2 ?u3 ?u4 ?u5 ?u6 ?u7 ?u8 ?_; (case u2 => k_asm); (case u1 => k_asm); (case u3 => k_asm); (case u4 => k_asm); (case u5 => k_asm); (case u6 => first | exact rfl | assumption); (case u7 => first | exact room1 hdp (Nat.le_of_ble_eq_true rfl) | ktr_room); (case u8 => first | exact units1 hun (Nat.le_of_ble_eq_true rfl) | ktr_units); (case p0 => with_reducible assumption)); intro t9 h9 tk9 F9 N9; (all_goals ((try dsimp only); (try k_sweep); (try k_fold)))))
    k_go0
    (all_goals try k_fold)
    k_steps
    skip)
end

end Mine
theorem PySem.Challenge.cw_nt0351_01_holds : PySem.Challenge.rw_nt0351_01.Holds := by
  exact Mine.lawtop

