import PyProof.Rows.All
import Wide.All
import OpenK.AllK
import Wide.FinOn
import Lean
import PySem.Challenge.RW_xm0640_01
set_option Elab.async false
set_option compiler.extract_closed false
set_option linter.all false
set_option maxRecDepth 100000
set_option maxHeartbeats 0
section
open PySem PySem.W PyProof.Rows
name_quick tw276302929252808647 for S.findZ by S.findZ_eq
name_quick tw8075568018651887793 for S.findZ by S.findZ_eq
name_quick tw16867206752494618739 for S.findZ by S.findZ_eq
name_quick tw15497817006697053464 for S.findZ by S.findZ_eq
name_quick tw15108788842447611627 for S.findZ by S.findZ_eq
name_quick tw2428525645298168492 for S.findZ by S.findZ_eq
name_quick tw14979626087600564940 for S.findZ by S.findZ_eq
name_quick tw13027295680057333318 for S.findZ by S.findZ_eq
name_quick tw1651231452613355621 for S.findZ by S.findZ_eq
name_quick tw14698076462512835083 for S.findZ by S.findZ_eq
name_quick tw16519947266957812712 for S.findZ by S.findZ_eq
name_quick tw3927467737984386915 for S.findZ by S.findZ_eq
name_quick tw6543886607769338821 for S.findZ by S.findZ_eq
name_quick tw17968720173961103018 for S.findZ by S.findZ_eq
name_quick tw3670520836272599126 for S.findZ by S.findZ_eq
name_quick tw2718901123391026995 for S.findZ by S.findZ_eq
name_quick tw6214688769961185500 for S.findZ by S.findZ_eq
name_quick tw3865406201487662470 for S.findZ by S.findZ_eq
name_quick tw2759451637364818457 for S.findZ by S.findZ_eq
name_quick tw17057272898397164401 for S.findZ by S.findZ_eq
name_quick tw11166942722945506595 for S.findZ by S.findZ_eq
name_quick tw12635297910168745909 for S.findZ by S.findZ_eq
name_quick tw17954471519018878134 for S.findZ by S.findZ_eq
name_quick tw4388067698380316889 for S.findZ by S.findZ_eq
name_quick tw7210653913260312092 for S.findZ by S.findZ_eq
name_quick tw1085346719588807367 for S.findZ by S.findZ_eq
name_quick tw16180483070735683940 for S.findZ by S.findZ_eq
name_quick tw9862997608875712007 for S.findZ by S.findZ_eq
name_quick tw17943406268862710625 for S.findZ by S.findZ_eq
name_quick tw6834602518627153040 for S.findZ by S.findZ_eq
name_quick tw8450942572126056277 for S.findZ by S.findZ_eq
name_quick tw17552769576498331613 for S.findZ by S.findZ_eq
name_quick tw1523951592034530338 for S.findZ by S.findZ_eq
name_quick tw7585139358526817783 for S.findZ by S.findZ_eq
name_quick tw2401699919119007470 for S.findZ by S.findZ_eq
name_quick tw17517737089405305841 for S.findZ by S.findZ_eq
name_quick tw15562837088269578035 for S.findZ by S.findZ_eq
name_quick tw13912434898499826684 for S.findZ by S.findZ_eq
name_quick tw6789855027759293466 for S.findZ by S.findZ_eq
name_quick tw2719445374943340272 for S.findZ by S.findZ_eq
name_quick tw13471461260053382970 for S.findZ by S.findZ_eq
name_quick tw18211773271919218964 for S.findZ by S.findZ_eq
name_quick tw6122645084068987007 for S.findZ by S.findZ_eq
name_quick tw11985326045990495214 for S.findZ by S.findZ_eq
name_quick tw10346894026039390216 for S.findZ by S.findZ_eq
name_quick tw4679858250743294509 for S.findZ by S.findZ_eq
name_quick tw5566138390442982369 for S.findZ by S.findZ_eq
name_quick tw11625766737575182897 for S.findZ by S.findZ_eq
name_quick tw682011567655089306 for S.findZ by S.findZ_eq
name_quick tw7232422423428716515 for S.findZ by S.findZ_eq
name_quick tw6967401301877209104 for S.findZ by S.findZ_eq
name_quick tw5357591511691535388 for S.findZ by S.findZ_eq
name_quick tw4552823106982906706 for S.findZ by S.findZ_eq
name_quick tw2660918139993853925 for S.findZ by S.findZ_eq
name_quick tw460243522976405022 for S.findZ by S.findZ_eq
name_quick tw12945451867199242903 for S.findZ by S.findZ_eq
name_quick tw11036193050239951465 for S.findZ by S.findZ_eq
name_quick tw17503288770812694035 for S.findZ by S.findZ_eq
name_quick tw9315938663221665524 for S.findZ by S.findZ_eq
name_quick tw2478078296215019888 for S.findZ by S.findZ_eq
name_quick tw2039238271031011813 for S.findZ by S.findZ_eq
name_quick tw10706342367453228570 for S.findZ by S.findZ_eq
name_quick tw2408619945344806742 for S.findZ by S.findZ_eq
name_quick tw5706481520468235054 for S.findZ by S.findZ_eq
name_quick tw1218959903707654005 for S.findZ by S.findZ_eq
name_quick tw2532725972614424836 for S.findZ by S.findZ_eq
name_quick tw704327219915372674 for S.findZ by S.findZ_eq
name_quick tw9281714027785469542 for S.findZ by S.findZ_eq
name_quick tw9763268239775435451 for S.findZ by S.findZ_eq
name_quick tw14433975572909055671 for S.findZ by S.findZ_eq
name_quick tw4775785305629353868 for S.findZ by S.findZ_eq
name_quick tw11161088081135249708 for S.findZ by S.findZ_eq
name_quick tw3953757239420563355 for S.findZ by S.findZ_eq
name_quick tw13145125596335152023 for S.findZ by S.findZ_eq
name_quick tw2948108419219029167 for S.findZ by S.findZ_eq
name_quick tw7098571738820278039 for S.findZ by S.findZ_eq
name_quick tw5076957145309523181 for S.findZ by S.findZ_eq
name_quick tw3856783459128436802 for S.findZ by S.findZ_eq
name_quick tw7483462131439158144 for S.findZ by S.findZ_eq
name_quick tw17164873540382356111 for S.findZ by S.findZ_eq
name_quick tw17111948838632640456 for S.findZ by S.findZ_eq
name_quick tw7250012664060256230 for S.findZ by S.findZ_eq
name_quick tw4904739604578439355 for S.findZ by S.findZ_eq
name_quick tw1617757218408452269 for S.findZ by S.findZ_eq
name_quick tw4172830789200971933 for S.findZ by S.findZ_eq
name_quick tw6662432510661729299 for S.findZ by S.findZ_eq
name_quick tw9300948228871686676 for S.findZ by S.findZ_eq
name_quick tw5345256250457102556 for S.findZ by S.findZ_eq
name_quick tw8017206721242287953 for S.findZ by S.findZ_eq
name_quick tw7286323032743288035 for S.findZ by S.findZ_eq
name_quick tw347637069881736656 for S.findZ by S.findZ_eq
name_quick tw1763209079605825380 for S.findZ by S.findZ_eq
name_quick tw11462045893675790159 for S.findZ by S.findZ_eq
name_quick tw3386650904741475044 for S.findZ by S.findZ_eq
name_quick tw10314498396905981064 for S.findZ by S.findZ_eq
name_quick tw13809362725867891129 for S.findZ by S.findZ_eq
name_quick tw11013792430000457035 for S.findZ by S.findZ_eq
name_quick tw11333186260410459676 for S.findZ by S.findZ_eq
name_quick tw11588390666370768167 for S.findZ by S.findZ_eq
name_quick tw18260038339965228139 for S.findZ by S.findZ_eq
name_quick tw6580340599500149305 for S.findZ by S.findZ_eq
name_quick tw11130039905162102590 for S.findZ by S.findZ_eq
name_quick tw9931943479562821362 for S.findZ by S.findZ_eq
name_quick tw10045867985992453528 for S.findZ by S.findZ_eq
name_quick tw15007238320947547705 for S.findZ by S.findZ_eq
name_quick tw389472881494512206 for S.findZ by S.findZ_eq
name_quick tw13512673800721320934 for S.findZ by S.findZ_eq
name_quick tw1041845030581493396 for S.findZ by S.findZ_eq
name_quick tw4966893808263662355 for S.findZ by S.findZ_eq
name_quick tw7670514497116975361 for S.findZ by S.findZ_eq
name_quick tw1620339239838986703 for S.findZ by S.findZ_eq
name_quick tw13871001218405608335 for S.findZ by S.findZ_eq
name_quick tw5770868932273138760 for S.findZ by S.findZ_eq
name_quick tw17954736447514056666 for S.findZ by S.findZ_eq
name_quick tw7198390536060210744 for S.findZ by S.findZ_eq
name_quick tw14530364306720264245 for S.findZ by S.findZ_eq
name_quick tw183835017167291270 for S.findZ by S.findZ_eq
name_quick tw3325841961599345399 for S.findZ by S.findZ_eq
name_quick tw1638017585896720355 for S.findZ by S.findZ_eq
name_quick tw6434265647005701932 for S.findZ by S.findZ_eq
name_quick tw3118938333895590913 for S.findZ by S.findZ_eq
name_quick tw9504726810853072989 for S.findZ by S.findZ_eq
name_quick tw12635813782599140982 for S.findZ by S.findZ_eq
name_quick tw13640514254501968386 for S.findZ by S.findZ_eq
name_quick tw17071476683966804577 for S.findZ by S.findZ_eq
name_quick tw1962928258387122110 for S.findZ by S.findZ_eq
name_quick tw13607416678640721797 for S.findZ by S.findZ_eq
name_quick tw5721027456603625697 for S.findZ by S.findZ_eq
name_quick tw9537544019596298400 for S.findZ by S.findZ_eq
name_quick tw17344680358763864322 for S.findZ by S.findZ_eq
name_quick tw11317593695737139937 for S.findZ by S.findZ_eq
name_quick tw15773981995205291829 for S.findZ by S.findZ_eq
name_quick tw12835720964997663042 for S.findZ by S.findZ_eq
name_quick tw11790162104776037713 for S.findZ by S.findZ_eq
name_quick tw11740888236361828772 for S.findZ by S.findZ_eq
name_quick tw1735497430108182060 for S.findZ by S.findZ_eq
name_quick tw6363645014702824404 for S.findZ by S.findZ_eq
name_quick tw11863081143760314161 for S.findZ by S.findZ_eq
name_quick tw15823609455315575823 for S.findZ by S.findZ_eq
name_quick tw1355338860687761863 for S.findZ by S.findZ_eq
name_quick tw15490439104401381959 for S.findZ by S.findZ_eq
name_quick tw6019396324639902685 for S.findZ by S.findZ_eq
name_quick tw9979284746773624096 for S.findZ by S.findZ_eq
name_quick tw11445135464325071761 for S.findZ by S.findZ_eq
name_quick tw6817277305950994716 for S.findZ by S.findZ_eq
name_quick tw505943868828395459 for S.findZ by S.findZ_eq
name_quick tw7499937903120025604 for S.findZ by S.findZ_eq
name_quick tw18273839248471157720 for S.findZ by S.findZ_eq
name_quick tw7299951869573292228 for S.findZ by S.findZ_eq
name_quick tw10007627690174824804 for S.findZ by S.findZ_eq
name_quick tw12898947447245864913 for S.findZ by S.findZ_eq
name_quick tw7009043117176579089 for S.findZ by S.findZ_eq
name_quick tw2001226814458364393 for S.findZ by S.findZ_eq
name_quick tw4558998842232669794 for S.findZ by S.findZ_eq
name_quick tw15323854079317868165 for S.findZ by S.findZ_eq
name_quick tw9136488742655976645 for S.findZ by S.findZ_eq
name_quick tw8796240567053077481 for S.findZ by S.findZ_eq
name_quick tw14209830616999942402 for S.findZ by S.findZ_eq
name_quick tw1708024556718086227 for S.findZ by S.findZ_eq
name_quick tw14023627001141898710 for S.findZ by S.findZ_eq
name_quick tw13141144453892091621 for S.findZ by S.findZ_eq
name_quick tw16874561944515371726 for S.findZ by S.findZ_eq
name_quick tw14311459727803291754 for S.findZ by S.findZ_eq
name_quick tw15066959818950650227 for S.findZ by S.findZ_eq
name_quick tw6135381517318000843 for S.findZ by S.findZ_eq
name_quick tw16593013826814733010 for S.findZ by S.findZ_eq
name_quick tw2422670821966735624 for S.findZ by S.findZ_eq
name_quick tw2670528217467546775 for S.findZ by S.findZ_eq
name_quick tw2664551874359636763 for S.findZ by S.findZ_eq
name_quick tw3436264866546951355 for S.findZ by S.findZ_eq
name_quick tw6380047634161181297 for S.findZ by S.findZ_eq
name_quick tw8732485361984058174 for S.findZ by S.findZ_eq
name_quick tw10948738476641704880 for S.findZ by S.findZ_eq
name_quick tw3282434896037501709 for S.findZ by S.findZ_eq
name_quick tw11186114360453789277 for S.findZ by S.findZ_eq
name_quick tw16741492637210864865 for S.findZ by S.findZ_eq
name_quick tw6683783046931543321 for S.findZ by S.findZ_eq
name_quick tw14973007898608030118 for S.findZ by S.findZ_eq
name_quick tw1414301608579184545 for S.findZ by S.findZ_eq
name_quick tw8424611434330503625 for S.findZ by S.findZ_eq
name_quick tw15806122291839087668 for S.findZ by S.findZ_eq
name_quick tw16916688483869632129 for S.findZ by S.findZ_eq
name_quick tw7745614565497352828 for S.findZ by S.findZ_eq
name_quick tw392140993173905013 for S.findZ by S.findZ_eq
name_quick tw503676674663206642 for S.findZ by S.findZ_eq
name_quick tw4302124980754421698 for S.findZ by S.findZ_eq
name_quick tw8206430501311747189 for S.findZ by S.findZ_eq
name_quick tw8753696776887207221 for S.findZ by S.findZ_eq
name_quick tw3577408171920636059 for S.findZ by S.findZ_eq
name_quick tw11957962974430299695 for S.findZ by S.findZ_eq
name_quick tw10205541121877940668 for S.findZ by S.findZ_eq
name_quick tw7275051467321613617 for S.findZ by S.findZ_eq
name_quick tw219737044198020058 for S.findZ by S.findZ_eq
namespace Mine
open_top hd for PySem.Challenge.rw_xm0640_01
section
open PySem PySem.W PySem.Spec PySem.Calls PyProof.Rows
set_option rowWalk.seconds 0
noncomputable abbrev lob (vs : List Value) (n : Nat := 0) : Obj := { cls := .type "list", data := .seq vs.toArray n }
noncomputable abbrev tob (vs : List Value) (n : Nat := 0) : Obj := { cls := .type "tuple", data := .seq vs.toArray n }
/-- what a call of the def at f with these arguments does: it returns r, leaves the frame as it was and a ledger -/
noncomputable def Con (prog : Program) (w : World) (d u : Nat) (f : Addr) (args : List Value) (news : List (Addr × Obj)) (Ret : Value → List (Addr × Obj) → Prop) : Prop :=
  ∀ (p : Program) (loose : List Str) (mean : ExcName → Option Value) (mg mb : Str → Option Value)
    (dp un : Nat) (gd : Option (List Code)) (cn : Str) (cs : Scope) (a : Addr) (ccd : Value) (cl : List (Str × Addr)) (outer : List Env) (A₀ : Around) (base h₀ : Heap) (L : Addr) (m : Str → Option Value) (s : Shared)
    (Q E : Value → Shared → Prop),
    Below A₀ base outer h₀ → Fr h₀ L s.heap m → (hd.heap_39 w.params).In h₀ → News h₀ L s.heap news → Top p loose mean mg mb h₀ → cs.kind = .function → dp + d < recursionLimit → un + u < cLine →
    (∀ r news' h' tk', Fr h₀ L h' m → News h₀ L h' news' → Ret r news' → Q r { s with heap := h', toks := tk' }) →
    wpAny (model prog w) (ktrTop dp un gd cn cs L a ccd cl outer) (call (.ref f) args) Q E s
theorem con_use {prog : Program} {w : World} {d u : Nat} {f : Addr} {args : List Value} {news : List (Addr × Obj)} {Ret : Value → List (Addr × Obj) → Prop} {p : Program} {loose : List Str} {mean : ExcName → Option Value} {mg mb : Str → Option Value}
    {dp un : Nat} {gd : Option (List Code)} {cn : Str} {cs : Scope} {a : Addr} {ccd : Value} {cl : List (Str × Addr)} {outer : List Env} {A₀ : Around} {base h₀ : Heap} {L : Addr} {m : Str → Option Value} {s : Shared}
    {Q E : Value → Shared → Prop} (C : Con prog w d u f args news Ret)
    (B : Below A₀ base outer h₀) (F : Fr h₀ L s.heap m) (X : (hd.heap_39 w.params).In h₀) (N : News h₀ L s.heap news) (T : Top p loose mean mg mb h₀) (hk : cs.kind = .function) (hd : dp + d < recursionLimit) (hu : un + u < cLine)
    (ret : ∀ r news' h' tk', Fr h₀ L h' m → News h₀ L h' news' → Ret r news' → Q r { s with heap := h', toks := tk' }) :
    wpAny (model prog w) (ktrTop dp un gd cn cs L a ccd cl outer) (call (.ref f) args) Q E s :=
  C p loose mean mg mb dp un gd cn cs a ccd cl outer A₀ base h₀ L m s Q E B F X N T hk hd hu ret
theorem ints_snoc {a : Int} {t : Tok} : ∀ {vs : List Value} {ns : List Int}, IntsAre vs ns → IntsAre (vs ++ [.int a t]) (ns ++ [a]) := by
  intro vs ns h
  induction h with
  | nil => exact .cons _ _ .nil
  | cons b u _ ih => exact .cons b u ih
theorem ne_of_lt' {d : Addr} {l : List (Addr × Obj)} (h : ∀ p ∈ l, p.1 < d) : ∀ p ∈ l, p.1 ≠ d := fun p hp => Nat.ne_of_lt (h p hp)
theorem room1 {dp D d : Nat} (h : dp + D < recursionLimit) (e : Nat.ble (1 + d) D = true) : dp + 1 + d < recursionLimit := by
  have := Nat.le_of_ble_eq_true e
  omega
theorem room0 {dp D d : Nat} (h : dp + D < recursionLimit) (e : Nat.ble d D = true) : dp + d < recursionLimit := by
  have := Nat.le_of_ble_eq_true e
  omega
theorem roomz {dp D : Nat} (h : dp + D < recursionLimit) : dp < recursionLimit := Nat.lt_of_le_of_lt (Nat.le_add_right _ _) h
theorem roomz1 {dp D : Nat} (h : dp + D < recursionLimit) (e : Nat.ble 1 D = true) : dp + 1 < recursionLimit := by
  have := Nat.le_of_ble_eq_true e
  omega
theorem unit3 {un U u : Nat} (h : un + U < cLine) (e : Nat.ble (3 + u) U = true) : un + 3 + u < cLine := by
  have := Nat.le_of_ble_eq_true e
  omega
theorem unit0 {un U u : Nat} (h : un + U < cLine) (e : Nat.ble u U = true) : un + u < cLine := by
  have := Nat.le_of_ble_eq_true e
  omega
theorem env_let {M : Model} {α : Type} {A : Around} {env : Env} {t : Env → Sem α} {Q : α → Shared → Prop} {E : Value → Shared → Prop} {s : Shared} (h : let e := env; let A₁ := A.deeper e; wpAny M A₁ (t e) Q E s) : wpAny M (A.deeper env) (t env) Q E s := h
theorem fr_let {P : Prop} {g h : Heap} {L : Addr} {m : Str → Option Value} (F : Fr g L h m) (k : let m0 := m; Fr g L h m0 → P) : P := k F
section
variable {M : Model} {A : Around} {E : Value → Shared → Prop} {s : Shared} {h₀ : Heap} {L a : Addr} {m : Str → Option Value} {cn : Str} {cs : Scope} {ccd : Value} {cl : List (Str × Addr)} {x : Str} {v : Value} {Q : Unit → Shared → Prop} {news : List (Addr × Obj)}
theorem storeX_Llet (F : Fr h₀ L s.heap m) (N : News h₀ L s.heap news)
    (h : ∀ h', let m' := (fun y => if y = x then some v else m y); Fr h₀ L h' m' → News h₀ L h' news → Q () { s with heap := h', toks := s.toks + 1 })
    (hk : cs.kind = .function) (hx : (envX cn cs L a ccd cl).kindOf x = some .local) : wpAny M A (storeName (envX cn cs L a ccd cl) x v) Q E s := storeX_L F N h hk hx
end
section
variable {prog : Program} {w : World} {A : Around} {E : Value → Shared → Prop} {s : Shared} {h₀ : Heap} {L D : Addr} {news : List (Addr × Obj)} {vs : List Value} {n : Nat} {k : Int} {u : Tok} {x : Value} {Q : Value → Shared → Prop}
theorem ls_is (N : News h₀ L s.heap news) (hm : (D, lob vs n) ∈ news) : s.heap.IsList D vs.toArray := ⟨_, (N _ hm).1, rfl, n, rfl⟩
theorem ls_sub {value slice : PySem.Expr} (N : News h₀ L s.heap news) (hm : (D, lob vs n) ∈ news) (h0 : 0 ≤ k) (hfit : k < 2 ^ 63) (hx : vs[k.toNat]? = some x) (h : Q x s)
    (hs : subscripted slice false (.ref D) (.int k u) = operate [.ref D, .int k u] (getItem (.ref D) (.int k u)) := by with_unfolding_all rfl) :
    wpAny (model prog w) A (subscriptTail value slice (.ref D) (.int k u)) Q E s :=
  tail_any (ls_is N hm).typeIs slot_list_getitem.lookup (wpAny_getItem_list (ls_is N hm) h0 hfit (by simpa using hx) h) hs
theorem ls_last {value slice : PySem.Expr} (N : News h₀ L s.heap news) (hm : (D, lob vs n) ∈ news) (hx : vs.getLast? = some x) (h : Q x s)
    (hs : subscripted slice false (.ref D) (.int (-1) u) = operate [.ref D, .int (-1) u] (getItem (.ref D) (.int (-1) u)) := by with_unfolding_all rfl) :
    wpAny (model prog w) A (subscriptTail value slice (.ref D) (.int (-1) u)) Q E s := by
  have hl : 1 ≤ vs.length := by
    cases vs with
    | nil => simp at hx
    | cons a r => simp
  refine tail_any (ls_is N hm).typeIs slot_list_getitem.lookup (wpAny_getItem_list_neg (ls_is N hm) (by omega) (by rw [List.size_toArray]; omega) (by omega) ?_ h) hs
  rw [List.size_toArray, List.getElem?_toArray, show (-1 + (vs.length : Int)).toNat = vs.length - 1 by omega, ← List.getLast?_eq_getElem?]
  exact hx
theorem ls_len (N : News h₀ L s.heap news) (hm : (D, lob vs n) ∈ news) (hfit : vs.length < 2 ^ 62) (h : Q (.int (vs.length : Int) (s.toks + 1)) { s with toks := s.toks + 1 + 1 }) :
    wpAny (model prog w) A (call (.builtin "len") [.ref D]) Q E s :=
  len_list (ls_is N hm) (by rw [List.size_toArray]; omega) (by rw [List.size_toArray]; exact h)
end
noncomputable abbrev stripD (h1 h2 h3 : Int) (t1 t2 t3 : Tok) (u l : Value) (g : Bool) : Obj := dictOf [⟨h1, .str (Str.ofString "uri") t1, u⟩, ⟨h2, .str (Str.ofString "local") t2, l⟩, ⟨h3, .str (Str.ofString "is_stripped") t3, .bool g⟩] 3
noncomputable abbrev ov (t : Tok) : Option Str → Value
  | none => .none
  | some x => .str x t
noncomputable def rankOf : Option Str → Option Str → Int
  | none, none => 0
  | some _, none => 1
  | _, some _ => 2
noncomputable def fitsOf (U V : Str) : Option Str → Option Str → Bool
  | none, none => true
  | some u, none => u == U
  | none, some _ => false
  | some u, some l => u == U && l == V
section
variable {prog : Program} {w : World} {A : Around} {E : Value → Shared → Prop} {s : Shared} {h₀ : Heap} {L : Addr} {news : List (Addr × Obj)} {x y : Value} {d e : Dat} {Q : Value → Shared → Prop}
theorem dat_eqv (hd : kqdOk 8 d = true) (he : kqdOk 8 e = true) [Decidable (d = e)] : PyData.eqv (kqdP d) (kqdP e) = decide (d = e) := by
  have q := kqd_eqv 8 d e 8 hd he
  by_cases hq : d = e
  · rw [decide_eq_true hq]; exact q.mpr hq
  · rw [decide_eq_false hq]; exact Bool.eq_false_iff.mpr fun x => hq (q.mp x)
theorem dat_shaped (hd : kqdOk 8 d = true) : SeqAt.shaped (kqdP d) = true := by
  have la := kqd_lay 8 d hd
  unfold SeqAt.shaped; rw [la.1, Bool.true_and]; exact decide_eq_true (Nat.le_trans la.2 (by decide))
open Classical in
theorem dat_eq (N : News h₀ L s.heap news) (Dx : DatIn news x d) (Dy : DatIn news y e) (hd : kqdOk 8 d = true) (he : kqdOk 8 e = true) (hu : A.units + 64 < cLine) (h : Q (.bool (decide (d = e))) s) :
    wpAny (model prog w) A (compareOp .Eq x y) Q E s := by
  obtain ⟨as, ra⟩ := kqd_in N 8 Dx hd
  obtain ⟨bs, rb⟩ := kqd_in N 8 Dy he
  exact eq_dataH ra rb (dat_shaped hd) (dat_shaped he) hu (by rw [dat_eqv hd he]; exact h)
open Classical in
theorem dat_ne (N : News h₀ L s.heap news) (Dx : DatIn news x d) (Dy : DatIn news y e) (hd : kqdOk 8 d = true) (he : kqdOk 8 e = true) (hu : A.units + 64 < cLine) (h : Q (.bool (!decide (d = e))) s) :
    wpAny (model prog w) A (compareOp .NotEq x y) Q E s := by
  obtain ⟨as, ra⟩ := kqd_in N 8 Dx hd
  obtain ⟨bs, rb⟩ := kqd_in N 8 Dy he
  exact ne_dataH ra rb (dat_shaped hd) (dat_shaped he) hu (by rw [dat_eqv hd he]; exact h)
end
theorem bits_m31 (x : Int) : Builtin.Int.intBits (x.fmod 2147483647) ≤ 64 := by
  have h1 := Int.fmod_nonneg_of_pos x (b := 2147483647) (by decide)
  have h2 := Int.fmod_lt_of_pos x (b := 2147483647) (by decide)
  exact intBits_le_64 (by omega) (by omega)
section
variable {M : Model} {A : Around} {E : Value → Shared → Prop} {s : Shared} {g : Heap} {L : Addr} {mean : ExcName → Option Value} {m mg mb : Str → Option Value} {news : List (Addr × Obj)} {p : Program} {loose : List Str} {K : Frag} {x : Str} {v : Value} {pos : Pos} {env : Env} {Q : Value → Shared → Prop} {c : Addr} {o : Obj}
theorem nameE_K (F : Fr g L s.heap m) (X : K.In g) (T : Top p loose mean mg mb g) (e : nsIn K mainGlobals x = some (some v)) (h : Q v s) (hg : env.globals = mainGlobals) (hk : env.scope.kind = .function) (hx : env.kindOf x = some .globalImplicit) (hd : (x == ("__debug__" : Str)) = false) :
    wpAny M A (eval (.Name x pos) env) Q E s := Name_function_global hk hx (loadGlobal_global (env := env) (by rw [hg]; exact T.g.keeps F.keep) (mg_of X T.g e) h) hd
theorem nameE_C (N : News g L s.heap news) (hc : env.cells.lookup x = some c) (hm : (c, o) ∈ news) (hd : o.data = .cell (some v)) (h : Q v s) (hk : env.scope.kind = .function) (hx : env.kindOf x = some .cell) (hb : (x == ("__debug__" : Str)) = false) :
    wpAny M A (eval (.Name x pos) env) Q E s := wpAny_Name (wpAny_loadName_cell hk hx hc ⟨o, N.get hm, hd⟩ h) hb
end
theorem mul_m31 {prog : Program} {w : World} {A : Around} {E : Value → Shared → Prop} {s : Shared} {x b : Int} {t u : Tok} {Q : Value → Shared → Prop} (h : Q (.int (x.fmod 2147483647 * b) s.toks) { s with toks := s.toks + 1 }) :
    wpAny (model prog w) A (binaryOp .Mult (.int (x.fmod 2147483647) t) (.int b u)) Q E s := mul_int h (IntMulOk.of_left (bits_m31 _))
theorem fmc {α : Type} {p : α → Prop} {a : α} {l : List α} (h : p a) (t : ∀ x ∈ l, p x) : ∀ x ∈ a :: l, p x := List.forall_mem_cons.mpr ⟨h, t⟩
theorem fill9 : (Mine.hd.heap_39 = Mine.hd.heap_39) ∧ PySem.Challenge.rw_xm0640_01.prog = PySem.Challenge.rw_xm0640_01.prog := by
  w_top off
  k_fill
  exact ⟨rfl, rfl⟩
end
end Mine
end
set_option hygiene false
local macro_rules | `(tactic| walk_at "binaryOp Mult int int") => `(tactic| apply mul_m31)
local macro_rules | `(tactic| walk_at "mine E") => `(tactic| with_reducible show wpAny _ _ (eval _ (compEnvC _ _ _ _)) _ _ _)
local macro_rules | `(tactic| ke_room) => `(tactic| ktr_units)
local macro_rules | `(tactic| k_room) => `(tactic| ktr_room)
local macro_rules | `(tactic| walk_at "SrcLP") => `(tactic| (k_here; k_dflt (refine LCp.SrcLP.ledger rfl (by k_asm) (by k_asm) (by k_mem) ‹_› ?_); intro _))
local macro_rules | `(tactic| walk_at "CompSrc") => `(tactic| (k_here; k_dflt (refine LCg.CompSrc.ledger rfl (by k_asm) (by k_asm) (by k_mem) ‹_› ?_); intro _))
local macro_rules | `(tactic| k_mem) => `(tactic| first | with_reducible assumption | (apply List.mem_cons_of_mem; k_mem))
local macro_rules | `(tactic| walk_at "mine sub") => `(tactic| repeat' (first | exact List.forall_mem_nil _ | (apply fmc; k_mem) | (intros; k_mem)))
local macro_rules | `(tactic| lcg_off) => `(tactic| assumption)
local macro_rules | `(tactic| walk_at "mine name") => `(tactic| first | with_reducible assumption | exact rfl | (refine (if_neg (by decide)).trans ?_; walk_at "mine name") | exact if_pos rfl)
local macro_rules | `(tactic| k_all) => `(tactic| with_reducible assumption)
local macro_rules | `(tactic| ktr_room) => `(tactic| first | exact room1 ‹_› rfl | exact room0 ‹_› rfl | exact roomz1 ‹_› rfl | exact roomz ‹_›)
local macro_rules | `(tactic| ktr_units) => `(tactic| first | exact unit3 ‹_› rfl | exact unit0 ‹_› rfl)
local macro_rules | `(tactic| walk_at "storeName") => `(tactic| (k_here; k_dflt (refine' storeX_Llet (by k_asm) (by k_asm) ?_ rfl rfl; k_whole; intro _ _ _ _; try k_sweep)))
local macro_rules | `(tactic| walk_at "call ref") => `(tactic| (k_fold; walk_at "call ref"))
local macro_rules | `(tactic| walk_at "mine ok") => `(tactic| ((try simp only [kqdOk, List.all_cons, List.all_nil, Bool.and_true, Bool.true_and, Bool.and_eq_true]); repeat' (first | assumption | rfl | apply And.intro)))
local macro_rules | `(tactic| walk_at "compareOp Eq ref ref") => `(tactic| (k_here; k_dflt (refine' dat_eq (by k_asm) (by kqd_in) (by kqd_in) (by walk_at "mine ok") (by walk_at "mine ok") (by ktr_units) ?_; k_whole)))
local macro_rules | `(tactic| walk_at "compareOp NotEq ref ref") => `(tactic| (k_here; k_dflt (refine' dat_ne (by k_asm) (by kqd_in) (by kqd_in) (by walk_at "mine ok") (by walk_at "mine ok") (by ktr_units) ?_; k_whole)))
local macro_rules | `(tactic| walk_at "call builtin:len") => `(tactic| (k_here; (with_reducible show wpAny _ _ (call (Value.builtin "len") [Value.ref _]) _ _ _); k_dflt (refine ls_len (by k_asm) (by k_mem) (by (try simp only [List.length_append, List.length_cons, List.length_nil]); omega) ?_)))
local macro_rules | `(tactic| walk_at "eval Name") => `(tactic| (k_here; first | k_dflt (refine' nameX_C (by k_asm) rfl (by k_all) (by k_all) ?_) | k_dflt (refine' nameX_F (by k_asm) rfl (by k_all) (by k_all) ?_) | (walk_at "mine E"; k_dflt (first | refine' nameE_C (by k_asm) rfl (by k_all) (by k_all) ?_ rfl rfl (by decide) | refine' nameE_K (by k_asm) (by k_asm) (by k_asm) (by k_is) ?_ rfl rfl rfl (by decide))); k_dflt k_whole))
set_option hygiene true
local macro_rules | `(tactic| walk_at "eval Name") => `(tactic| (k_here; (with_reducible rename PyProof.Rows.Fr _ _ _ _ => kF); k_dflt (refine' PySem.W.nameX_L kF (by walk_at "mine name") ?_; k_whole)))
open PySem PySem.W PyProof.Rows
namespace Mine
section
open PySem PySem.W PySem.Spec PySem.Calls PyProof.Rows
set_option rowWalk.seconds 0
section
noncomputable def oFd (o : Obj) : FuncData := match o.data with | .func fd => fd | _ => default
noncomputable def fdB (fd : FuncData) : List Stmt := match fd.body with | .stmts l => l | _ => []
noncomputable def lN (l : List Stmt) (n : Nat) : Stmt := match l, n with | s :: _, 0 => s | _ :: r, n + 1 => lN r n | [], _ => .Pass ⟨0, 0, 0, 0⟩
noncomputable def forB (s : Stmt) : Expr × Expr × List Stmt × Pos := match s with | .For t i b _ p => (t, i, b, p) | _ => (.Name (Str.ofString "") ⟨0, 0, 0, 0⟩, .Name (Str.ofString "") ⟨0, 0, 0, 0⟩, [], ⟨0, 0, 0, 0⟩)
noncomputable def ifB (s : Stmt) : Expr × List Stmt × Pos := match s with | .If t b _ p => (t, b, p) | _ => (.Name (Str.ofString "") ⟨0, 0, 0, 0⟩, [], ⟨0, 0, 0, 0⟩)
theorem body9 {K : Frag} {f : Addr} {oc oc' : Value} {od od' : Option Addr} {name qual name' qual' : Str} {params params' : Arguments} {s1 s2 s3 s4 s5 s6 s7 s8 s9 : Stmt} {s1' s2' s3' s4' s5' s6' s7' s8' s9' : Stmt} {scope scope' : Scope} {dV kV doc pm cdv ct dV' kV' doc' pm' cdv' ct' : Value} {an an' : Option Addr} {osl osl' : Array (Option Value)} {P : Str → Scope → Value → Stmt → Stmt → Stmt → Stmt → Stmt → Stmt → Stmt → Stmt → Stmt → Prop}
    (hb : K.lookup f = some ⟨oc, od, .func (fnOf name qual params [s1, s2, s3, s4, s5, s6, s7, s8, s9] scope dV kV doc pm an cdv ct), osl⟩) (hl : K.lookup f = some ⟨oc', od', .func (fnOf name' qual' params' [s1', s2', s3', s4', s5', s6', s7', s8', s9'] scope' dV' kV' doc' pm' an' cdv' ct'), osl'⟩)
    (h : K.lookup f = some ⟨oc', od', .func (fnOf name' qual' params' [s1', s2', s3', s4', s5', s6', s7', s8', s9'] scope' dV' kV' doc' pm' an' cdv' ct'), osl'⟩ → P qual' scope' cdv' s1' s2' s3' s4' s5' s6' s7' s8' s9') : P qual scope cdv s1 s2 s3 s4 s5 s6 s7 s8 s9 := by
  have e := Option.some.inj (hb.symm.trans hl)
  exact (congrArg (fun o => P (oFd o).qualname (oFd o).scope (oFd o).code (lN (fdB (oFd o)) 0) (lN (fdB (oFd o)) 1) (lN (fdB (oFd o)) 2) (lN (fdB (oFd o)) 3) (lN (fdB (oFd o)) 4) (lN (fdB (oFd o)) 5) (lN (fdB (oFd o)) 6) (lN (fdB (oFd o)) 7) (lN (fdB (oFd o)) 8)) e).mpr (h hl)
theorem body7 {K : Frag} {f : Addr} {oc oc' : Value} {od od' : Option Addr} {name qual name' qual' : Str} {params params' : Arguments} {s1 s2 s3 s4 s5 s6 s7 : Stmt} {s1' s2' s3' s4' s5' s6' s7' : Stmt} {scope scope' : Scope} {dV kV doc pm cdv ct dV' kV' doc' pm' cdv' ct' : Value} {an an' : Option Addr} {osl osl' : Array (Option Value)} {P : Str → Scope → Value → Stmt → Stmt → Stmt → Stmt → Stmt → Stmt → Stmt → Prop}
    (hb : K.lookup f = some ⟨oc, od, .func (fnOf name qual params [s1, s2, s3, s4, s5, s6, s7] scope dV kV doc pm an cdv ct), osl⟩) (hl : K.lookup f = some ⟨oc', od', .func (fnOf name' qual' params' [s1', s2', s3', s4', s5', s6', s7'] scope' dV' kV' doc' pm' an' cdv' ct'), osl'⟩)
    (h : K.lookup f = some ⟨oc', od', .func (fnOf name' qual' params' [s1', s2', s3', s4', s5', s6', s7'] scope' dV' kV' doc' pm' an' cdv' ct'), osl'⟩ → P qual' scope' cdv' s1' s2' s3' s4' s5' s6' s7') : P qual scope cdv s1 s2 s3 s4 s5 s6 s7 := by
  have e := Option.some.inj (hb.symm.trans hl)
  exact (congrArg (fun o => P (oFd o).qualname (oFd o).scope (oFd o).code (lN (fdB (oFd o)) 0) (lN (fdB (oFd o)) 1) (lN (fdB (oFd o)) 2) (lN (fdB (oFd o)) 3) (lN (fdB (oFd o)) 4) (lN (fdB (oFd o)) 5) (lN (fdB (oFd o)) 6)) e).mpr (h hl)
theorem bodyA {K : Frag} {f : Addr} {oc oc' : Value} {od od' : Option Addr} {name qual name' qual' : Str} {params params' : Arguments} {s1 s2 s4 b1 b2 b4 b5 : Stmt} {t1 t2 i1 i2 : Expr} {body2 : List Stmt} {p1 p2 : Pos} {s1' s2' s4' b1' b2' b4' b5' : Stmt} {t1' t2' i1' i2' : Expr} {body2' : List Stmt} {p1' p2' : Pos} {scope scope' : Scope} {dV kV doc pm cdv ct dV' kV' doc' pm' cdv' ct' : Value} {an an' : Option Addr} {osl osl' : Array (Option Value)} {P : Str → Scope → Value → Stmt → Stmt → Stmt → Stmt → Stmt → Stmt → Stmt → Expr → Expr → Expr → Expr → List Stmt → Pos → Pos → Prop}
    (hb : K.lookup f = some ⟨oc, od, .func (fnOf name qual params [s1, s2, .For t1 i1 [b1, b2, .For t2 i2 body2 [] p2, b4, b5] [] p1, s4] scope dV kV doc pm an cdv ct), osl⟩) (hl : K.lookup f = some ⟨oc', od', .func (fnOf name' qual' params' [s1', s2', .For t1' i1' [b1', b2', .For t2' i2' body2' [] p2', b4', b5'] [] p1', s4'] scope' dV' kV' doc' pm' an' cdv' ct'), osl'⟩)
    (h : K.lookup f = some ⟨oc', od', .func (fnOf name' qual' params' [s1', s2', .For t1' i1' [b1', b2', .For t2' i2' body2' [] p2', b4', b5'] [] p1', s4'] scope' dV' kV' doc' pm' an' cdv' ct'), osl'⟩ → P qual' scope' cdv' s1' s2' s4' b1' b2' b4' b5' t1' t2' i1' i2' body2' p1' p2') : P qual scope cdv s1 s2 s4 b1 b2 b4 b5 t1 t2 i1 i2 body2 p1 p2 := by
  have e := Option.some.inj (hb.symm.trans hl)
  exact (congrArg (fun o => P (oFd o).qualname (oFd o).scope (oFd o).code (lN (fdB (oFd o)) 0) (lN (fdB (oFd o)) 1) (lN (fdB (oFd o)) 3) (lN (forB (lN (fdB (oFd o)) 2)).2.2.1 0) (lN (forB (lN (fdB (oFd o)) 2)).2.2.1 1) (lN (forB (lN (fdB (oFd o)) 2)).2.2.1 3) (lN (forB (lN (fdB (oFd o)) 2)).2.2.1 4) (forB (lN (fdB (oFd o)) 2)).1 (forB (lN (forB (lN (fdB (oFd o)) 2)).2.2.1 2)).1 (forB (lN (fdB (oFd o)) 2)).2.1 (forB (lN (forB (lN (fdB (oFd o)) 2)).2.2.1 2)).2.1 (forB (lN (forB (lN (fdB (oFd o)) 2)).2.2.1 2)).2.2.1 (forB (lN (fdB (oFd o)) 2)).2.2.2 (forB (lN (forB (lN (fdB (oFd o)) 2)).2.2.1 2)).2.2.2) e).mpr (h hl)
theorem bodyB {K : Frag} {f : Addr} {oc oc' : Value} {od od' : Option Addr} {name qual name' qual' : Str} {params params' : Arguments} {s1 s2 s4 b1 b2 b4 b5 c1 c2 c3 c4 : Stmt} {t1 t2 i1 i2 te : Expr} {p1 p2 p3 : Pos} {s1' s2' s4' b1' b2' b4' b5' c1' c2' c3' c4' : Stmt} {t1' t2' i1' i2' te' : Expr} {p1' p2' p3' : Pos} {scope scope' : Scope} {dV kV doc pm cdv ct dV' kV' doc' pm' cdv' ct' : Value} {an an' : Option Addr} {osl osl' : Array (Option Value)} {P : Str → Scope → Value → Stmt → Stmt → Stmt → Stmt → Stmt → Stmt → Stmt → Stmt → Stmt → Stmt → Stmt → Expr → Expr → Expr → Expr → Expr → Pos → Pos → Pos → Prop}
    (hb : K.lookup f = some ⟨oc, od, .func (fnOf name qual params [s1, s2, .For t1 i1 [b1, b2, .For t2 i2 [.If te [c1, c2, c3, c4] [] p3] [] p2, b4, b5] [] p1, s4] scope dV kV doc pm an cdv ct), osl⟩) (hl : K.lookup f = some ⟨oc', od', .func (fnOf name' qual' params' [s1', s2', .For t1' i1' [b1', b2', .For t2' i2' [.If te' [c1', c2', c3', c4'] [] p3'] [] p2', b4', b5'] [] p1', s4'] scope' dV' kV' doc' pm' an' cdv' ct'), osl'⟩)
    (h : K.lookup f = some ⟨oc', od', .func (fnOf name' qual' params' [s1', s2', .For t1' i1' [b1', b2', .For t2' i2' [.If te' [c1', c2', c3', c4'] [] p3'] [] p2', b4', b5'] [] p1', s4'] scope' dV' kV' doc' pm' an' cdv' ct'), osl'⟩ → P qual' scope' cdv' s1' s2' s4' b1' b2' b4' b5' c1' c2' c3' c4' t1' t2' i1' i2' te' p1' p2' p3') : P qual scope cdv s1 s2 s4 b1 b2 b4 b5 c1 c2 c3 c4 t1 t2 i1 i2 te p1 p2 p3 := by
  have e := Option.some.inj (hb.symm.trans hl)
  exact (congrArg (fun o => P (oFd o).qualname (oFd o).scope (oFd o).code (lN (fdB (oFd o)) 0) (lN (fdB (oFd o)) 1) (lN (fdB (oFd o)) 3) (lN (forB (lN (fdB (oFd o)) 2)).2.2.1 0) (lN (forB (lN (fdB (oFd o)) 2)).2.2.1 1) (lN (forB (lN (fdB (oFd o)) 2)).2.2.1 3) (lN (forB (lN (fdB (oFd o)) 2)).2.2.1 4) (lN (ifB (lN (forB (lN (forB (lN (fdB (oFd o)) 2)).2.2.1 2)).2.2.1 0)).2.1 0) (lN (ifB (lN (forB (lN (forB (lN (fdB (oFd o)) 2)).2.2.1 2)).2.2.1 0)).2.1 1) (lN (ifB (lN (forB (lN (forB (lN (fdB (oFd o)) 2)).2.2.1 2)).2.2.1 0)).2.1 2) (lN (ifB (lN (forB (lN (forB (lN (fdB (oFd o)) 2)).2.2.1 2)).2.2.1 0)).2.1 3) (forB (lN (fdB (oFd o)) 2)).1 (forB (lN (forB (lN (fdB (oFd o)) 2)).2.2.1 2)).1 (forB (lN (fdB (oFd o)) 2)).2.1 (forB (lN (forB (lN (fdB (oFd o)) 2)).2.2.1 2)).2.1 (ifB (lN (forB (lN (forB (lN (fdB (oFd o)) 2)).2.2.1 2)).2.2.1 0)).1 (forB (lN (fdB (oFd o)) 2)).2.2.2 (forB (lN (forB (lN (fdB (oFd o)) 2)).2.2.1 2)).2.2.2 (ifB (lN (forB (lN (forB (lN (fdB (oFd o)) 2)).2.2.1 2)).2.2.1 0)).2.2) e).mpr (h hl)
end
section
theorem rank_con (prog : Program) (w : World) (news : List (Addr × Obj)) (x dx : Addr) (h1 h2 h3 : Int) (t1 t2 t3 tu tl : Tok) (u l : Option Str) (g : Bool)
    (hx : (x, instObj 231 dx) ∈ news) (hd : (dx, stripD h1 h2 h3 t1 t2 t3 (ov tu u) (ov tl l) g) ∈ news) :
    Con prog w 10 200 221 [.ref x] news (fun r news' => (∃ t, r = .int (rankOf u l) t) ∧ news' = news) := by
  unfold Con
  cases u <;> cases l <;> dsimp only [ov] at hd
  all_goals (intro p loose mean mg mb dp un gd cn cs ad ccd cl outer A₀ base h₀ L m s Q E B F X N T hk hdp hu hret; refine wpAny_call ?_; k_dflt ktr_enter; (refine env_let (t := fun e => execs _ e) ?_; intro ev Av); (with_reducible rename Fr _ _ _ (fun _ => _) => kF0; refine fr_let kF0 ?_; clear kF0; intro m0 kF0))
  all_goals (repeat' (first | (k_unfold; (try dsimp only)) | (k_end; wrow_close) | walk1 | (dsimp only; walk1) | fail "no step"))
  all_goals (rename News _ _ _ _ => kN; rename Fr _ _ _ _ => kF; refine hret _ _ _ _ kF kN ?_)
  all_goals exact ⟨⟨_, rfl⟩, rfl⟩
theorem fits_con (prog : Program) (w : World) (news : List (Addr × Obj)) (x dx : Addr) (h1 h2 h3 : Int) (t1 t2 t3 tu tl tU tL : Tok) (u l : Option Str) (U V : Str) (g : Bool) (hul : u = none → l = none)
    (hu : ∀ x, u = some x → PyData.strOk x = true) (hl : ∀ x, l = some x → PyData.strOk x = true) (hU : PyData.strOk U = true) (hV : PyData.strOk V = true)
    (hx : (x, instObj 231 dx) ∈ news) (hd : (dx, stripD h1 h2 h3 t1 t2 t3 (ov tu u) (ov tl l) g) ∈ news) :
    Con prog w 10 200 228 [.ref x, .str U tU, .str V tL] news (fun r news' => r = .bool (fitsOf U V u l) ∧ ∀ p ∈ news, p ∈ news') := by
  unfold Con
  cases u <;> cases l <;> dsimp only [ov] at hd
  case none.some => exact absurd (hul rfl) (by simp)
  case' some.some => (have hu1 := hu _ rfl; have hl1 := hl _ rfl)
  all_goals clear hu hl
  all_goals (intro p loose mean mg mb dp un gd cn cs ad ccd cl outer A₀ base h₀ L m s Q E B F X N T hk hdp hu hret; refine wpAny_call ?_; k_dflt ktr_enter; (refine env_let (t := fun e => execs _ e) ?_; intro ev Av); (with_reducible rename Fr _ _ _ (fun _ => _) => kF0; refine fr_let kF0 ?_; clear kF0; intro m0 kF0))
  all_goals (repeat' (first | (k_unfold; (try dsimp only)) | (k_end; wrow_close) | walk1 | (dsimp only; walk1) | fail "no step"))
  all_goals (rename News _ _ _ _ => kN; rename Fr _ _ _ _ => kF; refine hret _ _ _ _ kF kN ?_)
  all_goals first | exact ⟨rfl, fun p hp => hp⟩ | exact ⟨by (refine congrArg Value.bool (Bool.eq_iff_iff.mpr ?_); simp [fitsOf]), fun p hp => List.mem_cons_of_mem _ (List.mem_cons_of_mem _ hp)⟩
end
section
structure RowV where
  u : Option Str
  l : Option Str
  g : Bool
noncomputable def od : Option Str → Dat
  | none => .none
  | some x => .str x
noncomputable def RowV.dat (r : RowV) : Dat := .tuple [.tuple [od r.u, od r.l], .bool r.g]
structure RowV.Ok (r : RowV) : Prop where
  ul : r.u = none → r.l = none
  su : ∀ x, r.u = some x → PyData.strOk x = true
  sl : ∀ x, r.l = some x → PyData.strOk x = true
section
variable {prog : Program} {w : World} {A : Around} {E : Value → Shared → Prop} {s : Shared} {h₀ : Heap} {L : Addr} {m : Str → Option Value} {env : Env}
theorem restP_ind {elt : Expr} {x x₂ : Str} {scope : Scope} {cl : List (Str × Addr)} {S : List (Addr × Obj) → Prop} {P : Nat → Value → Prop} {Fin : List Value → List (Addr × Obj) → Prop} (Inv : Nat → List Value → List (Addr × Obj) → Prop) (n : Nat)
    (step : ∀ i ys news, i < n → Inv i ys news → ∀ v, P i v → ∀ G : Prop, (∀ (t : Addr) (ot : Obj) (v₁ v₂ : Value) (nt : Nat), v = .ref t → (t, ot) ∈ news → ot.cls = .type "tuple" → ot.data = .seq #[v₁, v₂] nt →
      (∀ I oI C oC D m₂ h tk (E' : Value → Shared → Prop) (zQ : Value → Shared → Prop), (∀ y s', LCg.CompEnd h₀ L m { s with heap := h, toks := tk } I oI C oC D (LCg.lst ys) S (fun y news' => Inv (i + 1) (ys ++ [y]) news') y s' → zQ y s') → LCg.NsObj oC m₂ → m₂ x = some v₁ → m₂ x₂ = some v₂ → Fr h₀ L h m → News h₀ L h ((I, oI) :: (C, oC) :: (D, LCg.lst ys) :: news) → LCg.Off3 I C D news → ((@Ne Nat I C) ∧ (@Ne Nat I D) ∧ (@Ne Nat C D)) →
        wpAny (model prog w) A (eval elt (compEnvC scope cl C env)) zQ E' { s with heap := h, toks := tk }) → G) → G)
    (fin : ∀ ys news, Inv n ys news → Fin ys news) : ∀ (k i : Nat) (ys : List Value) (news : List (Addr × Obj)), k + i = n → Inv i ys news → LCp.CompRestP prog w A h₀ L m env elt x x₂ scope cl s S P Fin k i ys news := by
  intro k
  induction k with
  | zero => intro i ys news e hI; rw [Nat.zero_add] at e; subst e; exact fin _ _ hI
  | succ k ih =>
    intro i ys news e hI v hv
    refine step i ys news (by omega) hI v hv _ fun t ot v₁ v₂ nt e1 e2 e3 e4 e5 => ⟨t, ot, v₁, v₂, nt, e1, e2, e3, e4, fun I oI C oC D m₂ h tk E' a b c F N o q => ?_⟩
    refine wpAny_mono (e5 I oI C oC D m₂ h tk E' _ (fun _ _ z => z) a b c F N o q) (fun y s' hy => ?_) fun _ _ z => z
    obtain ⟨h', tk', news', z1, z2, z3, z4, z5, z6⟩ := hy
    exact ⟨h', tk', news', z1, z2, z3, z4, z5, ih (i + 1) _ _ (by omega) z6⟩
theorem rest_ind {elt : Expr} {x : Str} {scope : Scope} {cl : List (Str × Addr)} {S : List (Addr × Obj) → Prop} {P : Nat → Value → Prop} {Fin : List Value → List (Addr × Obj) → Prop} (Inv : Nat → List Value → List (Addr × Obj) → Prop) (n : Nat)
    (step : ∀ i ys news, i < n → Inv i ys news → ∀ v, P i v → ∀ I oI C oC D m₂ h tk (E' : Value → Shared → Prop) (zQ : Value → Shared → Prop), (∀ y s', LCg.CompEnd h₀ L m { s with heap := h, toks := tk } I oI C oC D (LCg.lst ys) S (fun y news' => Inv (i + 1) (ys ++ [y]) news') y s' → zQ y s') → LCg.NsObj oC m₂ → m₂ x = some v → Fr h₀ L h m → News h₀ L h ((I, oI) :: (C, oC) :: (D, LCg.lst ys) :: news) → LCg.Off3 I C D news → ((@Ne Nat I C) ∧ (@Ne Nat I D) ∧ (@Ne Nat C D)) →
        wpAny (model prog w) A (eval elt (compEnvC scope cl C env)) zQ E' { s with heap := h, toks := tk })
    (fin : ∀ ys news, Inv n ys news → Fin ys news) : ∀ (k i : Nat) (ys : List Value) (news : List (Addr × Obj)), k + i = n → Inv i ys news → LCg.CompRest prog w A h₀ L m env elt x scope cl s S P Fin k i ys news := by
  intro k
  induction k with
  | zero => intro i ys news e hI; rw [Nat.zero_add] at e; subst e; exact fin _ _ hI
  | succ k ih =>
    intro i ys news e hI v I oI C oC D m₂ h tk E' hv a b F N o q
    refine wpAny_mono (step i ys news (by omega) hI v hv I oI C oC D m₂ h tk E' _ (fun _ _ z => z) a b F N o q) (fun y s' hy => ?_) fun _ _ z => z
    obtain ⟨h', tk', news', z1, z2, z3, z4, z5, z6⟩ := hy
    exact ⟨h', tk', news', z1, z2, z3, z4, z5, ih (i + 1) _ _ (by omega) z6⟩
end
structure SD where
  x : Addr
  dx : Addr
  h1 : Int
  h2 : Int
  h3 : Int
  t1 : Tok
  t2 : Tok
  t3 : Tok
  tu : Tok
  tl : Tok
/-- the strips that stand for the first rows -/
noncomputable def StripIs (news : List (Addr × Obj)) (v : Value) (r : RowV) : Prop :=
  ∃ d : SD, v = .ref d.x ∧ (d.x, instObj 231 d.dx) ∈ news ∧ (d.dx, stripD d.h1 d.h2 d.h3 d.t1 d.t2 d.t3 (ov d.tu r.u) (ov d.tl r.l) r.g) ∈ news
inductive StripsAre (news : List (Addr × Obj)) : List Value → List RowV → Prop
  | nil : StripsAre news [] []
  | cons {v vs r rs} : StripIs news v r → StripsAre news vs rs → StripsAre news (v :: vs) (r :: rs)
theorem StripIs.dat {n1 n2 : List (Addr × Obj)} (hs : ∀ p ∈ n1, (∀ v, p.2.data ≠ .cell v) → p ∈ n2) {v : Value} {r : RowV} (X : StripIs n1 v r) : StripIs n2 v r := by
  obtain ⟨d, e, a, b⟩ := X
  exact ⟨d, e, hs _ a (fun _ q => by cases q), hs _ b (fun _ q => by cases q)⟩
theorem StripsAre.dat {n1 n2 : List (Addr × Obj)} (hs : ∀ p ∈ n1, (∀ v, p.2.data ≠ .cell v) → p ∈ n2) {vs : List Value} {rs : List RowV} (X : StripsAre n1 vs rs) : StripsAre n2 vs rs := by
  induction X with
  | nil => exact .nil
  | cons a _ ih => exact .cons (a.dat hs) ih
theorem StripsAre.mono {n1 n2 : List (Addr × Obj)} (hs : ∀ p ∈ n1, p ∈ n2) {vs : List Value} {rs : List RowV} (X : StripsAre n1 vs rs) : StripsAre n2 vs rs := X.dat fun p hp _ => hs p hp
theorem StripsAre.snoc {news : List (Addr × Obj)} {v : Value} {r : RowV} {vs : List Value} {rs : List RowV} (X : StripsAre news vs rs) (h : StripIs news v r) : StripsAre news (vs ++ [v]) (rs ++ [r]) := by
  induction X with
  | nil => exact .cons h .nil
  | cons a _ ih => exact .cons a ih
theorem StripsAre.length {news : List (Addr × Obj)} {vs : List Value} {rs : List RowV} (X : StripsAre news vs rs) : vs.length = rs.length := by
  induction X with
  | nil => rfl
  | cons _ _ ih => exact congrArg (· + 1) ih
theorem StripsAre.get {news : List (Addr × Obj)} {vs : List Value} {rs : List RowV} (X : StripsAre news vs rs) : ∀ {i : Nat} {v : Value}, vs[i]? = some v → ∃ r, rs[i]? = some r ∧ StripIs news v r := by
  induction X with
  | nil => intro i v e; cases e
  | cons a _ ih =>
    intro i v e
    cases i with
    | zero => cases e; exact ⟨_, rfl, a⟩
    | succ i => exact ih e
theorem dat_get {news : List (Addr × Obj)} : ∀ {vs : List Value} {ds : List Dat}, DatAll news vs ds → ∀ {i : Nat} {v : Value}, vs[i]? = some v → ∃ d, ds[i]? = some d ∧ DatIn news v d := by
  intro vs
  induction vs with
  | nil => intro ds h i v e; simp at e
  | cons x r ih =>
    intro ds h i v e
    cases h with
    | cons a b =>
      cases i with
      | zero => cases e; exact ⟨_, rfl, a⟩
      | succ i => exact ih b e
theorem od_in {news : List (Addr × Obj)} {v : Value} {o : Option Str} (h : DatIn news v (od o)) : ∃ t, v = ov t o := by
  cases o with
  | none => cases h; exact ⟨0, rfl⟩
  | some x => cases h; exact ⟨_, rfl⟩
/-- a row, opened -/
theorem row_in {news : List (Addr × Obj)} {v : Value} {r : RowV} (h : DatIn news v r.dat) : ∃ (a b : Addr) (n n' : Nat) (tu tl : Tok), v = .ref a ∧ (a, tob [.ref b, .bool r.g] n) ∈ news ∧ (b, tob [ov tu r.u, ov tl r.l] n') ∈ news := by
  cases h with
  | tuple h1 h2 =>
    cases h2 with
    | cons h3 h4 =>
      cases h4 with
      | cons h5 h6 =>
        cases h6
        cases h5
        cases h3 with
        | tuple h7 h8 =>
          cases h8 with
          | cons h9 h10 =>
            cases h10 with
            | cons h11 h12 =>
              cases h12
              obtain ⟨tu, rfl⟩ := od_in h9
              obtain ⟨tl, rfl⟩ := od_in h11
              exact ⟨_, _, _, _, tu, tl, rfl, h1, h7⟩
section
variable {h₀ : Heap} {L I C D : Addr} {m : Str → Option Value} {s₁ : Shared} {oI oC oD : Obj} {S : List (Addr × Obj) → Prop} {rest : Value → List (Addr × Obj) → Prop} {y : Value} {h' : Heap} {tk : Nat} {nx : List (Addr × Obj)} {e1 e2 e3 e4 : Addr × Obj}
noncomputable abbrev Off1x (I C D : Addr) (p : Addr × Obj) : Prop := (@Ne Nat p.1 I) ∧ (@Ne Nat p.1 C) ∧ (@Ne Nat p.1 D)
theorem compEndG (add : List (Addr × Obj)) (F : Fr h₀ L h' m) (N : News h₀ L h' (add ++ (I, oI) :: (C, oC) :: (D, oD) :: nx)) (off : LCg.Off3 I C D nx) (n : ∀ p ∈ add, Off1x I C D p)
    (hS : S (add ++ nx)) (r : rest y (add ++ nx)) : LCg.CompEnd h₀ L m s₁ I oI C oC D oD S rest y { s₁ with heap := h', toks := tk } :=
  LCg.CompEnd.intro F N (add ++ nx) (fun p hp => by simp only [List.mem_cons, List.mem_append] at *; grind) (LCg.Off3.of fun p hp => (List.mem_append.mp hp).elim (n p) (off.mem p)) hS r
theorem compEnd0 (F : Fr h₀ L h' m) (N : News h₀ L h' ((I, oI) :: (C, oC) :: (D, oD) :: nx)) (off : LCg.Off3 I C D nx) (hS : S nx) (r : rest y nx) : LCg.CompEnd h₀ L m s₁ I oI C oC D oD S rest y { s₁ with heap := h', toks := tk } :=
  compEndG [] F N off (fun _ h => nomatch h) hS r
theorem compEnd1 (F : Fr h₀ L h' m) (N : News h₀ L h' (e1 :: (I, oI) :: (C, oC) :: (D, oD) :: nx)) (off : LCg.Off3 I C D nx) (n1 : Off1x I C D e1) (hS : S (e1 :: nx)) (r : rest y (e1 :: nx)) : LCg.CompEnd h₀ L m s₁ I oI C oC D oD S rest y { s₁ with heap := h', toks := tk } :=
  compEndG [e1] F N off (fun p h => by simp at h; subst h; exact n1) hS r
theorem compEnd2 (F : Fr h₀ L h' m) (N : News h₀ L h' (e1 :: e2 :: (I, oI) :: (C, oC) :: (D, oD) :: nx)) (off : LCg.Off3 I C D nx) (n1 : Off1x I C D e1) (n2 : Off1x I C D e2) (hS : S (e1 :: e2 :: nx)) (r : rest y (e1 :: e2 :: nx)) : LCg.CompEnd h₀ L m s₁ I oI C oC D oD S rest y { s₁ with heap := h', toks := tk } :=
  compEndG [e1, e2] F N off (fun p h => by simp at h; rcases h with rfl | rfl; exact n1; exact n2) hS r
/-- drop what was added -/
theorem compEndD (add : List (Addr × Obj)) (F : Fr h₀ L h' m) (N : News h₀ L h' (add ++ (I, oI) :: (C, oC) :: (D, oD) :: nx)) (off : LCg.Off3 I C D nx) (hS : S nx) (r : rest y nx) : LCg.CompEnd h₀ L m s₁ I oI C oC D oD S rest y { s₁ with heap := h', toks := tk } :=
  LCg.CompEnd.intro F N nx (fun p hp => List.mem_append_right _ hp) off hS r
end
end
section
theorem off1_mem {D : Addr} : ∀ {l : List (Addr × Obj)}, LCg.Off1 D l → ∀ p ∈ l, p.1 ≠ D
  | [], _, _, h => nomatch h
  | _ :: _, x, p, h => by
    rcases List.mem_cons.mp h with rfl | h
    · exact x.1
    · exact off1_mem x.2 p h
section
variable {prog : Program} {w : World} {A : Around} {E : Value → Shared → Prop} {s : Shared} {h₀ : Heap} {env : Env} {target : Expr} {body : List Stmt} {Q : Flow → Shared → Prop}
theorem items_ind {I : Addr} {cn : String} {keep : List (Addr × Obj)} (Inv : Nat → (Str → Option Value) → List (Addr × Obj) → Prop) (all : List Value)
    (turn : ∀ i v m news h tk it, all[i]? = some v → ∀ zQ : Flow → Shared → Prop, (∀ f s', UnrPostW h₀ env.locals { s with heap := h, toks := tk } [(I, it)] (fun m' n' => SubL keep n' ∧ Inv (i + 1) m' n') Q f s' → zQ f s') → Inv i m news → Fr h₀ env.locals h m → News h₀ env.locals h ((I, it) :: news) →
      wpAny (model prog w) A (assign target env v) (fun _ s₂ => wpAny (model prog w) A (execs body env) zQ E s₂) E { s with heap := h, toks := tk })
    (done : ∀ m news, Inv all.length m news → ∀ h tk, Fr h₀ env.locals h m → News h₀ env.locals h news → Q .next { s with heap := h, toks := tk }) :
    ∀ (rest : List Value) (i : Nat) (m : Str → Option Value) (news : List (Addr × Obj)), i ≤ all.length → all.drop i = rest → Inv i m news → ItemsRest prog w A E h₀ env target body Q s [(I, cn)] keep (rest.map .val) m news := by
  intro rest
  induction rest with
  | nil =>
    intro i m news hi e hI h tk F N
    have hle : all.length ≤ i := by simpa using e
    obtain rfl : i = all.length := by omega
    exact done m news hI h tk F N
  | cons v r ih =>
    intro i m news hi e hI u h tk hu F it hc N
    have hu' : u = v := hu
    subst hu'
    have hlt : i < all.length := by
      rcases Nat.lt_or_ge i all.length with q | q
      · exact q
      · rw [List.drop_of_length_le q] at e; cases e
    have hv : all[i]? = some u := by
      have := congrArg (·[0]?) e
      simpa using this
    have hr : all.drop (i + 1) = r := by
      have := congrArg List.tail e
      simpa [List.tail_drop] using this
    refine wpAny_mono (turn i u m news h tk it hv _ (fun _ _ z => z) hI F N) (fun _ s₂ h₂ => wpAny_mono h₂ (fun f s₃ h₃ => ?_) fun _ _ z => z) fun _ _ z => z
    cases f with
    | ret v => exact h₃
    | brk => exact h₃
    | next => obtain ⟨h', tk', m', n', a, b, c, d, e1, e2⟩ := h₃; exact ⟨h', tk', m', n', a, b, c, d, e1, ih (i + 1) m' n' hlt hr e2⟩
    | cont => obtain ⟨h', tk', m', n', a, b, c, d, e1, e2⟩ := h₃; exact ⟨h', tk', m', n', a, b, c, d, e1, ih (i + 1) m' n' hlt hr e2⟩
end
theorem unrEnd_sub {h₀ : Heap} {L I : Addr} {it : Obj} {rest : (Str → Option Value) → List (Addr × Obj) → Prop} {s₁ : Shared} {h' : Heap} {tk : Nat} {m' : Str → Option Value} {all : List (Addr × Obj)} (news' : List (Addr × Obj)) (F : Fr h₀ L h' m') (N : News h₀ L h' all)
    (sub : ∀ p ∈ (I, it) :: news', p ∈ all) (off : ∀ p ∈ news', p.1 ≠ I) (r : rest m' news') : UnrEndW h₀ L s₁ [(I, it)] rest { s₁ with heap := h', toks := tk } :=
  ⟨h', tk, m', news', rfl, F, fun p hp => N p (sub p hp), fun p hp q hq => by rw [List.mem_singleton.mp hq]; exact off p hp, r⟩
section
variable {prog : Program} {w : World} {A : Around} {E : Value → Shared → Prop} {s : Shared} {h₀ : Heap} {L : Addr} {news : List (Addr × Obj)} {x y : Value} {d e : Dat} {Q : Value → Shared → Prop}
theorem dat_eqT (N : News h₀ L s.heap news) (Dx : DatIn news x d) (Dy : DatIn news y e) (hd : kqdOk 8 d = true) (he : kqdOk 8 e = true) (hu : A.units + 64 < cLine) (q : d = e) (h : Q (.bool true) s) :
    wpAny (model prog w) A (compareOp .Eq x y) Q E s := dat_eq N Dx Dy hd he hu (by simpa [q] using h)
theorem dat_eqF (N : News h₀ L s.heap news) (Dx : DatIn news x d) (Dy : DatIn news y e) (hd : kqdOk 8 d = true) (he : kqdOk 8 e = true) (hu : A.units + 64 < cLine) (q : d ≠ e) (h : Q (.bool false) s) :
    wpAny (model prog w) A (compareOp .Eq x y) Q E s := dat_eq N Dx Dy hd he hu (by simpa [q] using h)
theorem dat_neF (N : News h₀ L s.heap news) (Dx : DatIn news x d) (Dy : DatIn news y e) (hd : kqdOk 8 d = true) (he : kqdOk 8 e = true) (hu : A.units + 64 < cLine) (q : d = e) (h : Q (.bool false) s) :
    wpAny (model prog w) A (compareOp .NotEq x y) Q E s := dat_ne N Dx Dy hd he hu (by simpa [q] using h)
theorem dat_neT (N : News h₀ L s.heap news) (Dx : DatIn news x d) (Dy : DatIn news y e) (hd : kqdOk 8 d = true) (he : kqdOk 8 e = true) (hu : A.units + 64 < cLine) (q : d ≠ e) (h : Q (.bool true) s) :
    wpAny (model prog w) A (compareOp .NotEq x y) Q E s := dat_ne N Dx Dy hd he hu (by simpa [q] using h)
end
theorem bo_canLay : ∀ bs : List Bool, PyData.canLayAll0 (bs.map PyData.bool) = true
  | [] => rfl
  | b :: r => by simp only [List.map_cons, PyData.canLayAll0, PyData.canLay0, bo_canLay r, Bool.and_self]
theorem bo_depth : ∀ bs : List Bool, PyData.depthAll (bs.map PyData.bool) = 0
  | [] => rfl
  | b :: r => by simp only [List.map_cons, PyData.depthAll, PyData.depth, bo_depth r, Nat.max_self]
theorem bo_shaped (bs : List Bool) : SeqAt.shaped (.list (bs.map PyData.bool)) = true := by
  simp [SeqAt.shaped, PyData.canLay0, PyData.depth, bo_canLay, bo_depth]
theorem bo_eqv : ∀ bs cs : List Bool, PyData.eqvAll (bs.map PyData.bool) (cs.map PyData.bool) = decide (bs = cs)
  | [], [] => by simp [PyData.eqvAll]
  | [], _ :: _ => by simp [PyData.eqvAll]
  | _ :: _, [] => by simp [PyData.eqvAll]
  | a :: r, b :: t => by
    simp only [List.map_cons, PyData.eqvAll, PyData.eqv, bo_eqv r t]
    by_cases h : a = b <;> by_cases h' : r = t <;> simp [h, h']
theorem bo_reads {h : Heap} : ∀ bs : List Bool, ReadsAll h (bs.map Value.bool) (bs.map PyData.bool) []
  | [] => .nil
  | b :: r => .cons (.bool b) (bo_reads r)
section
variable {prog : Program} {w : World} {A : Around} {E : Value → Shared → Prop} {s : Shared} {h₀ : Heap} {L a b : Addr} {news : List (Addr × Obj)} {bs cs : List Bool} {n k : Nat} {Q : Value → Shared → Prop}
theorem bo_ne (N : News h₀ L s.heap news) (ha : (a, lob (bs.map Value.bool) n) ∈ news) (hb : (b, lob (cs.map Value.bool) k) ∈ news) (hu : A.units + 64 < cLine) (h : Q (.bool (!decide (bs = cs))) s) :
    wpAny (model prog w) A (compareOp .NotEq (.ref a) (.ref b)) Q E s :=
  ne_dataH (reads_list_at (N.get ha) rfl rfl (bo_reads bs)) (reads_list_at (N.get hb) rfl rfl (bo_reads cs)) (bo_shaped _) (bo_shaped _) hu (by rw [PyData.eqv, bo_eqv]; exact h)
end
end
section
noncomputable def foldS (U V : Str) (a : Bool × Int) (rs : List RowV) : Bool × Int := rs.foldl (fun a r => if fitsOf U V r.u r.l = true ∧ rankOf r.u r.l ≥ a.2 then (r.g, rankOf r.u r.l) else a) a
theorem foldS_snoc (U V : Str) (a : Bool × Int) (rs : List RowV) (r : RowV) : foldS U V a (rs ++ [r]) = if fitsOf U V r.u r.l = true ∧ rankOf r.u r.l ≥ (foldS U V a rs).2 then (r.g, rankOf r.u r.l) else foldS U V a rs := by
  unfold foldS
  rw [List.foldl_append]; rfl
theorem stripped_con (prog : Program) (w : World) (news : List (Addr × Obj)) (S : Addr) (ys : List Value) (n : Nat) (rows : List RowV) (U V : Str) (tU tV : Tok)
    (hS : (S, lob ys n) ∈ news) (hst : StripsAre news ys rows) (hok : ∀ r ∈ rows, r.Ok) (hU : PyData.strOk U = true) (hV : PyData.strOk V = true) :
    Con prog w 30 400 242 [.ref S, .str U tU, .str V tV] news (fun r news' => r = .bool (foldS U V (false, -1) rows).1 ∧ ∀ p ∈ news, p ∈ news') := by
  unfold Con
  (intro p loose mean mg mb dp un gd cn cs ad ccd cl outer A₀ base h₀ L m s Q E B F X N T hk hdp hu hret; refine wpAny_call ?_; k_dflt ktr_enter; (refine env_let (t := fun e => execs _ e) ?_; intro ev Av); (with_reducible rename Fr _ _ _ (fun _ => _) => kF0; refine fr_let kF0 ?_; clear kF0; intro m0 kF0))
  (repeat ((fail_if_success (k_dflt (show wpAny _ _ (exec (.For _ _ _ _ _) _) _ _ _))); (first | (k_unfold; (try dsimp only)) | (k_end; wrow_close) | walk1 | (dsimp only; walk1) | fail "no step")))
  k_dflt (refine For_turns (by k_asm) ?_)
  (repeat ((fail_if_success (k_dflt (show wpAny _ _ (pyIter _) _ _ _))); (first | (k_unfold; (try dsimp only)) | (k_end; wrow_close) | walk1 | (dsimp only; walk1) | fail "no step")))
  rename News _ _ _ _ => kN; rename Fr _ _ _ _ => kF
  k_dflt (refine iter_listTurns (by rfl) kF kN (by k_mem) rfl rfl fun I hI => ?_)
  refine items_ind (fun i m nws => nws = _ ∧ m (Str.ofString "uri") = some (.str U tU) ∧ m (Str.ofString "local") = some (.str V tV) ∧ m (Str.ofString "told") = some (.bool (foldS U V (false, -1) (rows.take i)).1) ∧ ∃ t, m (Str.ofString "rank") = some (.int (foldS U V (false, -1) (rows.take i)).2 t)) ys ?turn ?done ys 0 _ _ (Nat.zero_le _) rfl ⟨rfl, rfl, rfl, rfl, _, rfl⟩
  case turn =>
    rintro i v m1 nws h tk it hv zQ zH ⟨rfl, mu, ml, mt, tr, mr⟩ F1 N1
    obtain ⟨r, hr1, ⟨x, dx, h1, h2, h3, t1, t2, t3, tu, tl⟩, ev, e1, e2⟩ := hst.get hv; dsimp only at ev e1 e2; subst ev
    have hr2 := hok r (List.mem_of_getElem? hr1)
    have hf := foldS_snoc U V (false, -1) (rows.take i) r
    have ht : rows.take (i + 1) = rows.take i ++ [r] := by rw [List.take_add_one, hr1]; rfl
    rw [← ht] at hf
    ((repeat ((fail_if_success (k_dflt (with_reducible show wpAny _ _ (execs _ _) _ _ _))); (first | (k_unfold; (try dsimp only)) | (k_end; wrow_close) | walk1 | (dsimp only; walk1) | fail "no step"))); (try k_fold))
    (repeat ((fail_if_success (k_dflt (show wpAny _ _ (call (.ref 228) _) _ _ _))); (first | (k_unfold; (try dsimp only)) | (k_end; wrow_close) | walk1 | (dsimp only; walk1) | fail "no step"))); (try dsimp only [List.nil_append, List.cons_append])
    k_dflt (show wpAny _ _ (call (.ref 228) [.ref x, .str U tU, .str V tV]) _ _ _)
    (k_dflt (refine' con_use (fits_con _ _ _ x dx _ _ _ _ _ _ _ _ _ _ r.u r.l _ _ r.g hr2.ul hr2.su hr2.sl hU hV ?e1 ?e2) ?uB ?uF ?uX ?uN ?uT ?uk ?ud ?uu ?_; (case uB => k_asm); (case uF => k_asm); (case uX => k_asm); (case uN => k_asm); (case e1 => k_mem); (case e2 => k_mem); (case uT => k_asm); (case uk => first | exact rfl | assumption); (case ud => ktr_room); (case uu => ktr_units)); rintro r9 news9 h9 tk9 F9 N9 ⟨rfl, hs9⟩; (try dsimp only))
    have e1' := hs9 _ (List.mem_cons_of_mem _ (List.mem_cons_of_mem _ e1))
    have e2' := hs9 _ (List.mem_cons_of_mem _ (List.mem_cons_of_mem _ e2))
    (repeat ((fail_if_success (k_dflt (show wpAny _ _ (call (.ref 221) _) _ _ _))); (first | (k_unfold; (try dsimp only)) | (k_end; wrow_close) | walk1 | (dsimp only; walk1) | fail "no step"))); (try dsimp only [List.nil_append, List.cons_append])
    · k_dflt (show wpAny _ _ (call (.ref 221) [.ref x]) _ _ _)
      (k_dflt (refine' con_use (rank_con _ _ _ x dx _ _ _ _ _ _ _ _ r.u r.l r.g e1' e2') ?uB ?uF ?uX ?uN ?uT ?uk ?ud ?uu ?_; (case uB => k_asm); (case uF => k_asm); (case uX => k_asm); (case uN => k_asm);  (case uT => k_asm); (case uk => first | exact rfl | assumption); (case ud => ktr_room); (case uu => ktr_units)); rintro r9 news9 h9 tk9 F9 N9 ⟨⟨t9, rfl⟩, rfl⟩; (try dsimp only))
      (repeat ((fail_if_success (k_dflt (show wpAny _ _ (call (.ref 221) _) _ _ _))); (first | (k_unfold; (try dsimp only)) | (k_end; wrow_close) | walk1 | (dsimp only; walk1) | fail "no step"))); (try dsimp only [List.nil_append, List.cons_append])
      · k_dflt (show wpAny _ _ (call (.ref 221) [.ref x]) _ _ _)
        (k_dflt (refine' con_use (rank_con _ _ _ x dx _ _ _ _ _ _ _ _ r.u r.l r.g e1' e2') ?uB ?uF ?uX ?uN ?uT ?uk ?ud ?uu ?_; (case uB => k_asm); (case uF => k_asm); (case uX => k_asm); (case uN => k_asm);  (case uT => k_asm); (case uk => first | exact rfl | assumption); (case ud => ktr_room); (case uu => ktr_units)); rintro r9 news9 h9 tk9 F9 N9 ⟨⟨t8, rfl⟩, rfl⟩; (try dsimp only))
        (repeat' (first | (k_unfold; (try dsimp only)) | (k_end; wrow_close) | walk1 | (dsimp only; walk1) | fail "no step"))
        rename News _ _ _ _ => kN; rename Fr _ _ _ _ => kF
        refine zH _ _ ?_; refine unrEnd_sub _ kF kN (fun p hp => List.mem_cons_of_mem _ (hs9 p hp)) (fun p hp => Nat.ne_of_lt (hI p hp)) ⟨⟨List.mem_cons_of_mem _ hS, trivial⟩, rfl, by walk_at "mine name", by walk_at "mine name", ?_⟩
        rw [hf.trans (if_pos ⟨by assumption, by assumption⟩)]
        exact ⟨rfl, _, rfl⟩
      · (repeat' (first | (k_unfold; (try dsimp only)) | (k_end; wrow_close) | walk1 | (dsimp only; walk1) | fail "no step"))
        refine zH _ _ ?_; refine unrEnd_sub _ (by assumption) (by assumption) hs9 (fun p hp => Nat.ne_of_lt (hI p hp)) ⟨⟨List.mem_cons_of_mem _ hS, trivial⟩, rfl, by walk_at "mine name", by walk_at "mine name", ?_⟩
        rw [hf.trans (if_neg (fun q => absurd q.2 (by assumption)))]
        exact ⟨by walk_at "mine name", tr, by walk_at "mine name"⟩
    · (repeat' (first | (k_unfold; (try dsimp only)) | (k_end; wrow_close) | walk1 | (dsimp only; walk1) | fail "no step"))
      refine zH _ _ ?_; refine unrEnd_sub _ (by assumption) (by assumption) hs9 (fun p hp => Nat.ne_of_lt (hI p hp)) ⟨⟨List.mem_cons_of_mem _ hS, trivial⟩, rfl, by walk_at "mine name", by walk_at "mine name", ?_⟩
      rw [hf.trans (if_neg (fun q => absurd q.1 (by rw [Bool.not_eq_true]; assumption)))]
      exact ⟨by walk_at "mine name", tr, by walk_at "mine name"⟩
  case done =>
    rintro m1 nws ⟨rfl, mu, ml, mt, tr, mr⟩ h tk F1 N1
    (repeat' (first | (k_unfold; (try dsimp only)) | (k_end; wrow_close) | walk1 | (dsimp only; walk1) | fail "no step"))
    (rename News _ _ _ _ => kN; rename Fr _ _ _ _ => kF; refine hret _ _ _ _ kF kN ?_)
    exact ⟨by rw [List.take_of_length_le (by rw [hst.length]; exact Nat.le_refl _)], fun p hp => List.mem_cons_of_mem _ hp⟩
end
section
open LCg in
theorem compLoop_PT {prog : Program} {w : World} {A : Around} {s : Shared} {c elt iter : Expr} {elts : List Expr} {x1} {tp : Pos} {scope : Scope} {pos : Pos} {it acc : Value} {env : Env} {R : Result → Shared → Prop} (I : Nat → Shared → Prop)
    (turn : ∀ n s, I n s → wpAny (model prog w) A (pyNext it) (fun r s₁ => match r with
      | none => R (.ok .next) s₁
      | some v => wpAny (model prog w) A (letOwnedTupleGo (.Tuple elts x1 tp) it v) (fun _ s₁' => wpAny (model prog w) A (assign (.Tuple elts x1 tp) env v) (fun _ s₂ =>
          wpAny (model prog w) A (isTrue c env (eval c env)) (fun ok s₃ => if ok = true then wpAny (model prog w) A (eval elt env) (fun x s₄ =>
              wpAny (model prog w) A (call (.builtin "list.append") [acc, x]) (fun _ s₅ => ∃ m, m < n ∧ I m s₅) (notedBy (model prog w) A env fun e s' => R (.error e) s') s₄) (notedBy (model prog w) A env fun e s' => R (.error e) s') s₃
            else ∃ m, m < n ∧ I m s₃) (notedBy (model prog w) A env fun e s' => R (.error e) s') s₂)
          (notedBy (model prog w) A env fun e s' => R (.error e) s') s₁') (notedBy (model prog w) A env fun e s' => R (.error e) s') s₁) (notedBy (model prog w) A env fun e s' => R (.error e) s') s)
    (n : Nat) (h : I n s) : codeAny (model prog w) A (.compLoop (.ListComp elt [⟨.Tuple elts x1 tp, iter, [c], 0⟩] scope pos) 0 it acc env) R s := by
  refine codeAny_loop rfl I (fun n s hI => ?_) n h
  show wpAny _ A ((compTurn (.ListComp elt [⟨.Tuple elts x1 tp, iter, [c], 0⟩] scope pos) 0 it acc env).onRaise (fun x => do noteFrame x env; theTreesLotGoes x)) _ _ s
  refine wpAny_noted ?_
  rw [compTurn_list]
  refine wpAny_bind (wpAny_standAt (wpAny_bind (wpAny_mono (turn n s hI) (fun r s₁ h₁ => ?_) fun _ _ h' => h')))
  cases r with
  | none => exact wpAny_pure h₁
  | some v =>
    refine wpAny_bind (wpAny_mono h₁ (fun _ s₁' h₁' => wpAny_bind (wpAny_mono h₁' (fun _ s₂ h₂ => wpAny_bind (wpAny_tests_one (wpAny_mono h₂ (fun ok s₃ h₃ => ?_) fun _ _ h' => h'))) fun _ _ h' => h')) fun _ _ h' => h')
    cases ok with
    | false => exact wpAny_pure ⟨rfl, h₃⟩
    | true => exact wpAny_bind (wpAny_bind (wpAny_mono h₃ (fun x s₄ h₄ => wpAny_bind (wpAny_mono h₄ (fun _ s₅ h₅ => wpAny_pure (wpAny_pure ⟨rfl, h₅⟩)) fun _ _ h' => h')) fun _ _ h' => h'))
section
open LCg
variable {prog : Program} {w : World} {A : Around} {E : Value → Shared → Prop} {s : Shared} {h₀ : Heap} {L : Addr} {m : Str → Option Value} {env : Env}
/-- what the source of «[elt for x, x₂ in source if c]» must bring -/
noncomputable def SrcPT (prog : Program) (w : World) (A : Around) (h₀ : Heap) (L : Addr) (m : Str → Option Value) (env : Env) (c elt : Expr) (x x₂ : Str) (scope : Scope) (cl : List (Str × Addr)) (Fin : Shared → List Value → List (Addr × Obj) → Prop) (xv : Value) (s₁ : Shared) : Prop :=
  ∃ (ax : Addr) (its : List Value) (k : Nat) (news : List (Addr × Obj)) (Inv : Nat → List Value → List (Addr × Obj) → Prop), xv = .ref ax ∧ A.handled = none ∧ Fr h₀ L s₁.heap m ∧ News h₀ L s₁.heap news ∧ its.length ≤ sizeLine ∧ Inv 0 [] news ∧
    (∀ i ys nw, Inv i ys nw → (ax, lob its k) ∈ nw ∧ ys.length ≤ i) ∧
    ∀ s₂ : Shared, (∃ h, s₂ = { s₁ with heap := h }) →
      (∀ i v ys nw, its[i]? = some v → Inv i ys nw → ∃ t n v₁ v₂, v = .ref t ∧ (t, tob [v₁, v₂] n) ∈ nw ∧
        ∀ I oI C oC D m₂ h tk (E' : Value → Shared → Prop), NsObj oC m₂ → m₂ x = some v₁ → m₂ x₂ = some v₂ → Fr h₀ L h m → News h₀ L h ((I, oI) :: (C, oC) :: (D, lst ys) :: nw) → Off3 I C D nw → ((@Ne Nat I C) ∧ (@Ne Nat I D) ∧ (@Ne Nat C D)) →
          wpAny (model prog w) A (isTrue c (compEnvC scope cl C env) (eval c (compEnvC scope cl C env))) (fun ok s' => if ok = true then
            wpAny (model prog w) A (eval elt (compEnvC scope cl C env)) (CompEnd h₀ L m { s₂ with heap := h, toks := tk } I oI C oC D (lst ys) (fun _ => True) (fun y nw' => Inv (i + 1) (ys ++ [y]) nw')) E' s'
            else CompEnd h₀ L m { s₂ with heap := h, toks := tk } I oI C oC D (lst ys) (fun _ => True) (fun _ nw' => Inv (i + 1) ys nw') .none s') E' { s₂ with heap := h, toks := tk }) ∧
      (∀ ys nw, Inv its.length ys nw → Fin s₂ ys nw)
theorem Assign_ListComp_PT {c elt iter : Expr} {x x₂ y : Str} {px px₂ tp py : Pos} {tkk} {scope : Scope} {cl : List (Str × Addr)} {pos spos : Pos} {Q : Flow → Shared → Prop} (_F₀ : Fr h₀ L s.heap m) (hLe : env.locals = L)
    (hsw : swapsWith (.ListComp elt [⟨.Tuple [.Name x px, .Name x₂ px₂] tkk tp, iter, [c], 0⟩] scope pos) (some (.Name y py)) spos.line env = pure true)
    (hclos : closureFor scope env = pure cl) (hcell : ∀ z ∈ scope.names, z.2 ≠ .cell) (hkind : scope.kind = .function)
    (hnames : ∀ z ∈ scope.names, z.2 = .local → scope.names.lookup z.1 = some .local) (hx : scope.names.lookup x = some .local) (hx₂ : scope.names.lookup x₂ = some .local) (hxx : x ≠ x₂)
    (hy : env.kindOf y = some .local) (hp : (env.scope.kind == .class || (env.scope.kind == .module && env.locals != env.globals)) = false)
    (h : wpAny (model prog w) A (eval iter env) (SrcPT prog w A h₀ L m env c elt x x₂ scope cl (fun s₂ => FinA h₀ L m s₂ y Q)) E s)
    (hs : ∀ x, foldedSetIterable iter env x = pure x := by intro _; rfl) :
    wpAny (model prog w) A (exec (.Assign [.Name y py] (.ListComp elt [⟨.Tuple [.Name x px, .Name x₂ px₂] tkk tp, iter, [c], 0⟩] scope pos) spos) env) Q E s := by
  subst hLe
  rw [exec_Assign_Name_used _ _ _ _ hsw]
  refine wpAny_bind (wpAny_standAt (wpAny_bind ?_))
  show wpAny _ A (do let _ ← comprehension (.ListComp elt [⟨.Tuple [.Name x px, .Name x₂ px₂] tkk tp, iter, [c], 0⟩] scope pos) scope env _ (newList []) false (eval iter env) (some (assign (.Name y py) env))) _ _ s
  refine wpAny_bind (wpAny_mono (wpAny_comprehension_free (use := some (assign (.Name y py) env)) (Q := fun _ s' => Q .next s') rfl hs hclos hkind hnames
    (wpAny_mono h (fun xv s₁ h₁ => ?_) fun _ _ e => e)) (fun _ s' hq => wpAny_pure (wpAny_pure hq)) fun _ _ e => e)
  obtain ⟨ax, its, k, news, Inv, rfl, hh, F, N, hsz, hI0, hIm, hR⟩ := h₁
  obtain ⟨hax, _⟩ := hIm _ _ _ hI0
  have hl : s₁.heap.IsList ax its.toArray := ⟨_, (N _ hax).1, rfl, _, rfl⟩
  have hlt : ax < s₁.heap.objs.size := Heap.lt_size (N _ hax).1
  refine wpAny_pyIter_list hl ?_
  obtain ⟨I, hIe⟩ : ∃ I : Nat, s₁.heap.objs.size = I := ⟨_, rfl⟩
  rw [hIe] at hlt ⊢
  have hne : ax ≠ I := Nat.ne_of_lt hlt
  have W := Walks.list (prog := prog) (w := w) hh I ax hne its.toArray
  have up : ∀ b o, s₁.heap.get? b = some o → (s₁.heap.push { cls := .type "list_iterator", data := .fields #[.ref ax, .int 0 0] }).get? b = some o := fun b o e => Heap.get?_push_of_some _ e
  have hitI : (s₁.heap.push { cls := .type "list_iterator", data := .fields #[.ref ax, .int 0 0] }).IsListIter I ax 0 := ⟨_, hIe ▸ Heap.get?_push_size _ rfl, rfl, rfl⟩
  have hsz1 : (s₁.heap.push { cls := .type "list_iterator", data := .fields #[.ref ax, .int 0 0] }).objs.size = I + 1 := by rw [Heap.size_push, hIe]
  have F1 := F.keeps up
  have N1 : News h₀ env.locals (s₁.heap.push { cls := .type "list_iterator", data := .fields #[.ref ax, .int 0 0] }) news := N.grown up
  have hl1 := hl.push { cls := .type "list_iterator", data := .fields #[.ref ax, .int 0 0] }
  have hI₀ : h₀.get? I = none := by
    cases e : h₀.get? I with
    | none => rfl
    | some o => exact absurd (Heap.lt_size (F.keep _ _ e)) (by rw [hIe]; exact Nat.lt_irrefl _)
  have hLI : @LT.lt Nat _ env.locals I := by have := F.ns.lt; rw [hIe] at this; exact this
  have offI : ∀ p ∈ news, @LT.lt Nat _ p.1 I := fun p hp => by have := Heap.lt_size (N p hp).1; rw [hIe] at this; exact this
  generalize hH1 : s₁.heap.push { cls := .type "list_iterator", data := .fields #[.ref ax, .int 0 0] } = H1 at *
  specialize hR { s₁ with heap := H1 } ⟨_, rfl⟩
  obtain ⟨hturn, hfin⟩ := hR
  refine wpAny_newObj_type (wpAny_newFunctionEnv hcell (by intro y hy; simp at hy) (fun h₁ hns₁ hsb₁ => ?_) hkind)
  dsimp only at hns₁ hsb₁ ⊢
  generalize hH2 : H1.push { cls := .type "list", dict := none, data := .seq ([] : List Value).toArray } = H2 at *
  have hC : H2.objs.size = I + 2 := by rw [← hH2, Heap.size_push, hsz1]
  rw [hC] at hns₁ hsb₁ ⊢
  rw [hsz1]
  have old : ∀ b o, H1.get? b = some o → h₁.get? b = some o := fun b o e => hsb₁.extBut b o (by have := Heap.lt_size e; rw [hsz1] at this; exact Nat.ne_of_lt (Nat.lt_succ_of_lt this)) (Heap.get?_push_of_some _ (hH2 ▸ Heap.get?_push_of_some _ e))
  have hacc : h₁.get? (I + 1) = some (lst []) := hsb₁.extBut _ _ (Nat.ne_of_lt (by omega)) (Heap.get?_push_of_some _ (by rw [← hH2, ← hsz1]; exact Heap.get?_push_size _ rfl))
  have hD₀ : h₀.get? (I + 1) = none := by
    cases e : h₀.get? (I + 1) with
    | none => rfl
    | some o => have q := Heap.lt_size (F.keep _ _ e); rw [hIe] at q; exact absurd (show @LT.lt Nat _ _ I from q) (by omega)
  have hC₀ : h₀.get? (I + 2) = none := by
    cases e : h₀.get? (I + 2) with
    | none => rfl
    | some o => have q := Heap.lt_size (F.keep _ _ e); rw [hIe] at q; exact absurd (show @LT.lt Nat _ _ I from q) (by omega)
  have hDL : @Ne Nat (I + 1) env.locals := by omega
  have hCL : @Ne Nat (I + 2) env.locals := by omega
  have hCI : I ≠ I + 2 := by omega
  have hDI : I ≠ I + 1 := by omega
  have hDC : @Ne Nat (I + 1) (I + 2) := by omega
  have loop : ∀ (RR : Result → Shared → Prop) (s₃ : Shared), s₃ = { s₁ with heap := h₁, toks := s₁.toks + ([] : List (Str × Value)).length } →
      (∀ h tk m' ys nw, Fr h₀ env.locals h m → News h₀ env.locals h ((I + 1, lst ys) :: nw) → Off1 (I + 1) nw → h.Ns (I + 2) m' → (∀ p ∈ nw, p.1 ≠ (I + 2 : Nat)) → Inv its.length ys nw → RR (.ok .next) { s₁ with heap := h, toks := tk }) →
      codeAny (model prog w) A (.compLoop (.ListComp elt [⟨.Tuple [.Name x px, .Name x₂ px₂] tkk tp, iter, [c], 0⟩] scope pos) 0 (.ref I) (.ref (I + 1)) (compEnvC scope cl (I + 2) env)) RR s₃ := by
    rintro RR s₃ rfl hend
    refine compLoop_PT
      (fun k' s' => ∃ h' tk i ys m' nw, s' = { s₁ with heap := h', toks := tk } ∧ i ≤ its.length ∧ k' = its.length + 1 - i ∧ (h'.IsListIter I ax i ∧ h'.IsList ax its.toArray) ∧ Fr h₀ env.locals h' m ∧ h'.Ns (I + 2) m' ∧ News h₀ env.locals h' ((I + 1, lst ys) :: nw) ∧
        Off3 I (I + 2) (I + 1) nw ∧ Inv i ys nw) ?_ (its.length + 1)
      ⟨h₁, _, 0, [], _, news, rfl, Nat.zero_le _, rfl, ⟨hitI.at fun o e => old _ o e, hl1.at fun o e => old _ o e⟩, F1.keeps old, hns₁, fun p hp => ?_, Off3.of fun p hp => ?_, hI0⟩
    · rintro k' s' ⟨h', tk, i, ys, m', nw, rfl, hi, rfl, hst', F', hn', N', off', hInv⟩
      by_cases hlt' : i < its.length
      · refine W.item i _ _ _ (by simpa using hlt') hst' fun v h₂ tk₂ hPv hst₂ hk₂ => ?_
        have hv : its[i]? = some v := by simpa using hPv
        obtain ⟨t, nt, v₁, v₂, rfl, hmt, hgo⟩ := hturn i v ys nw hv hInv
        have off3 := off'.mem
        have N₂ : News h₀ env.locals h₂ ((I + 1, lst ys) :: nw) := news_but N' hk₂ fun p hp => by
          rcases List.mem_cons.mp hp with rfl | hp
          · exact Ne.symm hDI
          · exact (off3 p hp).1
        have htup : IsTup h₂ t #[v₁, v₂] := ⟨_, (N₂ _ (List.mem_cons_of_mem _ hmt)).1, rfl, _, rfl⟩
        refine wpAny_letOwnedTupleGo_listiter hst₂.1 ?_
        refine assign_Tuple_tuple hh htup rfl rfl fun h₅ he => ?_
        have he' : ∀ b o, h₂.get? b = some o → h₅.get? b = some o := fun b o e => he b o (Nat.ne_of_lt (Heap.lt_size e)) e
        refine assignInOrder_cons (wpAny_assign_Name (wpAny_storeName_local (lookup_relabel_local hx) ((hn'.at' fun o e => hk₂ _ o (by simpa using Ne.symm hCI) e).at' fun o e => he' _ o e) (fun h₆ hn₆ hs₆ => ?_) (by simp [compEnvC, relabel, hkind])))
        refine assignInOrder_cons (wpAny_assign_Name (wpAny_storeName_local (lookup_relabel_local hx₂) hn₆ (fun h₃ hn₃ hs₃ => ?_) (by simp [compEnvC, relabel, hkind])))
        refine assignInOrder_nil ?_
        have old3 : ∀ b o, b ≠ (I + 2 : Nat) → h₂.get? b = some o → h₃.get? b = some o := fun b o hb e => hs₃.extBut b o hb (hs₆.extBut b o hb (he' b o e))
        have hax2 : @LT.lt Nat _ ax I := offI _ hax
        have hst₃ : h₃.IsListIter I ax (i + 1) ∧ h₃.IsList ax its.toArray := ⟨hst₂.1.at fun o e => old3 _ o hCI e, hst₂.2.at fun o e => old3 _ o (by intro q; have : @Eq Nat ax (I + 2) := q; omega) e⟩
        obtain ⟨oI, heI, _⟩ := id hst₃.1
        obtain ⟨oC, heC, hoC⟩ := ns_obj hn₃
        have F₃ : Fr h₀ env.locals h₃ m := (((fr_but F' hk₂ (Nat.ne_of_lt hLI) hI₀).keeps he').change hs₆ hCL hC₀).change hs₃ hCL hC₀
        have N₃ : News h₀ env.locals h₃ ((I, oI) :: (I + 2, oC) :: (I + 1, lst ys) :: nw) := fun p hp => by
          rcases List.mem_cons.mp hp with rfl | hp
          · exact ⟨heI, Nat.ne_of_gt hLI, hI₀⟩
          · rcases List.mem_cons.mp hp with rfl | hp
            · exact ⟨heC, hCL, hC₀⟩
            · have z := N₂ p hp
              refine ⟨old3 _ _ ?_ z.1, z.2⟩
              rcases List.mem_cons.mp hp with rfl | hp
              · exact hDC
              · exact (off3 p hp).2.1
        have again : ∀ (h₄ : Heap) (tk₄ : Nat) (nw₄ : List (Addr × Obj)) (zs : List Value), Fr h₀ env.locals h₄ m → News h₀ env.locals h₄ ((I, oI) :: (I + 2, oC) :: (I + 1, lst zs) :: nw₄) → Off3 I (I + 2) (I + 1) nw₄ → Inv (i + 1) zs nw₄ →
            ∃ mm, mm < its.length + 1 - i ∧ ∃ h' tk i ys m' nw, ({ s₁ with heap := h₄, toks := tk₄ } : Shared) = { s₁ with heap := h', toks := tk } ∧ i ≤ its.length ∧ mm = its.length + 1 - i ∧ (h'.IsListIter I ax i ∧ h'.IsList ax its.toArray) ∧ Fr h₀ env.locals h' m ∧ h'.Ns (I + 2) m' ∧ News h₀ env.locals h' ((I + 1, lst ys) :: nw) ∧
              Off3 I (I + 2) (I + 1) nw ∧ Inv i ys nw := by
          intro h₄ tk₄ nw₄ zs F₄ N₄ off₄ hI₄
          have zI := (N₄ (I, oI) List.mem_cons_self).1
          have zC := (N₄ (I + 2, oC) (List.mem_cons_of_mem _ List.mem_cons_self)).1
          have zA := (N₄ _ (List.mem_cons_of_mem _ (List.mem_cons_of_mem _ (List.mem_cons_of_mem _ (hIm _ _ _ hI₄).1)))).1
          refine ⟨its.length + 1 - (i + 1), by omega, h₄, tk₄, i + 1, zs, _, nw₄, rfl, hlt', rfl, ⟨?_, ⟨_, zA, rfl, _, rfl⟩⟩, F₄, hoC.ns zC, fun p hp => N₄ p (List.mem_cons_of_mem _ (List.mem_cons_of_mem _ hp)), off₄, hI₄⟩
          obtain ⟨o', q1, q2⟩ := hst₃.1
          rw [heI] at q1; cases q1
          exact ⟨oI, zI, q2⟩
        refine wpAny_mono (hgo I oI (I + 2) oC (I + 1) _ h₃ _ _ hoC (by simp [hxx]) (by simp) F₃ N₃ off' ⟨hCI, hDI, Ne.symm hDC⟩) (fun ok s₄ h₄ => ?_) fun _ _ e => e
        cases ok with
        | false =>
          obtain ⟨h₄, tk₄, nw₄, rfl, F₄, N₄, off₄, _, R₄⟩ := h₄
          exact again h₄ tk₄ nw₄ ys F₄ N₄ off₄ R₄
        | true =>
          refine wpAny_mono h₄ (fun y s₅ h₅ => ?_) fun _ _ e => e
          obtain ⟨h₄, tk₄, nw₄, rfl, F₄, N₄, off₄, _, R₄⟩ := h₅
          have zD := (N₄ (I + 1, lst ys) (List.mem_cons_of_mem _ (List.mem_cons_of_mem _ List.mem_cons_self))).1
          refine append_at (hsz := by show ys.toArray.size ≤ sizeLine; rw [List.size_toArray]; exact Nat.le_trans (hIm _ _ _ hInv).2 (Nat.le_trans hi hsz)) zD fun h₅ hs₅ hD₅ => ?_
          have off4 := off₄.mem
          refine again h₅ tk₄ nw₄ (ys ++ [y]) (F₄.change hs₅ hDL hD₀) (fun p hp => ?_) off₄ R₄
          rcases List.mem_cons.mp hp with rfl | hp
          · exact ⟨hs₅.extBut _ _ hDI (N₄ _ List.mem_cons_self).1, (N₄ _ List.mem_cons_self).2⟩
          · rcases List.mem_cons.mp hp with rfl | hp
            · exact ⟨hs₅.extBut _ _ (Ne.symm hDC) (N₄ _ (List.mem_cons_of_mem _ List.mem_cons_self)).1, (N₄ _ (List.mem_cons_of_mem _ List.mem_cons_self)).2⟩
            · rcases List.mem_cons.mp hp with rfl | hp
              · exact ⟨hD₅.trans (congrArg some (lst_snoc ys y)), hDL, hD₀⟩
              · have z := N₄ p (List.mem_cons_of_mem _ (List.mem_cons_of_mem _ (List.mem_cons_of_mem _ hp)))
                exact ⟨hs₅.extBut _ _ (off4 p hp).2.2 z.1, z.2⟩
      · obtain rfl : i = its.length := Nat.le_antisymm hi (Nat.not_lt.mp hlt')
        refine W.done _ _ _ (by simpa using hst') fun h₂ tk₂ hk₂ => ?_
        have off3 := off'.mem
        exact hend h₂ tk₂ _ ys nw (fr_but F' hk₂ (Nat.ne_of_lt hLI) hI₀) (news_but N' hk₂ fun p hp => by
          rcases List.mem_cons.mp hp with rfl | hp
          · exact Ne.symm hDI
          · exact (off3 p hp).1) off'.one (hn'.at' fun o e => hk₂ _ o (by simpa using Ne.symm hCI) e) (fun p hp => (off3 p hp).2.1) hInv
    · rcases List.mem_cons.mp hp with rfl | hp
      · exact ⟨hacc, hDL, hD₀⟩
      · exact ⟨old _ _ (N1 p hp).1, (N1 p hp).2⟩
    · have := offI p hp
      exact ⟨Nat.ne_of_lt this, Nat.ne_of_lt (by omega), Nat.ne_of_lt (by omega)⟩
  have fin : ∀ h tk m' ys nw, Fr h₀ env.locals h m → News h₀ env.locals h ((I + 1, lst ys) :: nw) → Off1 (I + 1) nw → h.Ns (I + 2) m' → (∀ p ∈ nw, p.1 ≠ (I + 2 : Nat)) → Inv its.length ys nw →
      wpAny (model prog w) A (assign (.Name y py) env (.ref (I + 1))) (fun _ s'' => ∃ m, s''.heap.Ns (I + 2) m ∧ ∀ h', Heap.SameBut (I + 2) s''.heap h' → Q .next { s'' with heap := h' }) E { s₁ with heap := h, toks := tk } := by
    intro h tk m' ys nw F' N' o1 hn offC hInv
    refine wpAny_assign_Name (wpAny_storeName_local hy F'.ns (fun h₂ hn₂ hs₂ => ?_) hp)
    have hL₀ : h₀.get? env.locals = none := Heap.get?_none_of_le F'.above
    have F₂ : Fr h₀ env.locals h₂ (fun z => if z = y then some (.ref (I + 1)) else m z) := ⟨hn₂, fun b o e => hs₂.extBut b o (fun q => by rw [q, hL₀] at e; cases e) (F'.keep b o e), F'.above⟩
    refine ⟨m', hn.sameBut hs₂ hCL, fun h'' hs'' => hfin ys nw hInv (I + 1) h'' _ (F₂.change hs'' hCL hC₀) (fun p hp => ?_) o1⟩
    have z : h₂.get? p.1 = some p.2 := hs₂.extBut _ _ (N' p hp).2.1 (N' p hp).1
    refine ⟨hs''.extBut _ _ ?_ z, (N' p hp).2⟩
    rcases List.mem_cons.mp hp with rfl | hp
    · exact hDC
    · exact offC p hp
  have hst₁ : h₁.IsListIter I ax 0 ∧ h₁.IsList ax its.toArray := ⟨hitI.at fun o e => old _ o e, hl1.at fun o e => old _ o e⟩
  refine codeAny_compStart_list (loop _ _ rfl ?_) (W.self 0 _ _ _ hst₁ (loop _ _ rfl ?_))
  · intro h tk m' ys nw a b c d e f
    exact fin h tk m' ys nw a b c d e f
  · intro h tk m' ys nw a b c d e f
    exact fin h tk m' ys nw a b c d e f
end
end
section
noncomputable def hits (rows : List RowV) (u l : Option Str) : List Bool := (rows.filter fun r => decide (r.u = u ∧ r.l = l)).map (·.g)
noncomputable def goneS (U V : Str) (rows : List RowV) : Bool :=
  match (hits rows (some U) (some V)).getLast? with
  | some b => b
  | none => match (hits rows (some U) none).getLast? with
    | some b => b
    | none => match (hits rows none none).getLast? with
      | some b => b
      | none => false
theorem hits_snoc (rs : List RowV) (r : RowV) (u l : Option Str) : hits (rs ++ [r]) u l = hits rs u l ++ if r.u = u ∧ r.l = l then [r.g] else [] := by
  unfold hits
  rw [List.filter_append, List.map_append]
  by_cases h : r.u = u ∧ r.l = l <;> simp [h]
theorem row_in2 {news : List (Addr × Obj)} {v : Value} {r : RowV} (h : DatIn news v r.dat) : ∃ (a b : Addr) (n : Nat), v = .ref a ∧ (a, tob [.ref b, .bool r.g] n) ∈ news ∧ DatIn news (.ref b) (.tuple [od r.u, od r.l]) := by
  cases h with
  | tuple h1 h2 =>
    cases h2 with
    | cons h3 h4 =>
      cases h4 with
      | cons h5 h6 =>
        cases h6
        cases h5
        cases h3 with
        | tuple p q => exact ⟨_, _, _, rfl, h1, .tuple p q⟩
theorem od_ok {o : Option Str} (h : ∀ x, o = some x → PyData.strOk x = true) (n : Nat) : kqdOk (n + 1) (od o) = true := by
  cases o with
  | none => simp [od, kqdOk]
  | some x => simp [od, kqdOk, h x rfl]
theorem od_inj {a b : Option Str} (h : od a = od b) : a = b := by
  cases a <;> cases b <;> simp_all [od]
theorem gone_con (prog : Program) (w : World) (news : List (Addr × Obj)) (R : Addr) (vs : List Value) (n : Nat) (rows : List RowV) (U V : Str) (tU tV : Tok)
    (hR : (R, lob vs n) ∈ news) (hrows : DatAll news vs (rows.map RowV.dat)) (hlen : rows.length ≤ 63) (hok : ∀ r ∈ rows, r.Ok) (hU : PyData.strOk U = true) (hV : PyData.strOk V = true) :
    Con prog w 30 400 505 [.ref R, .str U tU, .str V tV] news (fun r news' => r = .bool (goneS U V rows) ∧ ∀ p ∈ news, p ∈ news') := by
  unfold Con
  have hvl := DatAll.length hrows
  have hsz : vs.length ≤ sizeLine := by rw [sizeLine_eq, hvl, List.length_map]; omega
  (intro p loose mean mg mb dp un gd cn cs ad ccd cl outer A₀ base h₀ L m s Q E B F X N T hk hdp hu hret; refine wpAny_call ?_; k_dflt (refine' code_defC ?k1 ?k2 ?k3 ?k4 ?k5 ?kA ?kF ?kK ?k6 ?k7 ?k8 ?k9 ?kB ?kD ?_ ?c2 ?c3 ?c4; (case kA => exact rfl); (case kF => exact rfl); (case kK => assumption); (case k1 => k_asm); (case k2 => k_asm); (case k3 => k_asm); (case k4 => k_asm); (case k5 => k_asm); (case k6 => k_is); (case k7 => k_is); (case k8 => ktr_room); (case k9 => exact BindsTo.of_eq rfl); (case kB => exact rfl); (case kD => decide +kernel); (case c2 => exact rfl); (case c3 => exact rfl); (case c4 => exact rfl); k_whole; intro g' L' h' tk' cells' FG' F' N' Y' B' X' T' l1; (try k_lt l1); k_cells Y'; (try simp only [List.cons_append, List.nil_append] at N'); (try dsimp only); (try k_fold)))
  (repeat ((fail_if_success (k_dflt (show wpAny _ _ (exec (.For _ _ _ _ _) _) _ _ _))); (first | (k_unfold; (try dsimp only)) | (k_end; wrow_close) | walk1 | (dsimp only; walk1) | fail "no step")))
  k_dflt (refine For_turns (by k_asm) ?_)
  (repeat ((fail_if_success (k_dflt (show wpAny _ _ (pyIter _) _ _ _))); (first | (k_unfold; (try dsimp only)) | (k_end; wrow_close) | walk1 | (dsimp only; walk1) | fail "no step")))
  rename_i oc hoc D1 _ q1 D2 _ q2 D3 _ q3 lx _ kF kN q4
  have kN2 : News g' L' _ ((L' + 1, oc) :: (lx, lob [.ref D1, .ref D2, .ref D3] 0) :: (D3, tob [.none, .none]) :: (D2, tob [.str U tU, .none]) :: (D1, tob [.str U tU, .str V tV]) :: news) := fun p hp => kN p (by simp only [List.mem_cons] at hp ⊢; grind)
  clear kN
  k_dflt (refine iter_listTurns (by rfl) kF kN2 (List.mem_cons_of_mem _ List.mem_cons_self) rfl rfl fun I hI => ?_)
  refine items_ind (fun i m nws => (∃ o v, nws = (L' + 1, o) :: _ ∧ o.data = .cell v) ∧ m (Str.ofString "rows") = some (.ref R) ∧ (1 ≤ i → (hits rows (some U) (some V)).getLast? = none) ∧ (2 ≤ i → (hits rows (some U) none).getLast? = none) ∧ (3 ≤ i → (hits rows none none).getLast? = none)) [.ref D1, .ref D2, .ref D3] ?turn ?done _ 0 _ _ (Nat.zero_le _) rfl ⟨⟨_, _, rfl, hoc⟩, rfl, by omega, by omega, by omega⟩
  case done =>
    rintro m1 nws ⟨⟨o, v, rfl, ho⟩, mr, e1, e2, e3⟩ h tk F1 N1
    have f1 := e1 (by simp)
    have f2 := e2 (by simp)
    have f3 := e3 (by simp)
    (repeat' (first | (k_unfold; (try dsimp only)) | (k_end; wrow_close) | walk1 | (dsimp only; walk1) | fail "no step"))
    (rename News _ _ _ _ => kN; rename Fr _ _ _ _ => kF; refine hret _ _ _ _ kF kN ?_)
    exact ⟨by simp [goneS, f1, f2, f3], (fun p hp => by repeat (first | exact hp | apply List.mem_cons_of_mem))⟩
  case turn =>
    rintro i v m1 nws h tk it hv zQ zH ⟨⟨o, v0, rfl, ho⟩, mr, e1, e2, e3⟩ F1 N1
    have hcase : ∃ (u l : Option Str) (D : Addr), v = .ref D ∧ DatIn ((lx, lob [.ref D1, .ref D2, .ref D3] 0) :: (D3, tob [.none, .none]) :: (D2, tob [.str U tU, .none]) :: (D1, tob [.str U tU, .str V tV]) :: news) (.ref D) (.tuple [od u, od l]) ∧ kqdOk 8 (.tuple [od u, od l]) = true ∧
        ((hits rows u l).getLast? = none → (1 ≤ i + 1 → (hits rows (some U) (some V)).getLast? = none) ∧ (2 ≤ i + 1 → (hits rows (some U) none).getLast? = none) ∧ (3 ≤ i + 1 → (hits rows none none).getLast? = none)) ∧
        (∀ b, (hits rows u l).getLast? = some b → goneS U V rows = b) := by
      clear F1 N1 mr
      rcases i with _ | _ | _ | i
      · cases hv
        refine ⟨some U, some V, D1, rfl, .tuple (n := 0) (List.mem_cons_of_mem _ (List.mem_cons_of_mem _ (List.mem_cons_of_mem _ List.mem_cons_self))) (.cons (.str _ _) (.cons (.str _ _) .nil)), by simp [kqdOk, od, hU, hV], fun q => ⟨fun _ => q, by omega, by omega⟩, fun b hb => by simp [goneS, hb]⟩
      · cases hv
        have f1 := e1 (by omega)
        refine ⟨some U, none, D2, rfl, .tuple (n := 0) (List.mem_cons_of_mem _ (List.mem_cons_of_mem _ List.mem_cons_self)) (.cons (.str _ _) (.cons .none .nil)), by simp [kqdOk, od, hU], fun q => ⟨fun _ => f1, fun _ => q, by omega⟩, fun b hb => by simp [goneS, hb, f1]⟩
      · cases hv
        have f1 := e1 (by omega)
        have f2 := e2 (by omega)
        refine ⟨none, none, D3, rfl, .tuple (n := 0) (List.mem_cons_of_mem _ List.mem_cons_self) (.cons .none (.cons .none .nil)), by simp [kqdOk, od], fun q => ⟨fun _ => f1, fun _ => f2, fun _ => q⟩, fun b hb => by simp [goneS, hb, f1, f2]⟩
      · simp at hv
    clear e1 e2 e3 hv
    have hnl : ∀ p ∈ news, p.1 ≠ L' + 1 := fun p hp => Nat.ne_of_lt (Nat.lt_succ_of_lt (l1 p hp))
    have hIL : @LT.lt Nat _ (L' + 1) I := hI _ List.mem_cons_self
    obtain ⟨u, l, D, rfl, hDin, hDok, hnext, hret1⟩ := hcase
    iterate 4 (first | (k_unfold; (try dsimp only)) | (k_end; wrow_close) | walk1 | (dsimp only; walk1) | fail "no step")
    k_dflt (refine Assign_ListComp_PT (_F₀ := by k_asm) (by rfl) (by with_unfolding_all rfl) (by with_unfolding_all rfl) (by decide) (by rfl) (by decide) (by rfl) (by rfl) (by decide) (by rfl) (by rfl) ?_)
    (first | (k_unfold; (try dsimp only)) | (k_end; wrow_close) | walk1 | (dsimp only; walk1) | fail "no step")
    rename News _ _ _ _ => kN; rename Fr _ _ _ _ => kF
    refine ⟨R, vs, n, _, fun i ys nw => nw = _ ∧ ys = (hits (rows.take i) u l).map Value.bool, rfl, rfl, kF, kN, hsz, ⟨rfl, rfl⟩, ?_, ?_⟩
    · rintro i ys nw ⟨rfl, rfl⟩
      refine ⟨by repeat (first | exact hR | apply List.mem_cons_of_mem), ?_⟩
      rw [List.length_map]
      unfold hits
      rw [List.length_map]
      exact Nat.le_trans (List.length_filter_le _ _) (by rw [List.length_take]; exact Nat.min_le_left _ _)
    rintro s2 ⟨hh2, rfl⟩
    refine ⟨?_, ?_⟩
    · rintro j v ys nw hv ⟨rfl, rfl⟩
      obtain ⟨d, hd1, hd2⟩ := dat_get (hrows.mono (fun p hp => by repeat (first | exact hp | apply List.mem_cons_of_mem))) hv
      rw [List.getElem?_map, Option.map_eq_some_iff] at hd1
      obtain ⟨r, hr1, rfl⟩ := hd1
      have hr2 := hok r (List.mem_of_getElem? hr1)
      obtain ⟨a, b, nn, rfl, m1, m2⟩ := row_in2 hd2
      refine ⟨a, nn, _, _, rfl, by repeat (first | exact m1 | apply List.mem_cons_of_mem), ?_⟩
      intro I' oI' C' oC' D' m₂ h tk E' w1 w2 w3 F2 N2 o2 w4
      (first | (k_unfold; (try dsimp only)) | (k_end; wrow_close) | walk1 | (dsimp only; walk1) | fail "no step")
      (first | (k_unfold; (try dsimp only)) | (k_end; wrow_close) | walk1 | (dsimp only; walk1) | fail "no step")
      (first | (k_unfold; (try dsimp only)) | (k_end; wrow_close) | walk1 | (dsimp only; walk1) | fail "no step")
      rename News _ _ _ _ => kN3
      have hok1 : kqdOk 8 (.tuple [od r.u, od r.l]) = true := by simp [kqdOk, od_ok hr2.su, od_ok hr2.sl]
      have htk : rows.take (j + 1) = rows.take j ++ [r] := by rw [List.take_add_one, hr1]; rfl
      have hsn := hits_snoc (rows.take j) r u l
      rw [← htk] at hsn
      by_cases hq : r.u = u ∧ r.l = l
      · rw [if_pos hq] at hsn
        k_dflt (refine dat_eqT (d := .tuple [od r.u, od r.l]) (e := .tuple [od u, od l]) kN3 (m2.mono fun p hp => by repeat (first | exact hp | apply List.mem_cons_of_mem)) (hDin.mono fun p hp => by repeat (first | exact hp | apply List.mem_cons_of_mem)) hok1 hDok (by ktr_units) (by rw [hq.1, hq.2]) ?_)
        (repeat' (first | (k_unfold; (try dsimp only)) | (k_end; wrow_close) | walk1 | (dsimp only; walk1) | fail "no step"))
        rename News _ _ _ _ => kN4; rename Fr _ _ _ _ => kF4
        exact compEnd0 kF4 kN4 o2 trivial ⟨rfl, by rw [hsn, List.map_append]; rfl⟩
      · rw [if_neg hq, List.append_nil] at hsn
        k_dflt (refine dat_eqF (d := .tuple [od r.u, od r.l]) (e := .tuple [od u, od l]) kN3 (m2.mono fun p hp => by repeat (first | exact hp | apply List.mem_cons_of_mem)) (hDin.mono fun p hp => by repeat (first | exact hp | apply List.mem_cons_of_mem)) hok1 hDok (by ktr_units) (fun q => hq (by simp only [Dat.tuple.injEq, List.cons.injEq, and_true] at q; exact ⟨od_inj q.1, od_inj q.2⟩)) ?_)
        (repeat' (first | (k_unfold; (try dsimp only)) | (k_end; wrow_close) | walk1 | (dsimp only; walk1) | fail "no step"))
        rename News _ _ _ _ => kN4; rename Fr _ _ _ _ => kF4
        exact compEnd0 kF4 kN4 o2 trivial ⟨rfl, by rw [hsn]⟩
    · rintro ys nw ⟨rfl, rfl⟩
      rw [List.take_of_length_le (by rw [hvl, List.length_map]; exact Nat.le_refl _)]
      (first | (k_unfold; (try dsimp only)) | (k_end; wrow_close) | walk1 | (dsimp only; walk1) | fail "no step")
      iterate 3 (first | (k_unfold; (try dsimp only)) | (k_end; wrow_close) | walk1 | (dsimp only; walk1) | fail "no step")
      (repeat ((fail_if_success (k_dflt (show wpAny _ _ (compareOp _ _ _) _ _ _))); (first | (k_unfold; (try dsimp only)) | (k_end; wrow_close) | walk1 | (dsimp only; walk1) | fail "no step")))
      rename News _ _ _ _ => kN3
      k_dflt (refine bo_ne (bs := hits rows u l) (cs := []) kN3 (List.mem_cons_of_mem _ List.mem_cons_self) List.mem_cons_self (by ktr_units) ?_)
      by_cases hh1 : hits rows u l = []
      · rw [decide_eq_true hh1]
        obtain ⟨n1, n2, n3⟩ := hnext (by rw [hh1]; rfl)
        (first | (k_unfold; (try dsimp only)) | (k_end; wrow_close) | walk1 | (dsimp only; walk1) | fail "no step")
        (first | (k_unfold; (try dsimp only)) | (k_end; wrow_close) | walk1 | (dsimp only; walk1) | fail "no step")
        (first | (k_unfold; (try dsimp only)) | (k_end; wrow_close) | walk1 | (dsimp only; walk1) | fail "no step")
        (repeat' (first | (k_unfold; (try dsimp only)) | (k_end; wrow_close) | walk1 | (dsimp only; walk1) | fail "no step"))
        rename News _ _ _ _ => kN4; rename Fr _ _ _ _ => kF4
        refine zH _ _ ?_
        refine unrEnd_sub _ kF4 kN4 (fun p hp => List.mem_cons_of_mem _ (List.mem_cons_of_mem _ hp)) (fun p hp => ?_) ⟨⟨List.mem_cons_of_mem _ List.mem_cons_self, trivial⟩, ⟨_, _, rfl, by assumption⟩, by walk_at "mine name", n1, n2, n3⟩
        rcases List.mem_cons.mp hp with rfl | hp
        · exact Nat.ne_of_lt hIL
        · exact Nat.ne_of_lt (hI p (List.mem_cons_of_mem _ hp))
      · rw [decide_eq_false hh1]
        obtain ⟨b, hb⟩ : ∃ b, (hits rows u l).getLast? = some b := by
          cases hq : (hits rows u l).getLast? with
          | none => exact absurd (List.getLast?_eq_none_iff.mp hq) hh1
          | some b => exact ⟨b, rfl⟩
        iterate 8 (first | (k_unfold; (try dsimp only)) | (k_end; wrow_close) | walk1 | (dsimp only; walk1) | fail "no step")
        iterate 2 (first | (k_unfold; (try dsimp only)) | (k_end; wrow_close) | walk1 | (dsimp only; walk1) | fail "no step")
        k_dflt (refine ls_last (x := .bool b) kN3 (List.mem_cons_of_mem _ List.mem_cons_self) (by rw [List.getLast?_map, hb]; rfl) ?_)
        (repeat' (first | (k_unfold; (try dsimp only)) | (k_end; wrow_close) | walk1 | (dsimp only; walk1) | fail "no step"))
        refine zH _ _ ?_
        dsimp only [UnrPostW]
        (repeat' (first | (k_unfold; (try dsimp only)) | (k_end; wrow_close) | walk1 | (dsimp only; walk1) | fail "no step"))
        (rename News _ _ _ _ => kN; rename Fr _ _ _ _ => kF; refine hret _ _ _ _ kF kN ?_)
        exact ⟨by rw [hret1 b hb], fun p hp => by repeat (first | exact hp | apply List.mem_cons_of_mem)⟩
end
section
noncomputable def lastH (rows : List RowV) (u l : Option Str) : Option Bool := (hits rows u l).getLast?
theorem lastH_snoc (rs : List RowV) (r : RowV) (u l : Option Str) : lastH (rs ++ [r]) u l = if r.u = u ∧ r.l = l then some r.g else lastH rs u l := by
  unfold lastH
  rw [hits_snoc, List.getLast?_append]
  by_cases h : r.u = u ∧ r.l = l <;> simp [h]
noncomputable def tell3 : Option Bool → Option Bool → Option Bool → Bool × Int
  | some b, _, _ => (b, 2)
  | none, some b, _ => (b, 1)
  | none, none, some b => (b, 0)
  | none, none, none => (false, -1)
theorem goneS_eq (U V : Str) (rows : List RowV) : goneS U V rows = (tell3 (lastH rows (some U) (some V)) (lastH rows (some U) none) (lastH rows none none)).1 := by
  unfold goneS lastH
  cases (hits rows (some U) (some V)).getLast? <;> simp only [tell3]
  cases (hits rows (some U) none).getLast? <;> simp only [tell3]
  cases (hits rows none none).getLast? <;> simp only [tell3]
theorem tell0 (a b c : Option Bool) (g : Bool) : (if (0 : Int) ≥ (tell3 a b c).2 then (g, (0 : Int)) else tell3 a b c) = tell3 a b (some g) := by
  cases a <;> cases b <;> cases c <;> rfl
theorem tell1 (a b c : Option Bool) (g : Bool) : (if (1 : Int) ≥ (tell3 a b c).2 then (g, (1 : Int)) else tell3 a b c) = tell3 a (some g) c := by
  cases a <;> cases b <;> cases c <;> rfl
theorem tell2 (a b c : Option Bool) (g : Bool) : (if (2 : Int) ≥ (tell3 a b c).2 then (g, (2 : Int)) else tell3 a b c) = tell3 (some g) b c := by
  cases a <;> cases b <;> cases c <;> rfl
theorem foldS_eq (U V : Str) : ∀ (k : Nat) (rows : List RowV), rows.length = k → (∀ r ∈ rows, r.Ok) → foldS U V (false, -1) rows = tell3 (lastH rows (some U) (some V)) (lastH rows (some U) none) (lastH rows none none) := by
  intro k
  induction k with
  | zero =>
    intro rows hl _
    cases List.length_eq_zero_iff.mp hl
    rfl
  | succ k ih =>
    intro rows hl hok
    obtain ⟨rs, r, rfl⟩ : ∃ rs r, rows = rs ++ [r] := by
      have hne : rows ≠ [] := by intro e; simp [e] at hl
      exact ⟨rows.dropLast, rows.getLast hne, (List.dropLast_concat_getLast hne).symm⟩
    have i1 := ih rs (by simpa using hl) (fun q hq => hok q (List.mem_append_left _ hq))
    have hr := (hok r (List.mem_append_right _ List.mem_cons_self)).ul
    rw [foldS_snoc, i1, lastH_snoc, lastH_snoc, lastH_snoc]
    obtain ⟨u, l, g⟩ := r
    dsimp only at hr ⊢
    generalize lastH rs (some U) (some V) = a
    generalize lastH rs (some U) none = b
    generalize lastH rs none none = c
    cases u with
    | none =>
      cases hr rfl
      simp only [fitsOf, rankOf, reduceCtorEq, false_and, and_false, true_and, and_true, if_false, if_true, if_pos]
      exact tell0 a b c g
    | some u =>
      by_cases h : u = U
      · subst h
        cases l with
        | none =>
          simp only [fitsOf, rankOf, reduceCtorEq, beq_self_eq_true, false_and, and_false, true_and, and_true, if_false, if_true, if_pos]
          exact tell1 a b c g
        | some l =>
          by_cases h2 : l = V
          · subst h2
            simp only [fitsOf, rankOf, reduceCtorEq, beq_self_eq_true, Bool.and_self, false_and, and_false, true_and, and_true, if_false, if_true, if_pos]
            exact tell2 a b c g
          · simp [fitsOf, h2]
      · cases l <;> simp [fitsOf, h]
theorem fold_gone (U V : Str) (rows : List RowV) (hok : ∀ r ∈ rows, r.Ok) : (foldS U V (false, -1) rows).1 = goneS U V rows := by
  rw [foldS_eq U V _ rows rfl hok, goneS_eq]
theorem ne_cell {h₀ h : Heap} {L : Addr} {nx : List (Addr × Obj)} {x c : Addr} {ox oc : Obj} {v : Option Value} (N : News h₀ L h nx) (hx : (x, ox) ∈ nx) (hc : (c, oc) ∈ nx) (hd : oc.data = .cell v) (hn : ∀ v, ox.data ≠ .cell v) : x ≠ c := by
  rintro rfl
  have e := (N.get hx).symm.trans (N.get hc)
  cases e
  exact hn _ hd
theorem StripsAre.off {h₀ h : Heap} {L : Addr} {nx : List (Addr × Obj)} {c : Addr} {oc : Obj} {v : Option Value} (N : News h₀ L h nx) (hc : (c, oc) ∈ nx) (hd : oc.data = .cell v) {vs : List Value} {rs : List RowV} (X : StripsAre nx vs rs) : StripsAre (nx.filter fun p => p.1 != c) vs rs :=
  X.dat fun p hp hn => List.mem_filter.mpr ⟨hp, bne_iff_ne.mpr (ne_cell (x := p.1) (ox := p.2) N hp hc hd hn)⟩
open Classical in
theorem mem_fits (U V : Str) (r : RowV) (hul : r.u = none → r.l = none) : decide (Dat.tuple [od r.u, od r.l] ∈ [Dat.tuple [.str U, .str V], .tuple [.str U, .none], .tuple [.none, .none]]) = fitsOf U V r.u r.l := by
  obtain ⟨u, l, g⟩ := r
  dsimp only at hul ⊢
  cases u with
  | none =>
    cases hul rfl
    simp [od, fitsOf]
  | some u => cases l with
    | none => by_cases h : u = U <;> simp [od, fitsOf, h]
    | some l => by_cases h : u = U <;> by_cases h2 : l = V <;> simp [od, fitsOf, h, h2]
end
section
theorem ov_handed (t : Tok) (o : Option Str) : handedIn (ov t o) = true := by cases o <;> rfl
theorem spaces_con (prog : Program) (w : World) (news : List (Addr × Obj)) (R : Addr) (vs : List Value) (n : Nat) (rows : List RowV)
    (hR : (R, lob vs n) ∈ news) (hrows : DatAll news vs (rows.map RowV.dat)) (hlen : rows.length ≤ 63) (hok : ∀ r ∈ rows, r.Ok) :
    Con prog w 100 1000 510 [.ref R] news (fun r news' => r = .bool true ∧ ∀ p ∈ news, p ∈ news') := by
  unfold Con
  have hvl := DatAll.length hrows
  have hsz : vs.toArray.size ≤ sizeLine := by rw [sizeLine_eq, List.size_toArray, hvl, List.length_map]; omega
  (intro p loose mean mg mb dp un gd cn cs ad ccd cl outer A₀ base h₀ L m s Q E B F X N T hk hdp hu hret; refine wpAny_call ?_; k_dflt (refine' code_defC ?k1 ?k2 ?k3 ?k4 ?k5 ?kA ?kF ?kK ?k6 ?k7 ?k8 ?k9 ?kB ?kD ?_ ?c2 ?c3 ?c4; (case kA => exact rfl); (case kF => exact rfl); (case kK => assumption); (case k1 => k_asm); (case k2 => k_asm); (case k3 => k_asm); (case k4 => k_asm); (case k5 => k_asm); (case k6 => k_is); (case k7 => k_is); (case k8 => ktr_room); (case k9 => exact BindsTo.of_eq rfl); (case kB => exact rfl); (case kD => decide +kernel); (case c2 => exact rfl); (case c3 => exact rfl); (case c4 => exact rfl); k_whole; intro g' L' h' tk' cells' FG' F' N' Y' B' X' T' l1; (try k_lt l1); k_cells Y'; (try simp only [List.cons_append, List.nil_append] at N'); (try dsimp only); (try k_fold)))
  rename_i co1 co2 cd1 cd2
  (first | (k_unfold; (try dsimp only)) | (k_end; wrow_close) | walk1 | (dsimp only; walk1) | fail "no step")
  k_dflt (refine LCp.Assign_ListComp_P (F₀ := by k_asm) (by rfl) (by with_unfolding_all rfl) (by with_unfolding_all rfl) (by decide) (by rfl) (by decide) (by rfl) (by rfl) (by decide) (by rfl) (by rfl) ?_)
  (first | (k_unfold; (try dsimp only)) | (k_end; wrow_close) | walk1 | (dsimp only; walk1) | fail "no step")
  k_dflt (refine' LCp.SrcLP.ledger (by rfl) (by k_asm) (by k_asm) (by k_mem) ?sz ?_; (case sz => exact hsz)); intro g'
  refine restP_ind (fun i ys nx => (∀ p ∈ (_ :: _ :: news), p ∈ nx) ∧ StripsAre nx ys (rows.take i)) vs.toArray.size ?step ?fin _ 0 _ _ (Nat.add_zero _) ⟨fun p hp => hp, .nil⟩
  case step =>
    rintro i ys nx hi ⟨hsub, hst⟩ v hv
    obtain ⟨d, hd1, hd2⟩ := dat_get (hrows.mono fun p hp => hsub p (List.mem_cons_of_mem _ (List.mem_cons_of_mem _ hp))) (i := i) (v := v) (by simpa using hv)
    rw [List.getElem?_map, Option.map_eq_some_iff] at hd1
    obtain ⟨r, hr1, rfl⟩ := hd1
    obtain ⟨a, b, n1, n2, tu, tl, rfl, m1, m2⟩ := row_in hd2
    intro G9 kG; refine kG _ _ _ _ _ rfl m1 rfl rfl ?_
    have hU := ov_handed tu r.u
    have hV := ov_handed tl r.l
    obtain ⟨U, eU⟩ : ∃ U, U = ov tu r.u := ⟨_, rfl⟩
    obtain ⟨V, eV⟩ : ∃ V, V = ov tl r.l := ⟨_, rfl⟩
    rw [← eU, ← eV] at m2
    rw [← eU] at hU
    rw [← eV] at hV
    intro I oI C oC D m₂ h tk E' zQ zH q1 q2 q3 F2 N2 o2 q4
    have o2' := o2
    (repeat' (first | (k_unfold; (try dsimp only)) | (k_end; wrow_close) | walk1 | (dsimp only; walk1) | fail "no step"))
    rename News _ _ _ _ => kN; rename Fr _ _ _ _ => kF
    subst eU eV
    refine zH _ _ (compEnd2 kF kN o2 (by refine ⟨?_, ?_, ?_⟩ <;> k_ne) (by refine ⟨?_, ?_, ?_⟩ <;> k_ne) (.inr ⟨_, List.mem_cons_of_mem _ (List.mem_cons_of_mem _ (hsub _ (List.mem_cons_of_mem _ (List.mem_cons_of_mem _ hR)))), rfl, _, rfl⟩) ⟨fun p hp => List.mem_cons_of_mem _ (List.mem_cons_of_mem _ (hsub p hp)), ?_⟩)
    rw [List.take_add_one, hr1]
    exact (hst.mono fun p hp => List.mem_cons_of_mem _ (List.mem_cons_of_mem _ hp)).snoc ⟨⟨_, _, _, _, _, _, _, _, tu, tl⟩, rfl, List.mem_cons_self, List.mem_cons_of_mem _ List.mem_cons_self⟩
  case fin =>
    rintro ys nx ⟨hsub, hst⟩
    rw [List.take_of_length_le (by rw [List.size_toArray, hvl, List.length_map]; exact Nat.le_refl _)] at hst
    (first | (k_unfold; (try dsimp only)) | (k_end; wrow_close) | walk1 | (dsimp only; walk1) | fail "no step")
    rename_i S1 _ _ _ _ oS1
    (first | (k_unfold; (try dsimp only)) | (k_end; wrow_close) | walk1 | (dsimp only; walk1) | fail "no step")
    k_dflt (refine LCp.Assign_ListComp_P (F₀ := by k_asm) (by rfl) (by with_unfolding_all rfl) (by with_unfolding_all rfl) (by decide) (by rfl) (by decide) (by rfl) (by rfl) (by decide) (by rfl) (by rfl) ?_)
    (first | (k_unfold; (try dsimp only)) | (k_end; wrow_close) | walk1 | (dsimp only; walk1) | fail "no step")
    have hR2 := hsub _ (List.mem_cons_of_mem _ (List.mem_cons_of_mem _ hR))
    k_dflt (refine' LCp.SrcLP.ledger (by rfl) (by k_asm) (by k_asm) (by k_mem) ?sz ?_; (case sz => exact hsz)); intro g'
    refine restP_ind (fun i zs nz => (∀ p ∈ (_ :: nx), p ∈ nz) ∧ IntsAre zs ((rows.take i).map fun r => rankOf r.u r.l)) vs.toArray.size ?step ?fin _ 0 _ _ (Nat.add_zero _) ⟨fun p hp => hp, .nil⟩
    case step =>
      rintro i zs nz hi ⟨hsub2, hin⟩ v hv
      obtain ⟨d, hd1, hd2⟩ := dat_get (hrows.mono fun p hp => hsub2 _ (List.mem_cons_of_mem _ (hsub p (List.mem_cons_of_mem _ (List.mem_cons_of_mem _ hp))))) (i := i) (v := v) (by simpa using hv)
      rw [List.getElem?_map, Option.map_eq_some_iff] at hd1
      obtain ⟨r, hr1, rfl⟩ := hd1
      have hr2 := hok r (List.mem_of_getElem? hr1)
      obtain ⟨a, b, n1, n2, tu, tl, rfl, m1, m2⟩ := row_in hd2
      intro G9 kG; refine kG _ _ _ _ _ rfl m1 rfl rfl ?_
      intro I oI C oC D m₂ h tk E' zQ zH q1 q2 q3 F2 N2 o2 q4
      obtain ⟨u, l, g⟩ := r
      dsimp only at m2 m1 ⊢
      have hul := hr2.ul
      dsimp only at hul
      cases u <;> cases l
      case none.some => exact absurd (hul rfl) (by simp)
      all_goals dsimp only [ov] at m2
      all_goals (repeat' (first | (k_unfold; (try dsimp only)) | (k_end; wrow_close) | walk1 | (dsimp only; walk1) | fail "no step"))
      all_goals (rename News _ _ _ _ => kN; rename Fr _ _ _ _ => kF; exact zH _ _ (compEnd0 kF kN o2 (.inr ⟨_, hsub2 _ (List.mem_cons_of_mem _ hR2), rfl, _, rfl⟩) ⟨hsub2, (by rw [List.take_add_one, hr1, List.map_append]; exact ints_snoc hin)⟩))
    case fin =>
      rintro zs nz ⟨hsub2, hin⟩
      rw [List.take_of_length_le (by rw [List.size_toArray, hvl, List.length_map]; exact Nat.le_refl _)] at hin
      (first | (k_unfold; (try dsimp only)) | (k_end; wrow_close) | walk1 | (dsimp only; walk1) | fail "no step")
      (first | (k_unfold; (try dsimp only)) | (k_end; wrow_close) | walk1 | (dsimp only; walk1) | fail "no step")
      (first | (k_unfold; (try dsimp only)) | (k_end; wrow_close) | walk1 | (dsimp only; walk1) | fail "no step")
      (first | (k_unfold; (try dsimp only)) | (k_end; wrow_close) | walk1 | (dsimp only; walk1) | fail "no step")
      k_dflt (refine LCg.ListComp_U (F₀ := by k_asm) (by with_unfolding_all rfl) (by decide) (by rfl) (by decide) (by rfl) ?_)
      (first | (k_unfold; (try dsimp only)) | (k_end; wrow_close) | walk1 | (dsimp only; walk1) | fail "no step")
      have hsz2 : ys.toArray.size ≤ sizeLine := by rw [sizeLine_eq, List.size_toArray, hst.length]; omega
      have hS := hsub2 _ List.mem_cons_self
      have hS' : (S1, lob ys ys.length) ∈ nz := hS
      k_dflt (refine' LCg.CompSrc.ledger (by rfl) (by k_asm) (by k_asm) (List.mem_cons_of_mem _ hS) hsz2 ?_); intro g'
      refine rest_ind (fun i qs nq => (∀ p ∈ (_ :: nz), p ∈ nq) ∧ IntsAre qs ((rows.take i).map fun r => rankOf r.u r.l)) ys.toArray.size ?step ?fin _ 0 _ _ (Nat.add_zero _) ⟨fun p hp => hp, .nil⟩
      case step =>
        rintro i qs nq hi ⟨hsub3, hin3⟩ v hv I oI C oC D m₂ h tk E' zQ zH q1 q2 F2 N2 o2 q4
        have hst3 : StripsAre nq ys rows := hst.mono fun p hp => hsub3 _ (List.mem_cons_of_mem _ (hsub2 _ (List.mem_cons_of_mem _ hp)))
        obtain ⟨r, hr1, ⟨x, dx, h1, h2, h3, t1, t2, t3, tu, tl⟩, ev, m1, m2⟩ := hst3.get (i := i) (v := v) (by simpa using hv); dsimp only at ev m1 m2; subst ev
        (repeat ((fail_if_success (k_dflt (show wpAny _ _ (call (.ref 221) _) _ _ _))); (first | (k_unfold; (try dsimp only)) | (k_end; wrow_close) | walk1 | (dsimp only; walk1) | fail "no step"))); (try dsimp only [List.nil_append, List.cons_append])
        k_dflt (show wpAny _ _ (call (.ref 221) [.ref x]) _ _ _)
        (k_dflt (refine' con_use (rank_con _ _ _ x dx _ _ _ _ _ _ _ _ r.u r.l r.g ?e1 ?e2) ?uB ?uF ?uX ?uN ?uT ?uk ?ud ?uu ?_; (case uB => k_asm); (case uF => k_asm); (case uX => k_asm); (case uN => k_asm); (case e1 => k_mem); (case e2 => k_mem); (case uT => k_asm); (case uk => first | exact rfl | assumption); (case ud => ktr_room); (case uu => ktr_units)); rintro r9 news9 h9 tk9 F9 N9 ⟨⟨t9, rfl⟩, rfl⟩; (try dsimp only))
        exact zH _ _ (compEnd0 F9 N9 o2 (.inr ⟨_, hsub3 _ (List.mem_cons_of_mem _ hS), rfl, _, rfl⟩) ⟨hsub3, (by rw [List.take_add_one, hr1, List.map_append]; exact ints_snoc hin3)⟩)
      case fin =>
        rintro qs nq ⟨hsub3, hin3⟩
        rw [List.take_of_length_le (by rw [List.size_toArray, hst.length]; exact Nat.le_refl _)] at hin3
        (first | (k_unfold; (try dsimp only)) | (k_end; wrow_close) | walk1 | (dsimp only; walk1) | fail "no step")
        (first | (k_unfold; (try dsimp only)) | (k_end; wrow_close) | walk1 | (dsimp only; walk1) | fail "no step")
        rename News _ _ _ _ => kN
        have hZ := hsub3 _ (List.mem_cons_self)
        k_dflt (refine ke_ne_ints ⟨_, (kN _ List.mem_cons_self).1, rfl, _, rfl⟩ ⟨_, (kN _ (List.mem_cons_of_mem _ hZ)).1, rfl, _, rfl⟩ hin3 hin (by ktr_units) ?_)
        rw [decide_eq_true rfl]
        iterate 4 (first | (k_unfold; (try dsimp only)) | (k_end; wrow_close) | walk1 | (dsimp only; walk1) | fail "no step")
        obtain ⟨nst, hst', hn1, hn2, hn3, hn4⟩ : ∃ nst, StripsAre nst ys rows ∧ (∀ p ∈ nst, p.1 ≠ L' + 1 + 1) ∧ (∀ p ∈ nst, p.1 ≠ L' + 1) ∧ (∀ p ∈ nst, p ∈ nx) ∧ (∀ p ∈ news, p ∈ nst) := by
          have kNx : News _ _ _ nx := fun p hp => kN _ (List.mem_cons_of_mem _ (hsub3 _ (List.mem_cons_of_mem _ (hsub2 _ (List.mem_cons_of_mem _ hp)))))
          have a1 := hst.off kNx (hsub _ List.mem_cons_self) cd1
          have a2 := a1.off (fun p hp => kNx p (List.mem_filter.mp hp).1) (List.mem_filter.mpr ⟨hsub _ (List.mem_cons_of_mem _ List.mem_cons_self), by simp⟩) cd2
          refine ⟨_, a2, fun p hp => ?_, fun p hp => ?_, fun p hp => ?_, fun p hp => ?_⟩
          · simpa using (List.mem_filter.mp (List.mem_filter.mp hp).1).2
          · simpa using (List.mem_filter.mp hp).2
          · exact (List.mem_filter.mp (List.mem_filter.mp hp).1).1
          · have q := l1 p hp
            refine List.mem_filter.mpr ⟨List.mem_filter.mpr ⟨hsub _ (List.mem_cons_of_mem _ (List.mem_cons_of_mem _ hp)), ?_⟩, ?_⟩
            · have : p.1 ≠ L' + 1 + 1 := Nat.ne_of_lt (Nat.lt_succ_of_lt (Nat.lt_succ_of_lt q))
              simpa using this
            · have : p.1 ≠ L' + 1 := Nat.ne_of_lt (Nat.lt_succ_of_lt q)
              simpa using this
        k_dflt (refine For_turns (by k_asm) ?_)
        (repeat ((fail_if_success (k_dflt (show wpAny _ _ (pyIter _) _ _ _))); (first | (k_unfold; (try dsimp only)) | (k_end; wrow_close) | walk1 | (dsimp only; walk1) | fail "no step")))
        rename_i lx _ kF kN q4
        obtain ⟨q4a, q4b⟩ := q4
        have hlx : ∀ p ∈ nq, p.1 ≠ lx := fun p hp => Nat.ne_of_lt (tb_ltOf q4b p hp)
        have kN2 : News _ L' _ ((L' + 1 + 1, co1) :: (L' + 1, co2) :: (lx, lob [.str (Str.ofString "") _, .str (Str.ofString "u:1") _, .str (Str.ofString "u:2") _] 0) :: (S1, lob ys ys.length) :: nst) := fun p hp => kN p (by
          rcases List.mem_cons.mp hp with rfl | hp
          · exact List.mem_cons_of_mem _ (List.mem_cons_of_mem _ (hsub3 _ (List.mem_cons_of_mem _ (hsub2 _ (List.mem_cons_of_mem _ (hsub _ List.mem_cons_self))))))
          rcases List.mem_cons.mp hp with rfl | hp
          · exact List.mem_cons_of_mem _ (List.mem_cons_of_mem _ (hsub3 _ (List.mem_cons_of_mem _ (hsub2 _ (List.mem_cons_of_mem _ (hsub _ (List.mem_cons_of_mem _ List.mem_cons_self)))))))
          rcases List.mem_cons.mp hp with rfl | hp
          · exact List.mem_cons_self
          rcases List.mem_cons.mp hp with rfl | hp
          · exact List.mem_cons_of_mem _ (List.mem_cons_of_mem _ (hsub3 _ (List.mem_cons_of_mem _ hS')))
          · exact List.mem_cons_of_mem _ (List.mem_cons_of_mem _ (hsub3 _ (List.mem_cons_of_mem _ (hsub2 _ (List.mem_cons_of_mem _ (hn3 p hp)))))))
        have hS2 : ∀ p ∈ nst, p.1 ≠ S1 := fun p hp => off1_mem oS1 p (hn3 p hp)
        have hlx2 : @LT.lt Nat _ S1 lx := tb_ltOf q4b _ (hsub3 _ (List.mem_cons_of_mem _ hS'))
        have hlx3 : ∀ p ∈ nst, @LT.lt Nat _ p.1 lx := fun p hp => tb_ltOf q4b p (hsub3 _ (List.mem_cons_of_mem _ (hsub2 _ (List.mem_cons_of_mem _ (hn3 p hp)))))
        have hlx4 : @LT.lt Nat _ (L' + 1 + 1) lx := tb_ltOf q4b _ (hsub3 _ (List.mem_cons_of_mem _ (hsub2 _ (List.mem_cons_of_mem _ (hsub _ List.mem_cons_self)))))
        have hlx5 : @LT.lt Nat _ (L' + 1) lx := Nat.lt_of_succ_lt hlx4
        have hS3 : S1 ≠ L' + 1 + 1 := Ne.symm (off1_mem oS1 _ (hsub _ List.mem_cons_self))
        have hS4 : S1 ≠ L' + 1 := Ne.symm (off1_mem oS1 _ (hsub _ (List.mem_cons_of_mem _ List.mem_cons_self)))
        have hvl2 : ys.length = rows.length := hst.length
        clear kN q4a q4b hlx hsub hsub2 hsub3 hZ hS hS' hin hin3 hst hn3 hR2
        k_dflt (refine iter_listTurns (by rfl) kF kN2 (List.mem_cons_of_mem _ (List.mem_cons_of_mem _ List.mem_cons_self)) rfl rfl fun I hI => ?_)
        refine items_ind (fun i m nws => (∃ o1 o2 v1 v2, nws = (L' + 1 + 1, o1) :: (L' + 1, o2) :: _ ∧ o1.data = .cell v1 ∧ o2.data = .cell v2) ∧ m (Str.ofString "strips") = some (.ref S1) ∧ m (Str.ofString "rows") = some (.ref R)) _ ?turn ?done _ 0 _ _ (Nat.zero_le _) rfl ⟨⟨_, _, _, _, rfl, cd1, cd2⟩, rfl, rfl⟩
        case done =>
          rintro m1 nws ⟨⟨o1, o2, v1, v2, rfl, e1, e2⟩, ms, mr⟩ h tk F1 N1
          (repeat' (first | (k_unfold; (try dsimp only)) | (k_end; wrow_close) | walk1 | (dsimp only; walk1) | fail "no step"))
          (rename News _ _ _ _ => kN; rename Fr _ _ _ _ => kF; refine hret _ _ _ _ kF kN ?_)
          exact ⟨rfl, fun p hp => List.mem_cons_of_mem _ (List.mem_cons_of_mem _ (List.mem_cons_of_mem _ (List.mem_cons_of_mem _ (hn4 p hp))))⟩
        case turn =>
          rintro i v m1 nws h tk it hv zQ1 zH1 ⟨⟨o1, o2, v1, v2, rfl, e1, e2⟩, ms, mr⟩ F1 N1
          obtain ⟨U, tU, rfl, hU⟩ : ∃ U tU, v = .str U tU ∧ PyData.strOk U = true := by
            clear F1 N1
            rcases i with _ | _ | _ | i
            · cases hv; exact ⟨_, _, rfl, by decide +kernel⟩
            · cases hv; exact ⟨_, _, rfl, by decide +kernel⟩
            · cases hv; exact ⟨_, _, rfl, by decide +kernel⟩
            · simp at hv
          clear hv
          have hIL : @LT.lt Nat _ (L' + 1 + 1) I := hI _ List.mem_cons_self
          have hIL2 : @LT.lt Nat _ (L' + 1) I := Nat.lt_of_succ_lt hIL
          iterate 4 (first | (k_unfold; (try dsimp only)) | (k_end; wrow_close) | walk1 | (dsimp only; walk1) | fail "no step")
          k_dflt (refine For_turns (by k_asm) ?_)
          (repeat ((fail_if_success (k_dflt (show wpAny _ _ (pyIter _) _ _ _))); (first | (k_unfold; (try dsimp only)) | (k_end; wrow_close) | walk1 | (dsimp only; walk1) | fail "no step")))
          rename_i u1 hu1 ly _ kF kN q4
          obtain ⟨q5, q6, q7, q8, q9, q10⟩ := q4
          have hly : ∀ p ∈ nst, @LT.lt Nat _ p.1 ly := tb_ltOf q10
          k_dflt (refine iter_listTurns (by rfl) kF kN List.mem_cons_self rfl rfl fun I2 hI2 => ?_)
          refine items_ind (fun i m nws => (∃ o1 v1, nws = _ :: _ :: (L' + 1 + 1, o1) :: _ ∧ o1.data = .cell v1) ∧ m (Str.ofString "strips") = some (.ref S1) ∧ m (Str.ofString "rows") = some (.ref R)) _ ?turn2 ?done2 _ 0 _ _ (Nat.zero_le _) rfl ⟨⟨_, _, rfl, e1⟩, ms, mr⟩
          case done2 =>
            clear F1 N1
            rintro m2 nws ⟨⟨o3, v3, rfl, e3⟩, ms2, mr2⟩ h tk F1 N1
            (repeat' (first | (k_unfold; (try dsimp only)) | (k_end; wrow_close) | walk1 | (dsimp only; walk1) | fail "no step"))
            rename News _ _ _ _ => kN4; rename Fr _ _ _ _ => kF4
            refine zH1 _ _ ?_; refine unrEnd_sub _ kF4 kN4 (fun p hp => List.mem_cons_of_mem _ hp) (fun p hp => Nat.ne_of_lt ?_) ⟨⟨List.mem_cons_of_mem _ (List.mem_cons_of_mem _ List.mem_cons_self), trivial⟩, ⟨_, _, _, _, rfl, e3, hu1⟩, ms2, mr2⟩
            rcases List.mem_cons.mp hp with rfl | hp
            · exact hIL
            rcases List.mem_cons.mp hp with rfl | hp
            · exact hIL2
            · exact hI p (List.mem_cons_of_mem _ (List.mem_cons_of_mem _ hp))
          case turn2 =>
            clear F1 N1 kF kN
            rintro j v m2 nws h tk it2 hv zQ2 zH2 ⟨⟨o3, v3, rfl, e3⟩, ms2, mr2⟩ F1 N1
            obtain ⟨V, tV, rfl, hV⟩ : ∃ V tV, v = .str V tV ∧ PyData.strOk V = true := by
              clear F1 N1
              rcases j with _ | _ | j
              · cases hv; exact ⟨_, _, rfl, by decide +kernel⟩
              · cases hv; exact ⟨_, _, rfl, by decide +kernel⟩
              · simp at hv
            clear hv
            have hI2a : @LT.lt Nat _ ly I2 := hI2 _ List.mem_cons_self
            have hI2b : @LT.lt Nat _ I I2 := hI2 _ (List.mem_cons_of_mem _ List.mem_cons_self)
            have hI2c : @LT.lt Nat _ (L' + 1 + 1) I2 := hI2 _ (List.mem_cons_of_mem _ (List.mem_cons_of_mem _ List.mem_cons_self))
            have hI2d : @LT.lt Nat _ (L' + 1) I2 := Nat.lt_of_succ_lt hI2c
            iterate 4 (first | (k_unfold; (try dsimp only)) | (k_end; wrow_close) | walk1 | (dsimp only; walk1) | fail "no step")
            rename_i o4 hu4 _
            have hR3 : (R, lob vs n) ∈ nst := hn4 _ hR
            k_dflt (refine LCp.Assign_ListComp_P (F₀ := by k_asm) (by rfl) (by with_unfolding_all rfl) (by with_unfolding_all rfl) (by decide) (by rfl) (by decide) (by rfl) (by rfl) (by decide) (by rfl) (by rfl) ?_)
            (first | (k_unfold; (try dsimp only)) | (k_end; wrow_close) | walk1 | (dsimp only; walk1) | fail "no step")
            k_dflt (refine' LCp.SrcLP.ledger (by rfl) (by k_asm) (by k_asm) (List.mem_cons_of_mem _ (List.mem_cons_of_mem _ (List.mem_cons_of_mem _ (List.mem_cons_of_mem _ (List.mem_cons_of_mem _ (List.mem_cons_of_mem _ (List.mem_cons_of_mem _ hR3))))))) ?sz ?_; (case sz => exact hsz)); intro g'
            refine restP_ind (fun i zs nz => (∀ p ∈ (_ :: _ :: _ :: _ :: _ :: _ :: _ :: nst), p ∈ nz) ∧ zs = ((rows.take i).map fun r => fitsOf U V r.u r.l).map Value.bool) vs.toArray.size ?step ?fin _ 0 _ _ (Nat.add_zero _) ⟨fun p hp => hp, rfl⟩
            case step =>
              rintro i zs nz hi ⟨hsub2, rfl⟩ v hv
              obtain ⟨d, hd1, hd2⟩ := dat_get (hrows.mono fun p hp => hn4 p hp) (i := i) (v := v) (by simpa using hv)
              rw [List.getElem?_map, Option.map_eq_some_iff] at hd1
              obtain ⟨r, hr1, rfl⟩ := hd1
              have hr2 := hok r (List.mem_of_getElem? hr1)
              obtain ⟨a, b, n1, rfl, m1, m2⟩ := row_in2 hd2
              have hup : ∀ p ∈ nst, p ∈ nz := fun p hp => hsub2 p (List.mem_cons_of_mem _ (List.mem_cons_of_mem _ (List.mem_cons_of_mem _ (List.mem_cons_of_mem _ (List.mem_cons_of_mem _ (List.mem_cons_of_mem _ (List.mem_cons_of_mem _ hp)))))))
              intro G9 kG; refine kG _ _ _ _ _ rfl (hup _ m1) rfl rfl ?_
              intro I' oI C oC D m₂ h tk E' zQ zH q1 q2 q3 F2 N2 o2 q4
              have g1 := hsub2 _ (List.mem_cons_of_mem _ (List.mem_cons_of_mem _ (List.mem_cons_of_mem _ List.mem_cons_self)))
              have g2 := hsub2 _ (List.mem_cons_of_mem _ (List.mem_cons_of_mem _ (List.mem_cons_of_mem _ (List.mem_cons_of_mem _ List.mem_cons_self))))
              (repeat ((fail_if_success (k_dflt (show wpAny _ _ (compareOp _ _ _) _ _ _))); (first | (k_unfold; (try dsimp only)) | (k_end; wrow_close) | walk1 | (dsimp only; walk1) | fail "no step")))
              rename News _ _ _ _ => kN5
              have hok1 : kqdOk 8 (.tuple [od r.u, od r.l]) = true := by simp [kqdOk, od_ok hr2.su, od_ok hr2.sl]
              k_dflt (refine kqd_isIn (ds := [.tuple [.str U, .str V], .tuple [.str U, .none], .tuple [.none, .none]]) (d := .tuple [od r.u, od r.l]) kN5 List.mem_cons_self rfl rfl (.cons (.tuple (List.mem_cons_of_mem _ (List.mem_cons_of_mem _ (List.mem_cons_of_mem _ List.mem_cons_self))) (.cons (.str U tU) (.cons (.str V tV) .nil))) (.cons (.tuple (List.mem_cons_of_mem _ (List.mem_cons_of_mem _ List.mem_cons_self)) (.cons (.str U tU) (.cons .none .nil))) (.cons (.tuple (List.mem_cons_of_mem _ List.mem_cons_self) (.cons .none (.cons .none .nil))) .nil))) (fun p hp => hp) m2 (fun p hp => by have hp2 := hup p hp; repeat (first | exact hp2 | apply List.mem_cons_of_mem)) (by simp [kqdOk, hU, hV]) hok1 (by ktr_units) ?_)
              rw [mem_fits U V r hr2.ul]
              (repeat' (first | (k_unfold; (try dsimp only)) | (k_end; wrow_close) | walk1 | (dsimp only; walk1) | fail "no step"))
              rename News _ _ _ _ => kN6; rename Fr _ _ _ _ => kF6
              exact zH _ _ (compEndD [_, _, _, _] kF6 kN6 o2 (.inr ⟨_, hup _ hR3, rfl, _, rfl⟩) ⟨hsub2, (by rw [List.take_add_one, hr1, List.map_append, List.map_append]; rfl)⟩)
            case fin =>
              rintro zs nz ⟨hsub2, rfl⟩
              rw [List.take_of_length_le (by rw [List.size_toArray, hvl, List.length_map]; exact Nat.le_refl _)]
              iterate 6 (first | (k_unfold; (try dsimp only)) | (k_end; wrow_close) | walk1 | (dsimp only; walk1) | fail "no step")
              have hup : ∀ p ∈ nst, p ∈ nz := fun p hp => hsub2 p (List.mem_cons_of_mem _ (List.mem_cons_of_mem _ (List.mem_cons_of_mem _ (List.mem_cons_of_mem _ (List.mem_cons_of_mem _ (List.mem_cons_of_mem _ (List.mem_cons_of_mem _ hp)))))))
              have g1 := hsub2 _ (List.mem_cons_of_mem _ (List.mem_cons_of_mem _ (List.mem_cons_of_mem _ List.mem_cons_self)))
              have g2 := hsub2 _ (List.mem_cons_of_mem _ (List.mem_cons_of_mem _ (List.mem_cons_of_mem _ (List.mem_cons_of_mem _ List.mem_cons_self))))
              have hS5 := hsub2 _ (List.mem_cons_of_mem _ (List.mem_cons_of_mem _ (List.mem_cons_of_mem _ (List.mem_cons_of_mem _ (List.mem_cons_of_mem _ (List.mem_cons_of_mem _ List.mem_cons_self))))))
              have hstz : StripsAre nz ys rows := hst'.mono hup
              k_dflt (refine' LCg.CompSrc.ledger (by rfl) (by k_asm) (by k_asm) (List.mem_cons_of_mem _ hS5) hsz2 ?_); intro g'
              refine rest_ind (fun i qs nq => (∀ p ∈ (_ :: nz), p ∈ nq) ∧ qs = ((rows.take i).map fun r => fitsOf U V r.u r.l).map Value.bool) ys.toArray.size ?step ?fin _ 0 _ _ (Nat.add_zero _) ⟨fun p hp => hp, rfl⟩
              case step =>
                rintro i qs nq hi ⟨hsub3, rfl⟩ v hv I' oI C oC D m₂ h tk E' zQ zH q1 q2 F2 N2 o2 q4
                have hst3 : StripsAre nq ys rows := hstz.mono fun p hp => hsub3 _ (List.mem_cons_of_mem _ hp)
                obtain ⟨r, hr1, ⟨x, dx, h1, h2, h3, t1, t2, t3, tu, tl⟩, ev, m1, m2⟩ := hst3.get (i := i) (v := v) (by simpa using hv); dsimp only at ev m1 m2; subst ev
                have hr2 := hok r (List.mem_of_getElem? hr1)
                have g3 := hsub3 _ (List.mem_cons_of_mem _ g1)
                have g4 := hsub3 _ (List.mem_cons_of_mem _ g2)
                (repeat ((fail_if_success (k_dflt (show wpAny _ _ (call (.ref 228) _) _ _ _))); (first | (k_unfold; (try dsimp only)) | (k_end; wrow_close) | walk1 | (dsimp only; walk1) | fail "no step"))); (try dsimp only [List.nil_append, List.cons_append])
                k_dflt (show wpAny _ _ (call (.ref 228) [.ref x, .str U tU, .str V tV]) _ _ _)
                (k_dflt (refine' con_use (fits_con _ _ _ x dx _ _ _ _ _ _ _ _ _ _ r.u r.l _ _ r.g hr2.ul hr2.su hr2.sl hU hV ?e1 ?e2) ?uB ?uF ?uX ?uN ?uT ?uk ?ud ?uu ?_; (case uB => k_asm); (case uF => k_asm); (case uX => k_asm); (case uN => k_asm); (case e1 => k_mem); (case e2 => k_mem); (case uT => k_asm); (case uk => first | exact rfl | assumption); (case ud => ktr_room); (case uu => ktr_units)); rintro r9 news9 h9 tk9 F9 N9 ⟨rfl, hs9⟩; (try dsimp only))
                exact zH _ _ (compEnd0 F9 (fun p hp => N9 p (hs9 p hp)) o2 (.inr ⟨_, hsub3 _ (List.mem_cons_of_mem _ hS5), rfl, _, rfl⟩) ⟨hsub3, (by rw [List.take_add_one, hr1, List.map_append, List.map_append]; rfl)⟩)
              case fin =>
                rintro qs nq ⟨hsub3, rfl⟩
                rw [List.take_of_length_le (by rw [List.size_toArray, hvl2]; exact Nat.le_refl _)]
                iterate 2 (first | (k_unfold; (try dsimp only)) | (k_end; wrow_close) | walk1 | (dsimp only; walk1) | fail "no step")
                rename News _ _ _ _ => kN5
                k_dflt (refine bo_ne (bs := rows.map fun r => fitsOf U V r.u r.l) (cs := rows.map fun r => fitsOf U V r.u r.l) kN5 List.mem_cons_self (List.mem_cons_of_mem _ (hsub3 _ List.mem_cons_self)) (by ktr_units) ?_)
                rw [decide_eq_true rfl]
                have gl1 := hsub3 _ (List.mem_cons_of_mem _ g1)
                have gl2 := hsub3 _ (List.mem_cons_of_mem _ g2)
                have hall : ∀ p ∈ nz, p ∈ nq := fun p hp => hsub3 _ (List.mem_cons_of_mem _ hp)
                (repeat ((fail_if_success (k_dflt (show wpAny _ _ (call (.ref 242) _) _ _ _))); (first | (k_unfold; (try dsimp only)) | (k_end; wrow_close) | walk1 | (dsimp only; walk1) | fail "no step"))); (try dsimp only [List.nil_append, List.cons_append])
                k_dflt (show wpAny _ _ (call (.ref 242) [.ref S1, .str U tU, .str V tV]) _ _ _)
                (k_dflt (refine' con_use (stripped_con _ _ _ S1 ys _ rows U V _ _ (List.mem_cons_of_mem _ (hall _ hS5)) (hstz.mono fun p hp => List.mem_cons_of_mem _ (hall p hp)) hok hU hV) ?uB ?uF ?uX ?uN ?uT ?uk ?ud ?uu ?_; (case uB => k_asm); (case uF => k_asm); (case uX => k_asm); (case uN => k_asm);  (case uT => k_asm); (case uk => first | exact rfl | assumption); (case ud => ktr_room); (case uu => ktr_units)); rintro r9 news9 h9 tk9 F9 N9 ⟨rfl, hs9⟩; (try dsimp only))
                have gl3 := hs9 _ (List.mem_cons_of_mem _ gl1)
                have gl4 := hs9 _ (List.mem_cons_of_mem _ gl2)
                (repeat ((fail_if_success (k_dflt (show wpAny _ _ (call (.ref 505) _) _ _ _))); (first | (k_unfold; (try dsimp only)) | (k_end; wrow_close) | walk1 | (dsimp only; walk1) | fail "no step"))); (try dsimp only [List.nil_append, List.cons_append])
                k_dflt (show wpAny _ _ (call (.ref 505) [.ref R, .str U tU, .str V tV]) _ _ _)
                (k_dflt (refine' con_use (gone_con _ _ _ R vs _ rows U V _ _ (hs9 _ (List.mem_cons_of_mem _ (hall _ (hup _ hR3)))) (hrows.mono fun p hp => hs9 _ (List.mem_cons_of_mem _ (hall _ (hup _ (hn4 p hp))))) hlen hok hU hV) ?uB ?uF ?uX ?uN ?uT ?uk ?ud ?uu ?_; (case uB => k_asm); (case uF => k_asm); (case uX => k_asm); (case uN => k_asm);  (case uT => k_asm); (case uk => first | exact rfl | assumption); (case ud => ktr_room); (case uu => ktr_units)); rintro r9 news9 h9 tk9 F9 N9 ⟨rfl, hs8⟩; (try dsimp only))
                rw [fold_gone U V rows hok]
                (first | (k_unfold; (try dsimp only)) | (k_end; wrow_close) | walk1 | (dsimp only; walk1) | fail "no step")
                (first | (k_unfold; (try dsimp only)) | (k_end; wrow_close) | walk1 | (dsimp only; walk1) | fail "no step")
                (first | (k_unfold; (try dsimp only)) | (k_end; wrow_close) | walk1 | (dsimp only; walk1) | fail "no step")
                · with_reducible rename (goneS U V rows != goneS U V rows) = true => ha
                  exact absurd ha (by simp)
                · (repeat' (first | (k_unfold; (try dsimp only)) | (k_end; wrow_close) | walk1 | (dsimp only; walk1) | fail "no step"))
                  rename News _ _ _ _ => kN6; rename Fr _ _ _ _ => kF6
                  refine zH2 _ _ ?_; refine unrEnd_sub _ kF6 kN6 (fun p hp => hs8 _ (hs9 _ (List.mem_cons_of_mem _ (hall _ (hsub2 p hp))))) (fun p hp => Nat.ne_of_lt ?_) ⟨⟨List.mem_cons_self, trivial⟩, ⟨_, _, rfl, by assumption⟩, by walk_at "mine name", by walk_at "mine name"⟩
                  rcases List.mem_cons.mp hp with rfl | hp
                  · exact hI2a
                  rcases List.mem_cons.mp hp with rfl | hp
                  · exact hI2b
                  rcases List.mem_cons.mp hp with rfl | hp
                  · exact hI2c
                  rcases List.mem_cons.mp hp with rfl | hp
                  · exact hI2d
                  · exact hI2 p (List.mem_cons_of_mem _ (List.mem_cons_of_mem _ (List.mem_cons_of_mem _ (List.mem_cons_of_mem _ hp))))
end
section
noncomputable abbrev excO (C : Addr) (t : Addr) (dd : Option Addr := none) : Obj := { cls := .ref C, dict := dd, data := .fields #[.ref t, .none, .none, .none, .bool false, .none] }
section
variable {prog : Program} {w : World} {A : Around} {E : Value → Shared → Prop} {h₀ h : Heap} {g : Array GenState} {d : Drawn} {tk : Nat} {os : OsState} {L e t C : Addr} {m : Str → Option Value} {rest : List (Addr × Obj)} {v : Value} {K : Frag} {Q : Value → Shared → Prop}
theorem exc_init_check {M : Model} {c0 : Value} {dd : Option Addr} {cd : ClassData} {sl : Array (Option Value)} {Q : Unit → Shared → Prop} (hC : h.get? C = some { cls := c0, dict := dd, data := .cls cd, slots := sl }) (hget : h.get? e = some (excO C t)) (hsub : Looks M h (isSubtype (.ref C) (.type "Exception")) true) {rs : List Value} (hq : Q () ⟨h, g, d, tk, os⟩) :
    wpAny M A (checkBuiltinCall "Exception.__init__" ⟨.ref e :: rs, []⟩) Q E ⟨h, g, d, tk, os⟩ := by
  have FE := PySem.F.excCall_Exception
  have hshort := FE.noStar
  simp only [checkBuiltinCall, FE.initKind, FE.initSplit, FE.initRow]
  repeat (first | (with_reducible refine wpAny_loadPart_at hget ?_) | (with_reducible refine hsub.here ?_) | (with_reducible refine wpAny_load hC ?_) | wp_step)
  refine wpAny_onRaise ?_
  rw [show ∀ (a b : String) (n : Nat), Bind.check ⟨.positional, "*", "Exception", .self, [⟨"args", .varPos, false⟩]⟩ a b n (List.map (fun x => x.fst) ({ pos := Value.ref e :: rs } : Args).kw) = pure () from
    fun a b n => check_star_args _ _ _ _ _ _]
  exact wpAny_pure hq
theorem exc_init (hcl : (clsIn K C).isSome = true) (F : Fr h₀ L h m) (N : News h₀ L h ((e, excO C t) :: rest)) (hne : ∀ p ∈ rest, p.1 ≠ e) (X₀ : K.In h₀) (hsub : subIn K (.ref C) (.type "Exception") = some true)
    (hq : ∀ h' t', Fr h₀ L h' m → News h₀ L h' ((e, excO C t') :: rest) → Q .none ⟨h', g, d, tk, os⟩) :
    wpAny (model prog w) A (call (.builtin "Exception.__init__") [.ref e, v]) Q E ⟨h, g, d, tk, os⟩ := by
  have FE := PySem.F.excCall_Exception
  have X := X₀.keeps F.keep
  have hget := N.get List.mem_cons_self
  obtain ⟨c0, dd, cd, sl, hC⟩ : ∃ c0 dd cd sl, K.lookup C = some { cls := c0, dict := dd, data := .cls cd, slots := sl } := by
    unfold clsIn at hcl
    split at hcl
    · rename_i ho
      exact ⟨_, _, _, _, ho⟩
    · cases hcl
  refine wpAny_call (codeAny_call_builtin FE.init.plain FE.initEntry (exc_init_check (X _ _ hC) hget (looks_subIn X hsub) ?_))
  unfold Builtin.«BaseException.__init__»
  wp_walk
  obtain ⟨U1, U2⟩ := news_upd (pre := []) (f := Obj.mapFields fun x => x.setIfInBounds 0 (Value.ref h.objs.size)) (F.push { cls := Value.type "tuple", data := Data.seq #[v] }) (N.pushKeep _) (fun _ hp => nomatch hp) hne rfl rfl
  exact hq _ _ U1 U2
end
end
section
noncomputable def excOk (K : Frag) (C D : Addr) : Bool := (clsIn K C).any fun cd => cd.mro == [.ref C, .ref D, .type "Exception", .type "BaseException", .type "object"] && cd.hasDict
section
open PySem.Builtin PySem.Builtin.ObjectAttr
variable {prog : Program} {w : World} {A : Around} {E : Value → Shared → Prop} {h₀ h : Heap} {g : Array GenState} {d : Drawn} {tk : Nat} {os : OsState} {L e t C D : Addr} {m : Str → Option Value} {rest : List (Addr × Obj)} {v : Value} {K : Frag} {name : Str} {cd : ClassData}
theorem exc_set {Q : Unit → Shared → Prop} (F : Fr h₀ L h m) (N : News h₀ L h ((e, excO C t) :: rest)) (hne : ∀ p ∈ rest, p.1 ≠ e) (X₀ : K.In h₀) (hok : excOk K C D = true)
    (hs : findIn K (.ref C) "__setattr__" = some (some (.builtin "object.__setattr__"))) (hf : findIn K (.ref C) name = some none)
    (hq : ∀ h' tk' dx, Fr h₀ L h' m → News h₀ L h' ((e, excO C t (some dx)) :: rest) → Q () ⟨h', g, d, tk', os⟩) : wpAny (model prog w) A (setAttr (.ref e) name v) Q E ⟨h, g, d, tk, os⟩ := by
  have X := X₀.keeps F.keep
  obtain ⟨cd, hcd, hok2⟩ := any_some hok
  obtain ⟨hm1, hhd⟩ := Bool.and_eq_true_iff.mp hok2
  have hmro := beq_iff_eq.mp hm1
  have hget := N.get List.mem_cons_self
  have I : InstAt h e (excO C t) C none := ⟨hget, rfl, rfl, trivial⟩
  have SF := PySem.F.store_object
  refine set_plain X I hs ?_
  have hm : Looks (model prog w) h (mroOf (.ref C)) cd.mro := (looks_clsIn X hcd).andThen .now
  have sub : Looks (model prog w) h (isInstance (.ref e) (.type "object")) true := I.type.andThen (looks_mroIn X (by unfold mroIn; rw [hcd, Option.bind_some, hmro]; rfl))
  refine codeAny_call_builtin SF.slot.plain SF.entry (@check_slot (model prog w) _ _ ⟨h, g, d, tk + 1, os⟩ "object.__setattr__" "object" "__setattr__" (.ref e) [.str name tk, v] [] _ SF.kind SF.split sub (SF.args (.ref e) (.str name tk) v) ?_)
  rw [osa_eq, refuse_eq]
  refine wpAny_bind (wpAny_bind (I.type.here (wpAny_bind (hm.here ?_))))
  rw [hmro, refuseLoop_ref, refuseLoop_ref, PySem.F.store_Exception.passes]
  refine wpAny_pure (wpAny_bind (I.type.here (wpAny_bind ((looks_findIn X hf).here (wpAny_bind (wpAny_pure ?_))))))
  dsimp only
  refine wpAny_bind (wpAny_pure (wpAny_bind (wpAny_bind (wpAny_loadPart hget (wpAny_bind ((looks_clsIn X hcd).here ?_))))))
  rw [hhd]
  show wpAny _ _ (alloc { cls := Value.type "dict", data := Data.dict #[] } >>= fun d => update e (fun o => { cls := o.cls, dict := some d, data := o.data, slots := o.slots }) >>= fun _ => dictMade (excO C t).cls e d) _ _ _
  have hxs : e ≠ h.objs.size := Nat.ne_of_lt (Heap.lt_size hget)
  have hx₁ : (h.push { cls := .type "dict", data := .dict #[] }).get? e = some (excO C t) := Heap.get?_push_of_some _ hget
  refine wpAny_bind (wpAny_alloc' ?_)
  refine wpAny_bind (wpAny_update' hx₁ ?_)
  refine wpAny_pure ?_
  obtain ⟨U1, U2⟩ := news_upd (pre := []) (f := fun o => { cls := o.cls, dict := some h.objs.size, data := o.data, slots := o.slots }) (F.push { cls := .type "dict", data := .dict #[] }) (N.pushKeep _) (fun _ hp => nomatch hp) hne rfl rfl
  have hgd : ((h.push { cls := .type "dict", data := .dict #[] }).update e fun o => { cls := o.cls, dict := some h.objs.size, data := o.data, slots := o.slots }).get? h.objs.size
      = some { cls := .type "dict", data := .dict #[] } :=
    (Heap.get?_update_ne _ _ _ _ hxs.symm).trans (Heap.get?_push_at rfl rfl)
  have hnd : ((h.push { cls := .type "dict", data := .dict #[] }).update e fun o => { cls := o.cls, dict := some h.objs.size, data := o.data, slots := o.slots }).Ns h.objs.size (fun _ => none) :=
    ⟨_, #[], _, hgd, rfl, fun e he => absurd he (by simp), fun _ => rfl⟩
  show wpAny _ _ (storeInDict h.objs.size (.str name tk) name v) _ _ _
  unfold storeInDict newKeyGuard
  refine wpAny_bind (wpAny_pure (wpAny_bind (wpAny_nsSet1 (Heap.Ns1.of_empty hnd) fun h' hn' hs => ?_)))
  obtain ⟨oD, esD, epD, hoD, hdD, hcD⟩ := hn'.count (Within.cons name v Within.nil)
  refine wpAny_bind (wpAny_lookBehind hoD (by rw [hdD]; exact pastItsLine_dict (Nat.le_trans hcD (by rw [List.length_cons, List.length_nil, sizeLine_eq]; omega))) ?_)
  have hnone : h₀.get? h.objs.size = none := by
    cases q : h₀.get? h.objs.size with
    | none => rfl
    | some o => exact absurd (Heap.lt_size (F.keep _ _ q)) (Nat.lt_irrefl _)
  have hL : h.objs.size ≠ L := by
    obtain ⟨oL, _, _, hL, _⟩ := F.ns
    exact Nat.ne_of_gt (Heap.lt_size hL)
  have F2 : Fr h₀ L h' m := U1.change hs hL hnone
  have N2 : News h₀ L h' ((e, excO C t (some h.objs.size)) :: rest) := fun p hp => by
    have z := U2 p hp
    refine ⟨(hs.2 _ ?_).trans z.1, z.2⟩
    rcases List.mem_cons.mp hp with rfl | hp
    · exact hxs
    · exact Nat.ne_of_lt (Heap.lt_size (N p (List.mem_cons_of_mem _ hp)).1)
  exact wpAny_pure (hq _ _ _ F2 N2)
end
end
section
noncomputable def ExcObj (K : Frag) (C D : Addr) : Prop := ∃ nm q N bs sn sub ab col dd k0 k1 k2 k3 k5, K.lookup C = some (excClassObj nm q C N bs [.ref D, .type "Exception", .type "BaseException", .type "object"] true sn sub ab col dd k0 k1 k2 k3 k5 "Exception.__new__")
section
variable {prog : Program} {w : World} {A : Around} {R : Result → Shared → Prop} {h : Heap} {g : Array GenState} {d : Drawn} {t : Nat} {os : OsState}
variable {nm q : Str} {C D N : Addr} {bs : List Value} {sn : List Str} {sub : List Value} {ab : Bool} {col : Option Bool} {dd : Option Addr} {k0 k1 k2 k3 k5 : Option Value}
noncomputable abbrev bmE (D : Addr) : List Value := [.ref D, .type "Exception", .type "BaseException", .type "object"]
noncomputable abbrev tupO (rest : List Value) : Obj := { cls := .type "tuple", data := .seq rest.toArray }
theorem checkE {M : Model} {E : Value → Shared → Prop} {rest : List Value} {Q : Unit → Shared → Prop} (hC : h.get? C = some (excClassObj nm q C N bs (bmE D) true sn sub ab col dd k0 k1 k2 k3 k5 "Exception.__new__"))
    (hq : Q () ⟨h, g, d, t, os⟩) : wpAny M A (checkBuiltinCall "Exception.__new__" ⟨.ref C :: rest, []⟩) Q E ⟨h, g, d, t, os⟩ := by
  have F := PySem.F.excBase_Exception
  have hcont : (Value.ref C :: bmE D).contains (.type "Exception") = true := rfl
  have hstar := F.noStar
  simp only [checkBuiltinCall, F.newKind, F.newSplit, F.newRow]
  repeat (first | refine wpAny_loadPart_at hC ?_ | (refine wpAny_isSubtype_exc hC ?_; rw [hcont]) | refine wpAny_staticBase_exc hC ?_ | refine wpAny_madeBy_exc hC ?_ | simp only [bne_self_eq_false, Bool.false_eq_true, if_false] | wp_step)
  exact hq
theorem newE {rest : List Value} (hC : h.get? C = some (excClassObj nm q C N bs (bmE D) true sn sub ab col dd k0 k1 k2 k3 k5 "Exception.__new__"))
    (hq : R (.ok (.ret (.ref (h.objs.size + 1)))) ⟨(h.push (tupO rest)).push (excO C h.objs.size), g, d, t, os⟩) (hrest : rest.length ≤ sizeLine) :
    codeAny (model prog w) A (.builtin "Exception.__new__" ⟨.ref C :: rest, []⟩) R ⟨h, g, d, t, os⟩ := by
  have F := PySem.F.excBase_Exception
  have hends := F.ends
  have hcB : (Value.ref C :: bmE D).contains (.type "Exception") = true := rfl
  have hcA : (Value.ref C :: bmE D).contains (.type "AttributeError") = false := rfl
  have hcN : (Value.ref C :: bmE D).contains (.type "NameError") = false := rfl
  refine codeAny_builtinAt F.entry ?_
  unfold Builtin.«BaseException.__new__»
  refine PySem.wpAt_bind ?_
  show PySem.wpAt _ _ _ (stack >>= _) _ _ _
  refine PySem.wpAt_bind (PySem.wpAt_stack fun p below => PySem.wpAt_of_wpAny ?_)
  wp_walk
  refine PySem.wpAt_of_wpAny ?_
  rw [F.owner]
  repeat (first | with_reducible refine wpAny_madeHere_exc F.canon hC ?_ | with_reducible refine wpAny_loadPart_at hC ?_ | (with_reducible refine wpAny_isSubtype_exc hC ?_; first | rw [hcB] | rw [hcA] | rw [hcN]) | wp_step)
  show R _ _
  rw [Heap.size_push]
  exact hq
end
end
section
section
variable {prog : Program} {w : World} {A : Around} {K : Frag} {R : Result → Shared → Prop} {h : Heap} {g : Array GenState} {d : Drawn} {t : Nat} {os : OsState}
variable {C D fI : Addr}
theorem makeE_core {rest : List Value} (X : K.In h) (hok : ExcObj K C D) (hi : findIn K (.ref C) "__init__" = some (some (.ref fI))) (hf : typeIn K (.ref fI) = some (.type "function"))
    (hcall : specialIn K (.ref C) "__call__" = some (some (.builtin "type.__call__"))) (htyp : instIn K (.ref C) (.type "type") = some true) (hrest : rest.length ≤ sizeLine)
    (hq : codeAny (model prog w) (A.under (.builtin "type.__call__" ⟨.ref C :: rest, []⟩)) (.call (.ref fI) ⟨.ref (h.objs.size + 1) :: rest, []⟩) (InitBack (h.objs.size + 1) R) ⟨(h.push (tupO rest)).push (excO C h.objs.size), g, d, t, os⟩) :
    codeAny (model prog w) A (.call (.ref C) ⟨rest, []⟩) R ⟨h, g, d, t, os⟩ := by
  obtain ⟨nm, q, N, bs, sn, sub, ab, col, dd, k0, k1, k2, k3, k5, hCK⟩ := hok
  have hC := X _ _ hCK
  have F := PySem.F.excBase_Exception
  have call : Looks (model prog w) h (specialOf (.ref C) "__call__") (some (.builtin "type.__call__")) := looks_specialIn X hcall
  have typ : Looks (model prog w) h (isInstance (.ref C) (.type "type")) true := looks_instIn X htyp
  have hi' : Looks (model prog w) h (typeLookup (.ref C) "__init__") (some (.ref fI)) := looks_findIn X hi
  have hb : ∀ self, Looks (model prog w) h (bindSpecial (.ref fI) self) (.ref fI, [self]) := fun self => bind_fn X self hf
  refine codeAny_of_tree ?_
  show wpAny _ _ (callAny (.ref C) _) _ _ _
  refine nd_load hC ?_
  show wpAny _ _ (callAny.viaDunder (.ref C) _) _ _ _
  unfold callAny.viaDunder
  refine wpAny_bind (call.at ?_)
  dsimp only
  rw [tc_bind]
  refine wpAny_bind (wpAny_pure (wpAny_bind (wpAny_pure ?_)))
  refine wpAny_pure (a := Fin.again (.call (.builtin "type.__call__") ⟨.ref C :: rest, []⟩)) (And.intro rfl ?_)
  refine codeAny_call_builtin_at (Code.quiet_builtin _ (by decide +kernel)) entry_typeCall (check_slot tc_kind tc_split typ (tc_args _ _ _) ?_)
  unfold Builtin.«type.__call__»
  repeat (first | with_reducible refine wpAny_loadPart_at hC ?_ | with_reducible refine wpAny_madeBy_exc hC ?_ | wp_step)
  refine codeAny_call_builtin_code (Code.quiet_builtin _ F.quiet) (checkE hC ?_)
  refine newE hC ?_ hrest
  show wpAny _ _ _ _ _ _
  have k : ∀ b o, h.get? b = some o → ((h.push (tupO rest)).push (excO C h.objs.size)).get? b = some o := fun b o e => Heap.get?_push_of_some _ (Heap.get?_push_of_some _ e)
  have hx : ((h.push (tupO rest)).push (excO C h.objs.size)).get? (h.objs.size + 1) = some (excO C h.objs.size) := by heap_get
  have t1 : Looks (model prog w) ((h.push (tupO rest)).push (excO C h.objs.size)) (typeOf (.ref (h.objs.size + 1))) (.ref C) := (Looks.ld hx).andThen .now
  have s0 : Looks (model prog w) h (isSubtype (.ref C) (.ref C)) true := looks_mroIn X (by unfold mroIn clsIn; rw [hCK]; simp)
  have s1 := s0.keeps k
  have i1 := hi'.keeps k
  have b1 := (hb (.ref (h.objs.size + 1))).keeps k
  unfold isInstance callSpecial? specialOf
  repeat (first | with_reducible refine wpAny_call ?_ | lk)
  refine codeAny_mono hq fun r s' z => ?_
  rcases r with e | (v | _ | _ | _) <;> first | exact z | exact z.elim | skip
  obtain ⟨rfl, z⟩ := z
  exact wpAny_pure (wpAny_pure z)
theorem makeE_K {h₀ : Heap} {L : Addr} {m : Str → Option Value} {news : List (Addr × Obj)} {s : Shared} {rest : List Value} (F : Fr h₀ L s.heap m) (N : News h₀ L s.heap news) (X₀ : K.In h₀) (hok : ExcObj K C D) (hi : findIn K (.ref C) "__init__" = some (some (.ref fI))) (hf : typeIn K (.ref fI) = some (.type "function"))
    (hcall : specialIn K (.ref C) "__call__" = some (some (.builtin "type.__call__"))) (htyp : instIn K (.ref C) (.type "type") = some true) (hrest : rest.length ≤ sizeLine)
    (hq : ∀ e t h', Fr h₀ L h' m → News h₀ L h' ((e, excO C t) :: (t, tupO rest) :: news) → (∀ p ∈ news, p.1 < t) → t < e →
      codeAny (model prog w) (A.under (.builtin "type.__call__" ⟨.ref C :: rest, []⟩)) (.call (.ref fI) ⟨.ref e :: rest, []⟩) (InitBack e R) { s with heap := h' }) :
    codeAny (model prog w) A (.call (.ref C) ⟨rest, []⟩) R s := by
  obtain ⟨hh, g, d, t, os⟩ := s
  refine makeE_core (X₀.keeps F.keep) hok hi hf hcall htyp hrest (hq _ hh.objs.size _ ((F.push _).push _) ?_ (fun p hp => Heap.lt_size (N p hp).1) (Nat.lt_succ_self _))
  have := (N.push F (tupO rest)).push (F.push _) (excO C hh.objs.size)
  rwa [Heap.size_push] at this
end
end
section
theorem ok75 (w : World) : excOk (hd.heap_39 w.params) 75 38 = true := by kernel_rfl
theorem obj75 (w : World) : ExcObj (hd.heap_39 w.params) 75 38 := by
  refine' ⟨_, _, _, _, _, _, _, _, _, _, _, _, _, _, ?zz⟩
  case zz => exact rfl
theorem cls75 (w : World) : (clsIn (hd.heap_39 w.params) 75).isSome = true := by kernel_rfl
theorem fault_con (prog : Program) (w : World) (news : List (Addr × Obj)) (x : Str) (tx : Tok) :
    Con prog w 20 400 75 [.str x tx] news (fun r news' => ∃ e t dx, r = .ref e ∧ news' = (e, excO 75 t (some dx)) :: news ∧ ∀ p ∈ news, p.1 < e) := by
  unfold Con
  intro p loose mean mg mb dp un gd cn cs ad ccd cl outer A₀ base h₀ L m s Q E B F X N T hk hdp hu hret
  refine wpAny_call ?_
  k_dflt (refine' makeE_K F N X (obj75 w) ?k1 ?k2 ?k3 ?k4 (Nat.le_of_ble_eq_true rfl) ?_; (case k1 => k_is); (case k2 => k_is); (case k3 => k_is); (case k4 => k_is); intro e t h9 F9 N9 l9 l8)
  have hne : ∀ p ∈ (t, tupO [Value.str x tx]) :: news, p.1 ≠ e := fun p hp => by
    rcases List.mem_cons.mp hp with rfl | hp
    · exact Nat.ne_of_lt l8
    · exact Nat.ne_of_lt (Nat.lt_trans (l9 p hp) l8)
  k_dflt ktr_enter
  iterate 5 (first | (k_unfold; (try dsimp only)) | (k_end; wrow_close) | walk1 | (dsimp only; walk1) | fail "no step")
  k_dflt (refine' method_type ?F ?X ?m (by decide +kernel) ?e ?h ?_; (case F => k_asm); (case X => k_asm); (case m => first | rfl | kernel_rfl); (case e => k_is); (case h => first | rfl | kernel_rfl | decide +kernel); k_whole)
  iterate 6 (first | (k_unfold; (try dsimp only)) | (k_end; wrow_close) | walk1 | (dsimp only; walk1) | fail "no step")
  rename News _ _ _ _ => kN; rename Fr _ _ _ _ => kF
  k_dflt (refine' exc_init (cls75 w) kF kN hne ?X ?s ?_; (case X => k_asm); (case s => k_is); intro h9 t9 F9 N9)
  (repeat ((fail_if_success (k_dflt (with_reducible show wpAny _ _ (setAttr _ _ _) _ _ _))); (first | (k_unfold; (try dsimp only)) | (k_end; wrow_close) | walk1 | (dsimp only; walk1) | fail "no step")))
  rename Fr _ _ _ _ => kF3
  k_dflt (refine' exc_set kF3 N9 hne ?X (ok75 w) ?s ?f ?_; (case X => k_asm); (case s => k_is); (case f => k_is); intro h9 t8 dx F9 N9)
  (repeat' (first | (k_unfold; (try dsimp only)) | (k_end; wrow_close) | walk1 | (dsimp only; walk1) | fail "no step"))
  rename News _ _ _ _ => kN2; rename Fr _ _ _ _ => kF2
  refine hret _ ((e, excO 75 t9 (some dx)) :: news) _ _ kF2 (fun p hp => kN2 p ?_) ⟨e, _, _, rfl, rfl, fun p hp => Nat.lt_trans (l9 p hp) l8⟩
  rcases List.mem_cons.mp hp with rfl | hp
  · exact List.mem_cons_self
  · exact List.mem_cons_of_mem _ (List.mem_cons_of_mem _ hp)
end
section
section
variable {M : Model} {A : Around} {E : Value → Shared → Prop} {s' : Shared} {base g : Heap} {outer : List Env} {L a e t C : Addr} {dd : Option Addr} {m : Str → Option Value} {name : Str} {scope : Scope} {cd : Value} {Q : Unit → Shared → Prop} {news : List (Addr × Obj)}
theorem leave_ownS (K : Below A base outer g) (F : Fr g L s'.heap m) (N : News g L s'.heap ((e, excO C t dd) :: news)) (hne : ∀ p ∈ news, p.1 ≠ e)
    (hQ : ∀ h', RaisedSN base g outer e (.ref C) news h' → g.UpToSlots h' → Q () { s' with heap := h' }) (hk : scope.kind = .function := by rfl) :
    wpAny M (A.deeper (envOf name scope L a cd)) (leaving (envOf name scope L a cd) (.ref e)) Q E s' := by
  have K' := K.push (name := name) (a := a) (cd := cd) F hk
  have hin : ∀ env ∈ (envOf name scope L a cd :: outer), ∀ b, env.frame = some b → b ∈ e :: (envOf name scope L a cd :: outer).filterMap (·.frame) := fun env he b hb => List.mem_cons_of_mem _ (List.mem_filterMap.mpr ⟨env, he, hb⟩)
  have hge : g.get? e = none := (N _ List.mem_cons_self).2.2
  have hbe : base.get? e = none := fresh_of_stays K.stays hge
  have st : base.StaysIn (hideAll s'.heap (e :: (envOf name scope L a cd :: outer).filterMap (·.frame))) := fun b o q => hideAll_get _ (K'.stays b o q) fun hm => by
    rcases List.mem_cons.mp hm with rfl | hm
    · rw [hbe] at q; cases q
    · rw [(K'.frames.mem hm).1] at q; cases q
  have sg : ∀ b o, g.get? b = some o → b ∉ outer.filterMap (·.frame) → (hideAll s'.heap (e :: (envOf name scope L a cd :: outer).filterMap (·.frame))).get? b = some o := fun b o q nm => hideAll_get _ (F.keep b o q) fun hm => by
    rcases List.mem_cons.mp hm with rfl | hm
    · rw [hge] at q; cases q
    · rcases kts_mem hm with z | z
      · rw [z, kts_self F] at q
        cases q
      · exact nm z
  have hl : ∀ q ∈ news, (hideAll s'.heap (e :: (envOf name scope L a cd :: outer).filterMap (·.frame))).get? q.1 = some q.2 ∧ g.get? q.1 = none ∧ base.get? q.1 = none := fun q hq => by
    have Nq := N q (List.mem_cons_of_mem _ hq)
    refine ⟨hideAll_get _ Nq.1 fun hm => ?_, Nq.2.2, fresh_of_stays K.stays Nq.2.2⟩
    rcases List.mem_cons.mp hm with z | hm
    · exact hne q hq z
    · obtain ⟨env, he, hf⟩ := List.mem_filterMap.mp hm
      rcases List.mem_cons.mp he with rfl | he
      · exact Nq.2.1 (Option.some.inj hf).symm
      · obtain ⟨o, ho, _⟩ := (K.frames.mem (List.mem_filterMap.mpr ⟨env, he, hf⟩)).2
        rw [Nq.2.2] at ho; cases ho
  have hen : (hideAll s'.heap (e :: (envOf name scope L a cd :: outer).filterMap (·.frame))).get? e = none := hideAll_none _ List.mem_cons_self
  refine wpAny_leaving_firstW (a0 := .ref t) K'.stack (funFrames_hide K'.frames hin) rfl (N.get List.mem_cons_self) (fun b o hb => of_hideAll _ hb) hen rfl rfl rfl fun h' hL => ?_
  obtain ⟨k1, ⟨_, _, k2⟩, k3, k4⟩ := hL
  exact hQ h' ⟨_, .ref t, st, sg, hl, k1, hen, k2, k3⟩ ((Heap.UpToSlots.of_keeps F.keep).trans k4)
theorem leave_onO {g₂ : Heap} {cls : Value} (K : Below A base outer g) (F : Fr g L g₂ m) (R : RaisedSN base g₂ (envOf name scope L a cd :: outer) e cls news s'.heap) (hsm : g₂.UpToSlots s'.heap)
    (hQ : ∀ h', RaisedSN base g outer e cls news h' → g.UpToSlots h' → Q () { s' with heap := h' }) :
    wpAny M (A.deeper (envOf name scope L a cd)) (leaving (envOf name scope L a cd) (.ref e)) Q E s' := leave_onSN K F R hsm fun h' a _ b => hQ h' a b
end
end
section
section
variable {prog : Program} {w : World} {A₀ : Around} {E : Value → Shared → Prop} {s' : Shared} {base g G : Heap} {outer : List Env} {L a e C : Addr} {m : Str → Option Value} {name : Str} {scope : Scope} {cd : Value}
  {b₀ : Stmt} {suite : List Stmt} {pos np : Pos} {rest : List ExceptHandler} {Q : Flow → Shared → Prop} {news : List (Addr × Obj)} {KF : Frag}
  {p : Program} {loose : List Str} {mean : ExcName → Option Value} {mg mb : Str → Option Value} {x : Str}
theorem caught_own (R : RaisedSN base G (envOf name scope L a cd :: outer) e (.ref C) news s'.heap) (F : Fr g L G m) (K : Below A₀ base outer g) (hsm : G.UpToSlots s'.heap) (XB : KF.In base) (TB : Top p loose mean mg mb base)
    (ex : nsIn KF mainGlobals x = some (some (.ref C))) (q : ktsIn KF C "BaseException" = true)
    (k : ∀ h' g', KtsTurn (outer.filterMap (·.frame)) g g' → Fr g' L h' m → News g' L h' news → Below A₀ base outer g' → KF.In g' → Top p loose mean mg mb g' →
      wpAny (model prog w) ((A₀.deeper (envOf name scope L a cd)).mark (some (.ref e))) (execs (b₀ :: suite) (envOf name scope L a cd)) Q E { s' with heap := h' })
    (hk : scope.kind = .function := by rfl) (hx : (envOf name scope L a cd).kindOf x = some .globalImplicit := by rfl) (hd : (x == ("__debug__" : Str)) = false := by decide)
    (hE : PassesOwnAt (model prog w) ((A₀.deeper (envOf name scope L a cd)).mark (some (.ref e))) (A₀.deeper (envOf name scope L a cd)) (envOf name scope L a cd) E := by passes_own) :
    wpAny (model prog w) (A₀.deeper (envOf name scope L a cd)) (noteFrame (.ref e) (envOf name scope L a cd))
      (fun _ s₂ => wpAny (model prog w) (A₀.deeper (envOf name scope L a cd)) (setFlight (.ref e) none) (fun _ s₃ =>
        wpAny (model prog w) (A₀.deeper (envOf name scope L a cd)) (handleBy (.ref e) (envOf name scope L a cd) (.ExceptHandler (some (.Name x np)) none (b₀ :: suite) pos :: rest)) Q E s₃) E s₂) E s' := by
  obtain ⟨B, a0, hB, hBG, hl, hfl⟩ := R
  have hL : B.get? L = none := by
    obtain ⟨_, ⟨L', _, hf, hn', _⟩, _⟩ := hfl.2.2.1
    obtain rfl : L = L' := Option.some.inj hf
    exact hn'
  refine wpAny_looks_onW (Around.frames_deeper K.stack) rfl hfl fun h₄ hheld₄ hsm₄ => ?_
  refine wpAny_landsW hheld₄ fun h₅ hheld hsm₅' => ?_
  have hsm₅ := hsm₄.trans hsm₅'
  obtain ⟨g₅, T₅, F₅, K₅⟩ := kts_ground K F hBG hheld.1 (hsm.trans hsm₅)
  have X₅ : KF.In g₅ := XB.keeps K₅.stays
  have P₅ : TopRead p loose mg mb g₅ := topRead_of (TB.keeps K₅.stays)
  obtain ⟨ob, hob, hobc⟩ := hheld.there
  obtain ⟨nm, q', N, bs, bm, hdct, sn, sub, ab, col, dd, k0, k1, k2, k3, k5, newId, hC, hbase, hbT⟩ := kts_cls X₅ q
  have hC₅ := F₅.keep _ _ hC
  refine wpAny_handleBy_cons (codeAny_handlers_test (name_K F₅ X₅ P₅ ex ?_ hk hx hd)) (by intro q; cases q)
  refine wpAny_excMatches_sub_self hC₅ hob hobc hbase (codeAny_handlers_suite ?_)
  refine lands_againW hheld fun h₆ hfl₆ hsm₆ => ?_
  obtain ⟨g₆, T₆, F₆, K₆⟩ := kts_ground K F hBG hfl₆.1 ((hsm.trans hsm₅).trans hsm₆)
  have Nl : News g₆ L h₆ news := fun q hq => ⟨hfl₆.1 _ _ (hl q hq).1, (fun z => by have := (hl q hq).1; rw [z, hL] at this; cases this), T₆.none_ _ (kts_none F.keep (hl q hq).2.1)⟩
  have X₆ : KF.In g₆ := XB.keeps K₆.stays
  have P₆ : Top p loose mean mg mb g₆ := TB.keeps K₆.stays
  exact wpAny_passesOwnAt hE (k h₆ g₆ T₆ F₆ Nl K₆ X₆ P₆)
end
/-- the caller's frame over a turned ground -/
theorem fr_turn {h₀ g g' : Heap} {L : Addr} {m : Str → Option Value} {fs fs0 : List Addr} (F : Fr h₀ L g m) (T : KtsTurn fs g g') (hfs : ∀ b ∈ fs, b = L ∨ b ∈ fs0) (hf0 : ∀ b ∈ fs0, ∃ o, h₀.get? b = some o) :
    ∃ h₀', KtsTurn fs0 h₀ h₀' ∧ Fr h₀' L g' m := by
  obtain ⟨T2, S2⟩ := kts_turn_at (h := g') (fs := fs0) (g := h₀) hf0
    (fun b o e nm => T.other b o (F.keep b o e) (fun hm => by
      rcases hfs b hm with rfl | z
      · rw [kts_self F] at e; cases e
      · exact nm z))
    (fun b o e _ => T.up (F.keep b o e))
  refine ⟨_, T2, ⟨?_, S2, ?_⟩⟩
  · obtain ⟨oL, es, ep, hL, r⟩ := F.ns
    obtain ⟨sl, hs⟩ := T.up hL
    exact ⟨_, es, ep, hs, r⟩
  · rw [T2.size]; exact F.above
end
section
section
variable {M : Model} {A : Around} {E : Value → Shared → Prop} {s : Shared} {env : Env} {C D : Addr} {K : Frag}
theorem raiseStmtE {x : Sem Value} {Q : Flow → Shared → Prop} (hok : ExcObj K C D) (hh : A.handled = none)
    (h : wpAny M A x (fun v s₁ => ∃ e t dd, v = .ref e ∧ K.In s₁.heap ∧ s₁.heap.get? e = some (excO C t dd) ∧ E (.ref e) s₁) E s) :
    wpAny M A (raiseStmt env (some x) none) Q E s := by
  obtain ⟨nm, q, N, bs, sn, sub, ab, col, dd, k0, k1, k2, k3, k5, hCK⟩ := hok
  have hcB : (Value.ref C :: bmE D).contains (.type "BaseException") = true := rfl
  unfold raiseStmt
  refine wpAny_bind (wpAny_mono h (fun v s₁ h₁ => ?_) fun _ _ x => x)
  obtain ⟨e, t, dx, rfl, X, he, hE⟩ := h₁
  obtain ⟨hp, g, d, tk, os⟩ := s₁
  have hC := X _ _ hCK
  dsimp only at hC he
  repeat (first | with_reducible refine wpAny_loadPart_at he ?_ | with_reducible refine wpAny_loadPart_at hC ?_ | (with_reducible refine wpAny_isSubtype_exc hC ?_; rw [hcB]) | wp_step)
  exact wpAny_raiseNew_none hh hE
theorem RaiseE {x : Expr} {pos : Pos} {Q : Flow → Shared → Prop} (hok : ExcObj K C D) (hh : A.handled = none)
    (h : wpAny M A (eval x env) (fun v s₁ => ∃ e t dd, v = .ref e ∧ K.In s₁.heap ∧ s₁.heap.get? e = some (excO C t dd) ∧ E (.ref e) s₁) E s) :
    wpAny M A (exec (.Raise (some x) none pos) env) Q E s := by
  rw [arm_exec_Raise]
  first
    | exact wpAny_bind (wpAny_standAt (raiseStmtE hok hh (wpAny_bind (wpAny_mono h (fun v s₁ h₁ => wpAny_bind (wpAny_standAt (wpAny_pure h₁))) fun _ _ x => x))))
    | (simp only [evalOpt, Option.map]; exact wpAny_bind (wpAny_standAt (raiseStmtE hok hh (wpAny_bind (wpAny_mono h (fun v s₁ h₁ => wpAny_bind (wpAny_standAt (wpAny_pure h₁))) fun _ _ x => x)))))
    | (show wpAny M A (do standAt pos; raiseStmt env (some (do let v ← eval x env; standAt pos; pure v)) none) Q E s; exact wpAny_bind (wpAny_standAt (raiseStmtE hok hh (wpAny_bind (wpAny_mono h (fun v s₁ h₁ => wpAny_bind (wpAny_standAt (wpAny_pure h₁))) fun _ _ x => x)))))
end
end
section
structure NRow where
  kind : Str
  name : Str
  uri : Str
  loc : Str
  val : Str
  par : Option Nat
  c : Addr
  a : Addr
  n : Addr
noncomputable abbrev pv (t : Tok) : Option Nat → Value
  | none => .none
  | some i => .int (i : Int) t
noncomputable abbrev rowD (f : Nat → Int) (t u : Nat → Tok) (r : NRow) : Obj := dictOf [⟨f 0, .str (Str.ofString "kind") (t 0), .str r.kind (u 0)⟩, ⟨f 1, .str (Str.ofString "name") (t 1), .str r.name (u 1)⟩, ⟨f 2, .str (Str.ofString "uri") (t 2), .str r.uri (u 2)⟩, ⟨f 3, .str (Str.ofString "local") (t 3), .str r.loc (u 3)⟩, ⟨f 4, .str (Str.ofString "value") (t 4), .str r.val (u 4)⟩, ⟨f 5, .str (Str.ofString "parent") (t 5), pv (u 5) r.par⟩, ⟨f 6, .str (Str.ofString "children") (t 6), .ref r.c⟩, ⟨f 7, .str (Str.ofString "attributes") (t 7), .ref r.a⟩, ⟨f 8, .str (Str.ofString "namespaces") (t 8), .ref r.n⟩] 9
noncomputable def RowIs (news : List (Addr × Obj)) (v : Value) (r : NRow) : Prop := ∃ (x d : Addr) (f : Nat → Int) (t u : Nat → Tok), v = .ref x ∧ (x, instObj 260 d) ∈ news ∧ (d, rowD f t u r) ∈ news
structure TreeIs (news : List (Addr × Obj)) (T dt R : Addr) (vs : List Value) (rows : List NRow) (S : Addr → List Int) : Prop where
  inst : (T, instObj 449 dt) ∈ news
  dict : ∃ h tk, (dt, dictOf [⟨h, .str (Str.ofString "rows") tk, .ref R⟩] 1) ∈ news
  lst : ∃ n, (R, lob vs n) ∈ news
  len : vs.length = rows.length
  small : rows.length ≤ 63
  row : ∀ (i : Nat) (r : NRow), rows[i]? = some r → ∃ v : Value, vs[i]? = some v ∧ RowIs news v r
  sub : ∀ r ∈ rows, ∀ D ∈ [r.c, r.a, r.n], ∃ ys k, (D, lob ys k) ∈ news ∧ IntsAre ys (S D) ∧ ys.length ≤ 63
  nd : (R :: rows.flatMap fun r => [r.c, r.a, r.n]).Nodup
theorem RowIs.mono {n1 n2 : List (Addr × Obj)} (hs : ∀ p ∈ n1, p ∈ n2) {v : Value} {r : NRow} : RowIs n1 v r → RowIs n2 v r := by
  rintro ⟨x, d, f, t, u, e, a, b⟩; exact ⟨x, d, f, t, u, e, hs _ a, hs _ b⟩
theorem TreeIs.mono {n1 n2 : List (Addr × Obj)} {T dt R : Addr} {vs : List Value} {rows : List NRow} {S : Addr → List Int} (hs : ∀ p ∈ n1, p ∈ n2) (X : TreeIs n1 T dt R vs rows S) : TreeIs n2 T dt R vs rows S where
  inst := hs _ X.inst
  dict := by obtain ⟨h, tk, e⟩ := X.dict; exact ⟨h, tk, hs _ e⟩
  lst := by obtain ⟨n, e⟩ := X.lst; exact ⟨n, hs _ e⟩
  len := X.len
  small := X.small
  row := fun i r e => by obtain ⟨v, a, b⟩ := X.row i r e; exact ⟨v, a, b.mono hs⟩
  sub := fun r hr D hD => by obtain ⟨ys, k, a, b, c⟩ := X.sub r hr D hD; exact ⟨ys, k, hs _ a, b, c⟩
  nd := X.nd
theorem row_con (prog : Program) (w : World) (news : List (Addr × Obj)) (T dt R : Addr) (vs : List Value) (rows : List NRow) (S : Addr → List Int) (X : TreeIs news T dt R vs rows S) (i : Nat) (ti : Tok) (v : Value) (hi : vs[i]? = some v) (hv : handedIn v = true) :
    Con prog w 10 200 292 [.ref T, .int (i : Int) ti] news (fun r news' => r = v ∧ news' = news) := by
  unfold Con
  have h1 := X.inst
  obtain ⟨hh, tk, h2⟩ := X.dict
  obtain ⟨n, h3⟩ := X.lst
  have hlen : vs.length ≤ 63 := by rw [X.len]; exact X.small
  have hlt : i < vs.length := (List.getElem?_eq_some_iff.mp hi).1
  have z1 : (0 : Int) ≤ (i : Int) := Int.natCast_nonneg i
  have z2 : (i : Int) < (vs.length : Int) := by exact_mod_cast hlt
  (intro p loose mean mg mb dp un gd cn cs ad ccd cl outer A₀ base h₀ L m s Q E B F X N T hk hdp hu hret; refine wpAny_call ?_; k_dflt ktr_enter; (refine env_let (t := fun e => execs _ e) ?_; intro ev Av); (with_reducible rename Fr _ _ _ (fun _ => _) => kF0; refine fr_let kF0 ?_; clear kF0; intro m0 kF0))
  (repeat ((fail_if_success (k_dflt (with_reducible show wpAny _ _ (subscriptTail _ _ _ _) _ _ _))); (first | (k_unfold; (try dsimp only)) | (k_end; wrow_close) | walk1 | (dsimp only; walk1) | fail "no step")))
  rename News _ _ _ _ => kN
  k_dflt (refine ls_sub (vs := vs) (x := v) kN h3 (Int.natCast_nonneg i) (by omega) (by rw [Int.toNat_natCast]; exact hi) ?_)
  (repeat' (first | (k_unfold; (try dsimp only)) | (k_end; wrow_close) | walk1 | (dsimp only; walk1) | fail "no step"))
  (rename News _ _ _ _ => kN; rename Fr _ _ _ _ => kF; refine hret _ _ _ _ kF kN ?_)
  exact ⟨rfl, rfl⟩
end
section
theorem kind_con (prog : Program) (w : World) (news : List (Addr × Obj)) (Tr dt R : Addr) (vs : List Value) (rows : List NRow) (S : Addr → List Int) (TX : TreeIs news Tr dt R vs rows S) (i : Nat) (ti : Tok) (r : NRow) (hi : rows[i]? = some r) :
    Con prog w 20 400 369 [.ref Tr, .int (i : Int) ti] news (fun v news' => (∃ t, v = .str r.kind t) ∧ news' = news) := by
  unfold Con
  have h1 := TX.inst
  obtain ⟨hh, tk, h2⟩ := TX.dict
  obtain ⟨v, hv1, x, d, f, t, u, rfl, m1, m2⟩ := TX.row i r hi
  (intro p loose mean mg mb dp un gd cn cs ad ccd cl outer A₀ base h₀ L m s Q E B F X N T hk hdp hu hret; refine wpAny_call ?_; k_dflt ktr_enter; (refine env_let (t := fun e => execs _ e) ?_; intro ev Av); (with_reducible rename Fr _ _ _ (fun _ => _) => kF0; refine fr_let kF0 ?_; clear kF0; intro m0 kF0))
  (repeat ((fail_if_success (k_dflt (show wpAny _ _ (call (.ref 292) _) _ _ _))); (first | (k_unfold; (try dsimp only)) | (k_end; wrow_close) | walk1 | (dsimp only; walk1) | fail "no step"))); (try dsimp only [List.nil_append, List.cons_append])
  k_dflt (show wpAny _ _ (call (.ref 292) [.ref Tr, .int _ _]) _ _ _)
  (k_dflt (refine' con_use (row_con _ _ _ Tr dt R vs rows S TX i _ _ hv1 rfl) ?uB ?uF ?uX ?uN ?uT ?uk ?ud ?uu ?_; (case uB => k_asm); (case uF => k_asm); (case uX => k_asm); (case uN => k_asm);  (case uT => k_asm); (case uk => first | exact rfl | assumption); (case ud => ktr_room); (case uu => ktr_units)); rintro r9 news9 h9 tk9 F9 N9 ⟨rfl, rfl⟩; (try dsimp only))
  (repeat' (first | (k_unfold; (try dsimp only)) | (k_end; wrow_close) | walk1 | (dsimp only; walk1) | fail "no step"))
  (rename News _ _ _ _ => kN; rename Fr _ _ _ _ => kF; refine hret _ _ _ _ kF kN ?_)
  exact ⟨⟨_, rfl⟩, rfl⟩
theorem name_con (prog : Program) (w : World) (news : List (Addr × Obj)) (Tr dt R : Addr) (vs : List Value) (rows : List NRow) (S : Addr → List Int) (TX : TreeIs news Tr dt R vs rows S) (i : Nat) (ti : Tok) (r : NRow) (hi : rows[i]? = some r) :
    Con prog w 20 400 376 [.ref Tr, .int (i : Int) ti] news (fun v news' => (∃ t, v = .str r.name t) ∧ news' = news) := by
  unfold Con
  have h1 := TX.inst
  obtain ⟨hh, tk, h2⟩ := TX.dict
  obtain ⟨v, hv1, x, d, f, t, u, rfl, m1, m2⟩ := TX.row i r hi
  (intro p loose mean mg mb dp un gd cn cs ad ccd cl outer A₀ base h₀ L m s Q E B F X N T hk hdp hu hret; refine wpAny_call ?_; k_dflt ktr_enter; (refine env_let (t := fun e => execs _ e) ?_; intro ev Av); (with_reducible rename Fr _ _ _ (fun _ => _) => kF0; refine fr_let kF0 ?_; clear kF0; intro m0 kF0))
  (repeat ((fail_if_success (k_dflt (show wpAny _ _ (call (.ref 292) _) _ _ _))); (first | (k_unfold; (try dsimp only)) | (k_end; wrow_close) | walk1 | (dsimp only; walk1) | fail "no step"))); (try dsimp only [List.nil_append, List.cons_append])
  k_dflt (show wpAny _ _ (call (.ref 292) [.ref Tr, .int _ _]) _ _ _)
  (k_dflt (refine' con_use (row_con _ _ _ Tr dt R vs rows S TX i _ _ hv1 rfl) ?uB ?uF ?uX ?uN ?uT ?uk ?ud ?uu ?_; (case uB => k_asm); (case uF => k_asm); (case uX => k_asm); (case uN => k_asm);  (case uT => k_asm); (case uk => first | exact rfl | assumption); (case ud => ktr_room); (case uu => ktr_units)); rintro r9 news9 h9 tk9 F9 N9 ⟨rfl, rfl⟩; (try dsimp only))
  (repeat' (first | (k_unfold; (try dsimp only)) | (k_end; wrow_close) | walk1 | (dsimp only; walk1) | fail "no step"))
  (rename News _ _ _ _ => kN; rename Fr _ _ _ _ => kF; refine hret _ _ _ _ kF kN ?_)
  exact ⟨⟨_, rfl⟩, rfl⟩
theorem uri_con (prog : Program) (w : World) (news : List (Addr × Obj)) (Tr dt R : Addr) (vs : List Value) (rows : List NRow) (S : Addr → List Int) (TX : TreeIs news Tr dt R vs rows S) (i : Nat) (ti : Tok) (r : NRow) (hi : rows[i]? = some r) :
    Con prog w 20 400 383 [.ref Tr, .int (i : Int) ti] news (fun v news' => (∃ t, v = .str r.uri t) ∧ news' = news) := by
  unfold Con
  have h1 := TX.inst
  obtain ⟨hh, tk, h2⟩ := TX.dict
  obtain ⟨v, hv1, x, d, f, t, u, rfl, m1, m2⟩ := TX.row i r hi
  (intro p loose mean mg mb dp un gd cn cs ad ccd cl outer A₀ base h₀ L m s Q E B F X N T hk hdp hu hret; refine wpAny_call ?_; k_dflt ktr_enter; (refine env_let (t := fun e => execs _ e) ?_; intro ev Av); (with_reducible rename Fr _ _ _ (fun _ => _) => kF0; refine fr_let kF0 ?_; clear kF0; intro m0 kF0))
  (repeat ((fail_if_success (k_dflt (show wpAny _ _ (call (.ref 292) _) _ _ _))); (first | (k_unfold; (try dsimp only)) | (k_end; wrow_close) | walk1 | (dsimp only; walk1) | fail "no step"))); (try dsimp only [List.nil_append, List.cons_append])
  k_dflt (show wpAny _ _ (call (.ref 292) [.ref Tr, .int _ _]) _ _ _)
  (k_dflt (refine' con_use (row_con _ _ _ Tr dt R vs rows S TX i _ _ hv1 rfl) ?uB ?uF ?uX ?uN ?uT ?uk ?ud ?uu ?_; (case uB => k_asm); (case uF => k_asm); (case uX => k_asm); (case uN => k_asm);  (case uT => k_asm); (case uk => first | exact rfl | assumption); (case ud => ktr_room); (case uu => ktr_units)); rintro r9 news9 h9 tk9 F9 N9 ⟨rfl, rfl⟩; (try dsimp only))
  (repeat' (first | (k_unfold; (try dsimp only)) | (k_end; wrow_close) | walk1 | (dsimp only; walk1) | fail "no step"))
  (rename News _ _ _ _ => kN; rename Fr _ _ _ _ => kF; refine hret _ _ _ _ kF kN ?_)
  exact ⟨⟨_, rfl⟩, rfl⟩
theorem local_con (prog : Program) (w : World) (news : List (Addr × Obj)) (Tr dt R : Addr) (vs : List Value) (rows : List NRow) (S : Addr → List Int) (TX : TreeIs news Tr dt R vs rows S) (i : Nat) (ti : Tok) (r : NRow) (hi : rows[i]? = some r) :
    Con prog w 20 400 390 [.ref Tr, .int (i : Int) ti] news (fun v news' => (∃ t, v = .str r.loc t) ∧ news' = news) := by
  unfold Con
  have h1 := TX.inst
  obtain ⟨hh, tk, h2⟩ := TX.dict
  obtain ⟨v, hv1, x, d, f, t, u, rfl, m1, m2⟩ := TX.row i r hi
  (intro p loose mean mg mb dp un gd cn cs ad ccd cl outer A₀ base h₀ L m s Q E B F X N T hk hdp hu hret; refine wpAny_call ?_; k_dflt ktr_enter; (refine env_let (t := fun e => execs _ e) ?_; intro ev Av); (with_reducible rename Fr _ _ _ (fun _ => _) => kF0; refine fr_let kF0 ?_; clear kF0; intro m0 kF0))
  (repeat ((fail_if_success (k_dflt (show wpAny _ _ (call (.ref 292) _) _ _ _))); (first | (k_unfold; (try dsimp only)) | (k_end; wrow_close) | walk1 | (dsimp only; walk1) | fail "no step"))); (try dsimp only [List.nil_append, List.cons_append])
  k_dflt (show wpAny _ _ (call (.ref 292) [.ref Tr, .int _ _]) _ _ _)
  (k_dflt (refine' con_use (row_con _ _ _ Tr dt R vs rows S TX i _ _ hv1 rfl) ?uB ?uF ?uX ?uN ?uT ?uk ?ud ?uu ?_; (case uB => k_asm); (case uF => k_asm); (case uX => k_asm); (case uN => k_asm);  (case uT => k_asm); (case uk => first | exact rfl | assumption); (case ud => ktr_room); (case uu => ktr_units)); rintro r9 news9 h9 tk9 F9 N9 ⟨rfl, rfl⟩; (try dsimp only))
  (repeat' (first | (k_unfold; (try dsimp only)) | (k_end; wrow_close) | walk1 | (dsimp only; walk1) | fail "no step"))
  (rename News _ _ _ _ => kN; rename Fr _ _ _ _ => kF; refine hret _ _ _ _ kF kN ?_)
  exact ⟨⟨_, rfl⟩, rfl⟩
theorem value_con (prog : Program) (w : World) (news : List (Addr × Obj)) (Tr dt R : Addr) (vs : List Value) (rows : List NRow) (S : Addr → List Int) (TX : TreeIs news Tr dt R vs rows S) (i : Nat) (ti : Tok) (r : NRow) (hi : rows[i]? = some r) :
    Con prog w 20 400 397 [.ref Tr, .int (i : Int) ti] news (fun v news' => (∃ t, v = .str r.val t) ∧ news' = news) := by
  unfold Con
  have h1 := TX.inst
  obtain ⟨hh, tk, h2⟩ := TX.dict
  obtain ⟨v, hv1, x, d, f, t, u, rfl, m1, m2⟩ := TX.row i r hi
  (intro p loose mean mg mb dp un gd cn cs ad ccd cl outer A₀ base h₀ L m s Q E B F X N T hk hdp hu hret; refine wpAny_call ?_; k_dflt ktr_enter; (refine env_let (t := fun e => execs _ e) ?_; intro ev Av); (with_reducible rename Fr _ _ _ (fun _ => _) => kF0; refine fr_let kF0 ?_; clear kF0; intro m0 kF0))
  (repeat ((fail_if_success (k_dflt (show wpAny _ _ (call (.ref 292) _) _ _ _))); (first | (k_unfold; (try dsimp only)) | (k_end; wrow_close) | walk1 | (dsimp only; walk1) | fail "no step"))); (try dsimp only [List.nil_append, List.cons_append])
  k_dflt (show wpAny _ _ (call (.ref 292) [.ref Tr, .int _ _]) _ _ _)
  (k_dflt (refine' con_use (row_con _ _ _ Tr dt R vs rows S TX i _ _ hv1 rfl) ?uB ?uF ?uX ?uN ?uT ?uk ?ud ?uu ?_; (case uB => k_asm); (case uF => k_asm); (case uX => k_asm); (case uN => k_asm);  (case uT => k_asm); (case uk => first | exact rfl | assumption); (case ud => ktr_room); (case uu => ktr_units)); rintro r9 news9 h9 tk9 F9 N9 ⟨rfl, rfl⟩; (try dsimp only))
  (repeat' (first | (k_unfold; (try dsimp only)) | (k_end; wrow_close) | walk1 | (dsimp only; walk1) | fail "no step"))
  (rename News _ _ _ _ => kN; rename Fr _ _ _ _ => kF; refine hret _ _ _ _ kF kN ?_)
  exact ⟨⟨_, rfl⟩, rfl⟩
theorem parent_con (prog : Program) (w : World) (news : List (Addr × Obj)) (Tr dt R : Addr) (vs : List Value) (rows : List NRow) (S : Addr → List Int) (TX : TreeIs news Tr dt R vs rows S) (i : Nat) (ti : Tok) (r : NRow) (hi : rows[i]? = some r) :
    Con prog w 20 400 404 [.ref Tr, .int (i : Int) ti] news (fun v news' => (∃ t, v = pv t r.par) ∧ news' = news) := by
  unfold Con
  have h1 := TX.inst
  obtain ⟨hh, tk, h2⟩ := TX.dict
  obtain ⟨v, hv1, x, d, f, t, u, rfl, m1, m2⟩ := TX.row i r hi
  obtain ⟨rk, rn, ru, rl, rv, rp, rc, ra, rns⟩ := r
  cases rp <;> dsimp only [rowD, pv] at m2
  case' none => (have hz := 0)
  all_goals (
    (intro p loose mean mg mb dp un gd cn cs ad ccd cl outer A₀ base h₀ L m s Q E B F X N T hk hdp hu hret; refine wpAny_call ?_; k_dflt ktr_enter; (refine env_let (t := fun e => execs _ e) ?_; intro ev Av); (with_reducible rename Fr _ _ _ (fun _ => _) => kF0; refine fr_let kF0 ?_; clear kF0; intro m0 kF0))
    (repeat ((fail_if_success (k_dflt (show wpAny _ _ (call (.ref 292) _) _ _ _))); (first | (k_unfold; (try dsimp only)) | (k_end; wrow_close) | walk1 | (dsimp only; walk1) | fail "no step"))); (try dsimp only [List.nil_append, List.cons_append])
    k_dflt (show wpAny _ _ (call (.ref 292) [.ref Tr, .int _ _]) _ _ _)
    (k_dflt (refine' con_use (row_con _ _ _ Tr dt R vs rows S TX i _ _ hv1 rfl) ?uB ?uF ?uX ?uN ?uT ?uk ?ud ?uu ?_; (case uB => k_asm); (case uF => k_asm); (case uX => k_asm); (case uN => k_asm);  (case uT => k_asm); (case uk => first | exact rfl | assumption); (case ud => ktr_room); (case uu => ktr_units)); rintro r9 news9 h9 tk9 F9 N9 ⟨rfl, rfl⟩; (try dsimp only))
    (repeat' (first | (k_unfold; (try dsimp only)) | (k_end; wrow_close) | walk1 | (dsimp only; walk1) | fail "no step"))
    (rename News _ _ _ _ => kN; rename Fr _ _ _ _ => kF; refine hret _ _ _ _ kF kN ?_)
    exact ⟨⟨u 5, rfl⟩, rfl⟩
  )
theorem attributes_con (prog : Program) (w : World) (news : List (Addr × Obj)) (Tr dt R : Addr) (vs : List Value) (rows : List NRow) (S : Addr → List Int) (TX : TreeIs news Tr dt R vs rows S) (i : Nat) (ti : Tok) (r : NRow) (hi : rows[i]? = some r) :
    Con prog w 20 400 418 [.ref Tr, .int (i : Int) ti] news (fun v news' => ∃ D ys k, v = .ref D ∧ IntsAre ys (S r.a) ∧ ys.length ≤ 63 ∧ news' = (D, lob ys k) :: news ∧ ∀ p ∈ news, p.1 < D) := by
  unfold Con
  have h1 := TX.inst
  obtain ⟨hh, tk, h2⟩ := TX.dict
  obtain ⟨v, hv1, x, d, f, t, u, rfl, m1, m2⟩ := TX.row i r hi
  obtain ⟨ys, k, m3, m4, m5⟩ := TX.sub r (List.mem_of_getElem? hi) r.a (by simp)
  (intro p loose mean mg mb dp un gd cn cs ad ccd cl outer A₀ base h₀ L m s Q E B F X N T hk hdp hu hret; refine wpAny_call ?_; k_dflt ktr_enter; (refine env_let (t := fun e => execs _ e) ?_; intro ev Av); (with_reducible rename Fr _ _ _ (fun _ => _) => kF0; refine fr_let kF0 ?_; clear kF0; intro m0 kF0))
  (repeat ((fail_if_success (k_dflt (show wpAny _ _ (call (.ref 292) _) _ _ _))); (first | (k_unfold; (try dsimp only)) | (k_end; wrow_close) | walk1 | (dsimp only; walk1) | fail "no step"))); (try dsimp only [List.nil_append, List.cons_append])
  k_dflt (show wpAny _ _ (call (.ref 292) [.ref Tr, .int _ _]) _ _ _)
  (k_dflt (refine' con_use (row_con _ _ _ Tr dt R vs rows S TX i _ _ hv1 rfl) ?uB ?uF ?uX ?uN ?uT ?uk ?ud ?uu ?_; (case uB => k_asm); (case uF => k_asm); (case uX => k_asm); (case uN => k_asm);  (case uT => k_asm); (case uk => first | exact rfl | assumption); (case ud => ktr_room); (case uu => ktr_units)); rintro r9 news9 h9 tk9 F9 N9 ⟨rfl, rfl⟩; (try dsimp only))
  iterate 2 (first | (k_unfold; (try dsimp only)) | (k_end; wrow_close) | walk1 | (dsimp only; walk1) | fail "no step")
  k_dflt (refine' kup_listOf ?F ?N m3 ?e ?_ ?z; (case F => k_asm); (case N => k_asm); (case e => rfl); (case z => rw [sizeLine_eq]; exact Nat.le_trans m5 (by decide)); intro D' c' h' F' N' l1)
  (repeat' (first | (k_unfold; (try dsimp only)) | (k_end; wrow_close) | walk1 | (dsimp only; walk1) | fail "no step"))
  (rename News _ _ _ _ => kN; rename Fr _ _ _ _ => kF; refine hret _ _ _ _ kF kN ?_)
  exact ⟨_, _, _, rfl, m4, m5, rfl, l1⟩
theorem namespaces_con (prog : Program) (w : World) (news : List (Addr × Obj)) (Tr dt R : Addr) (vs : List Value) (rows : List NRow) (S : Addr → List Int) (TX : TreeIs news Tr dt R vs rows S) (i : Nat) (ti : Tok) (r : NRow) (hi : rows[i]? = some r) :
    Con prog w 20 400 425 [.ref Tr, .int (i : Int) ti] news (fun v news' => ∃ D ys k, v = .ref D ∧ IntsAre ys (S r.n) ∧ ys.length ≤ 63 ∧ news' = (D, lob ys k) :: news ∧ ∀ p ∈ news, p.1 < D) := by
  unfold Con
  have h1 := TX.inst
  obtain ⟨hh, tk, h2⟩ := TX.dict
  obtain ⟨v, hv1, x, d, f, t, u, rfl, m1, m2⟩ := TX.row i r hi
  obtain ⟨ys, k, m3, m4, m5⟩ := TX.sub r (List.mem_of_getElem? hi) r.n (by simp)
  (intro p loose mean mg mb dp un gd cn cs ad ccd cl outer A₀ base h₀ L m s Q E B F X N T hk hdp hu hret; refine wpAny_call ?_; k_dflt ktr_enter; (refine env_let (t := fun e => execs _ e) ?_; intro ev Av); (with_reducible rename Fr _ _ _ (fun _ => _) => kF0; refine fr_let kF0 ?_; clear kF0; intro m0 kF0))
  (repeat ((fail_if_success (k_dflt (show wpAny _ _ (call (.ref 292) _) _ _ _))); (first | (k_unfold; (try dsimp only)) | (k_end; wrow_close) | walk1 | (dsimp only; walk1) | fail "no step"))); (try dsimp only [List.nil_append, List.cons_append])
  k_dflt (show wpAny _ _ (call (.ref 292) [.ref Tr, .int _ _]) _ _ _)
  (k_dflt (refine' con_use (row_con _ _ _ Tr dt R vs rows S TX i _ _ hv1 rfl) ?uB ?uF ?uX ?uN ?uT ?uk ?ud ?uu ?_; (case uB => k_asm); (case uF => k_asm); (case uX => k_asm); (case uN => k_asm);  (case uT => k_asm); (case uk => first | exact rfl | assumption); (case ud => ktr_room); (case uu => ktr_units)); rintro r9 news9 h9 tk9 F9 N9 ⟨rfl, rfl⟩; (try dsimp only))
  iterate 2 (first | (k_unfold; (try dsimp only)) | (k_end; wrow_close) | walk1 | (dsimp only; walk1) | fail "no step")
  k_dflt (refine' kup_listOf ?F ?N m3 ?e ?_ ?z; (case F => k_asm); (case N => k_asm); (case e => rfl); (case z => rw [sizeLine_eq]; exact Nat.le_trans m5 (by decide)); intro D' c' h' F' N' l1)
  (repeat' (first | (k_unfold; (try dsimp only)) | (k_end; wrow_close) | walk1 | (dsimp only; walk1) | fail "no step"))
  (rename News _ _ _ _ => kN; rename Fr _ _ _ _ => kF; refine hret _ _ _ _ kF kN ?_)
  exact ⟨_, _, _, rfl, m4, m5, rfl, l1⟩
end
section
theorem obj_ne {h₀ h : Heap} {L : Addr} {news : List (Addr × Obj)} {x y : Addr} {ox oy : Obj} (N : News h₀ L h news) (hx : (x, ox) ∈ news) (hy : (y, oy) ∈ news) (hn : ox ≠ oy) : x ≠ y := by
  rintro rfl
  exact hn (Option.some.inj ((N.get hx).symm.trans (N.get hy)))
noncomputable abbrev S3 (S : Addr → List Int) (c a n : Addr) : Addr → List Int := fun A => if A = c ∨ A = a ∨ A = n then [] else S A
noncomputable abbrev S1 (S : Addr → List Int) (D : Addr) (j : Int) : Addr → List Int := fun A => if A = D then S A ++ [j] else S A
theorem TreeIs.lists {news : List (Addr × Obj)} {Tr dt R : Addr} {vs : List Value} {rows : List NRow} {S : Addr → List Int} (TX : TreeIs news Tr dt R vs rows S) {r : NRow} (hr : r ∈ rows) {D : Addr} (hD : D ∈ [r.c, r.a, r.n]) : D ≠ R := by
  rintro rfl
  have := TX.nd
  rw [List.nodup_cons] at this
  exact this.1 (List.mem_flatMap.mpr ⟨r, hr, hD⟩)
theorem RowIs.off {h₀ h : Heap} {L : Addr} {news news' : List (Addr × Obj)} {D : Addr} {ys : List Value} {k : Nat} (N : News h₀ L h news) (hD : (D, lob ys k) ∈ news) (hs : ∀ p ∈ news, p.1 ≠ D → p ∈ news') {v : Value} {r : NRow} : RowIs news v r → RowIs news' v r
  | ⟨x, d, f, t, u, e, a, b⟩ => ⟨x, d, f, t, u, e, hs _ a (obj_ne N a hD (fun q => by cases q)), hs _ b (obj_ne N b hD (fun q => by simp at q))⟩
theorem TreeIs.push {h₀ h : Heap} {L : Addr} {news news' : List (Addr × Obj)} {Tr dt R : Addr} {vs : List Value} {rows : List NRow} {S : Addr → List Int} (TX : TreeIs news Tr dt R vs rows S) (N : News h₀ L h news)
    (hs : ∀ p ∈ news, p.1 ≠ R → p ∈ news') {v : Value} {r : NRow} {n' k1 k2 k3 : Nat} (hR : (R, lob (vs ++ [v]) n') ∈ news') (hrow : RowIs news' v r) (hc : (r.c, lob [] k1) ∈ news') (ha : (r.a, lob [] k2) ∈ news') (hn : (r.n, lob [] k3) ∈ news')
    (fc : ∀ p ∈ news, p.1 ≠ r.c) (fa : ∀ p ∈ news, p.1 ≠ r.a) (fn : ∀ p ∈ news, p.1 ≠ r.n) (d1 : r.c ≠ r.a) (d2 : r.c ≠ r.n) (d3 : r.a ≠ r.n) (hsm : rows.length < 63) :
    TreeIs news' Tr dt R (vs ++ [v]) (rows ++ [r]) (S3 S r.c r.a r.n) := by
  obtain ⟨nR, hR0⟩ := TX.lst
  have hold : ∀ q ∈ rows, ∀ D ∈ [q.c, q.a, q.n], D ≠ r.c ∧ D ≠ r.a ∧ D ≠ r.n := fun q hq D hD => by
    obtain ⟨ys, k, m, _⟩ := TX.sub q hq D hD
    exact ⟨fc _ m, fa _ m, fn _ m⟩
  have hRn : R ≠ r.c ∧ R ≠ r.a ∧ R ≠ r.n := ⟨fc _ hR0, fa _ hR0, fn _ hR0⟩
  constructor
  · exact hs _ TX.inst (obj_ne N TX.inst hR0 (fun q => by cases q))
  · obtain ⟨hh, tk, e⟩ := TX.dict
    exact ⟨hh, tk, hs _ e (obj_ne N e hR0 (fun q => by simp at q))⟩
  · exact ⟨n', hR⟩
  · rw [List.length_append, List.length_append, TX.len]; rfl
  · rw [List.length_append]; exact hsm
  · intro i q hq
    rcases Nat.lt_trichotomy i rows.length with hlt | rfl | hgt
    · rw [List.getElem?_append_left hlt] at hq
      obtain ⟨v1, e1, e2⟩ := TX.row i q hq
      exact ⟨v1, by rw [List.getElem?_append_left (by rw [TX.len]; exact hlt)]; exact e1, e2.off N hR0 hs⟩
    · rw [List.getElem?_append_right (Nat.le_refl _), Nat.sub_self] at hq
      cases hq
      exact ⟨v, by rw [List.getElem?_append_right (by rw [TX.len]; exact Nat.le_refl _), TX.len, Nat.sub_self]; rfl, hrow⟩
    · rw [List.getElem?_eq_none (by rw [List.length_append]; exact hgt)] at hq
      cases hq
  · intro q hq D hD
    rcases List.mem_append.mp hq with hq | hq
    · obtain ⟨ys, k, m, e, l⟩ := TX.sub q hq D hD
      obtain ⟨o1, o2, o3⟩ := hold q hq D hD
      exact ⟨ys, k, hs _ m (TX.lists hq hD), by simpa [S3, o1, o2, o3] using e, l⟩
    · obtain rfl := List.mem_singleton.mp hq
      simp only [List.mem_cons, List.not_mem_nil, or_false] at hD
      rcases hD with rfl | rfl | rfl
      · exact ⟨[], _, hc, by simpa [S3] using IntsAre.nil, by simp⟩
      · exact ⟨[], _, ha, by simpa [S3] using IntsAre.nil, by simp⟩
      · exact ⟨[], _, hn, by simpa [S3] using IntsAre.nil, by simp⟩
  · have hnd := TX.nd
    rw [List.nodup_cons] at hnd
    rw [List.flatMap_append, List.nodup_cons, List.nodup_append]
    refine ⟨fun hm => ?_, hnd.2, by simp [d1, d2, d3], ?_⟩
    · rcases List.mem_append.mp hm with hm | hm
      · exact hnd.1 hm
      · simp only [List.flatMap_cons, List.flatMap_nil, List.append_nil, List.mem_cons, List.not_mem_nil, or_false] at hm
        rcases hm with z | z | z
        · exact hRn.1 z
        · exact hRn.2.1 z
        · exact hRn.2.2 z
    · intro D hD D' hD'
      obtain ⟨q, hq, hD⟩ := List.mem_flatMap.mp hD
      obtain ⟨o1, o2, o3⟩ := hold q hq D hD
      simp only [List.flatMap_cons, List.flatMap_nil, List.append_nil, List.mem_cons, List.not_mem_nil, or_false] at hD'
      rcases hD' with rfl | rfl | rfl
      · exact o1
      · exact o2
      · exact o3
theorem nodup_flat {rows : List NRow} {R : Addr} (hnd : (R :: rows.flatMap fun r => [r.c, r.a, r.n]).Nodup) : ∀ r ∈ rows, r.c ≠ r.a ∧ r.c ≠ r.n ∧ r.a ≠ r.n := by
  rw [List.nodup_cons] at hnd
  have := hnd.2
  clear hnd
  induction rows with
  | nil => intro r hr; cases hr
  | cons q rs ih =>
    rw [List.flatMap_cons, List.nodup_append] at this
    intro r hr
    rcases List.mem_cons.mp hr with rfl | hr
    · have := this.1
      simp only [List.nodup_cons, List.mem_cons, List.not_mem_nil, or_false, not_or] at this
      exact ⟨this.1.1, this.1.2, this.2.1⟩
    · exact ih this.2.1 r hr
theorem TreeIs.app {h₀ h : Heap} {L : Addr} {news news' : List (Addr × Obj)} {Tr dt R : Addr} {vs : List Value} {rows : List NRow} {S : Addr → List Int} (TX : TreeIs news Tr dt R vs rows S) (N : News h₀ L h news)
    {r : NRow} (hr : r ∈ rows) {D : Addr} (hD : D ∈ [r.c, r.a, r.n]) (hs : ∀ p ∈ news, p.1 ≠ D → p ∈ news') {ys : List Value} {k k' : Nat} {j : Int} {t : Tok} (h0 : (D, lob ys k) ∈ news) (hi : IntsAre ys (S D)) (hl : ys.length < 63) (h1 : (D, lob (ys ++ [.int j t]) k') ∈ news') :
    TreeIs news' Tr dt R vs rows (S1 S D j) := by
  constructor
  · exact hs _ TX.inst (obj_ne N TX.inst h0 (fun q => by cases q))
  · obtain ⟨hh, tk, e⟩ := TX.dict
    exact ⟨hh, tk, hs _ e (obj_ne N e h0 (fun q => by simp at q))⟩
  · obtain ⟨n, e⟩ := TX.lst
    exact ⟨n, hs _ e (Ne.symm (TX.lists hr hD))⟩
  · exact TX.len
  · exact TX.small
  · intro i q hq
    obtain ⟨v, e1, e2⟩ := TX.row i q hq
    exact ⟨v, e1, e2.off N h0 hs⟩
  · intro q hq D' hD'
    by_cases z : D' = D
    · subst z
      exact ⟨_, _, h1, by simpa [S1] using ints_snoc hi, by rw [List.length_append]; exact hl⟩
    · obtain ⟨ys', k2, m, e, l⟩ := TX.sub q hq D' hD'
      exact ⟨ys', k2, hs _ m z, by simpa [S1, z] using e, l⟩
  · exact TX.nd
end
section
theorem News.focus {h₀ h : Heap} {L D : Addr} {o : Obj} {news : List (Addr × Obj)} (N : News h₀ L h news) (hm : (D, o) ∈ news) :
    ∃ rest, News h₀ L h ((D, o) :: rest) ∧ (∀ p ∈ rest, p.1 ≠ D) ∧ (∀ p ∈ news, p.1 ≠ D → p ∈ rest) ∧ (∀ p ∈ rest, p ∈ news) := by
  refine ⟨news.filter fun p => p.1 != D, fun p hp => ?_, fun p hp => ?_, fun p hp q => List.mem_filter.mpr ⟨hp, by simpa using q⟩, fun p hp => (List.mem_filter.mp hp).1⟩
  · rcases List.mem_cons.mp hp with rfl | hp
    · exact N _ hm
    · exact N _ (List.mem_filter.mp hp).1
  · simpa using (List.mem_filter.mp hp).2
theorem RowIs.mk {news : List (Addr × Obj)} {x d : Addr} {h0 h1 h2 h3 h4 h5 h6 h7 h8 : Int} {t0 t1 t2 t3 t4 t5 t6 t7 t8 u0 u1 u2 u3 u4 u5 : Tok} {r : NRow} (hx : (x, instObj 260 d) ∈ news)
    (hd : (d, dictOf [⟨h0, .str (Str.ofString "kind") t0, .str r.kind u0⟩, ⟨h1, .str (Str.ofString "name") t1, .str r.name u1⟩, ⟨h2, .str (Str.ofString "uri") t2, .str r.uri u2⟩, ⟨h3, .str (Str.ofString "local") t3, .str r.loc u3⟩, ⟨h4, .str (Str.ofString "value") t4, .str r.val u4⟩, ⟨h5, .str (Str.ofString "parent") t5, pv u5 r.par⟩, ⟨h6, .str (Str.ofString "children") t6, .ref r.c⟩, ⟨h7, .str (Str.ofString "attributes") t7, .ref r.a⟩, ⟨h8, .str (Str.ofString "namespaces") t8, .ref r.n⟩] 9) ∈ news) : RowIs news (.ref x) r :=
  ⟨x, d, fun | 0 => h0 | 1 => h1 | 2 => h2 | 3 => h3 | 4 => h4 | 5 => h5 | 6 => h6 | 7 => h7 | _ => h8, fun | 0 => t0 | 1 => t1 | 2 => t2 | 3 => t3 | 4 => t4 | 5 => t5 | 6 => t6 | 7 => t7 | _ => t8, fun | 0 => u0 | 1 => u1 | 2 => u2 | 3 => u3 | 4 => u4 | _ => u5, rfl, hx, hd⟩
theorem new_row_con (prog : Program) (w : World) (news : List (Addr × Obj)) (Tr dt R : Addr) (vs : List Value) (rows : List NRow) (S : Addr → List Int) (TX : TreeIs news Tr dt R vs rows S) (hsm : rows.length < 63)
    (kd nm ur lo va : Str) (t1 t2 t3 t4 t5 t6 : Tok) (pr : Option Nat) :
    Con prog w 30 600 285 [.ref Tr, .str kd t1, .str nm t2, .str ur t3, .str lo t4, .str va t5, pv t6 pr] news (fun v news' => ∃ (c a n : Addr) (x : Value), (∃ t, v = .int (rows.length : Int) t) ∧
      TreeIs news' Tr dt R (vs ++ [x]) (rows ++ [⟨kd, nm, ur, lo, va, pr, c, a, n⟩]) (S3 S c a n) ∧ (∀ p ∈ news, p.1 ≠ R → p ∈ news') ∧ (∀ p ∈ news, p.1 < c ∧ p.1 < a ∧ p.1 < n)) := by
  unfold Con
  obtain ⟨hh, tk, h2⟩ := TX.dict
  obtain ⟨n0, h3⟩ := TX.lst
  have h1 := TX.inst
  have hvl := TX.len
  have hsmall : vs.length < 63 := by rw [hvl]; exact hsm
  obtain ⟨V6, eV6⟩ : ∃ V, V = pv t6 pr := ⟨_, rfl⟩
  have hV6 : handedIn V6 = true := by rw [eV6]; cases pr <;> rfl
  rw [← eV6]
  all_goals (intro p loose mean mg mb dp un gd cn cs ad ccd cl outer A₀ base h₀ L m s Q E B F X N T hk hdp hu hret; (obtain ⟨rest, N1, hne, hup, hdn⟩ := News.focus N h3; have e1 := hup _ h1 (obj_ne N h1 h3 (fun q => by cases q)); have e2 := hup _ h2 (obj_ne N h2 h3 (fun q => by simp at q)); have N0 := And.intro trivial N; clear N); refine wpAny_call ?_; k_dflt ktr_enter; (refine env_let (t := fun e => execs _ e) ?_; intro ev Av); (with_reducible rename Fr _ _ _ (fun _ => _) => kF0; refine fr_let kF0 ?_; clear kF0; intro m0 kF0))
  all_goals (
    (repeat ((fail_if_success (k_dflt (with_reducible show wpAny _ _ (call (.builtin _) _) _ _ _))); (first | (k_unfold; (try dsimp only)) | (k_end; wrow_close) | walk1 | (dsimp only; walk1) | fail "no step")))
    iterate 19 (first | (k_unfold; (try dsimp only)) | (k_end; wrow_close) | walk1 | (dsimp only; walk1) | fail "no step")
    with_reducible (rename @LT.lt Nat _ _ _ ∧ @LT.lt Nat _ _ _ ∧ @LT.lt Nat _ _ _ ∧ @LT.lt Nat _ _ _ ∧ @LT.lt Nat _ _ _ ∧ AllLt _ rest => lN)
    with_reducible (rename @LT.lt Nat _ _ _ ∧ @LT.lt Nat _ _ _ ∧ @LT.lt Nat _ _ _ ∧ @LT.lt Nat _ _ _ ∧ AllLt _ rest => lA)
    with_reducible (rename @LT.lt Nat _ _ _ ∧ @LT.lt Nat _ _ _ ∧ @LT.lt Nat _ _ _ ∧ AllLt _ rest => lC)
    rename News h₀ L _ _ => kN; rename Fr h₀ L _ _ => kF
    obtain ⟨-, -, lCR, lCr⟩ := lC
    obtain ⟨lAC, -, -, lAR, lAr⟩ := lA
    obtain ⟨lNA, lNC, -, -, lNR, lNr⟩ := lN
    have fr : ∀ p ∈ news, @LT.lt Nat _ p.1 _ ∧ @LT.lt Nat _ p.1 _ ∧ @LT.lt Nat _ p.1 _ := fun p hp => by
      by_cases q : p.1 = R
      · rw [q]; exact ⟨lCR, lAR, lNR⟩
      · have z := hup p hp q
        exact ⟨tb_ltOf lCr p z, tb_ltOf lAr p z, tb_ltOf lNr p z⟩
    subst eV6
    refine' hret _ _ _ _ kF kN ⟨_, _, _, _, ⟨_, ?hv⟩, TreeIs.push TX N0.2 (fun p hp hq => by have z := hup p hp hq; repeat (first | exact z | apply List.mem_cons_of_mem)) ?hR (RowIs.mk ?hx ?hd) ?hc ?ha ?hn (fun p hp => Nat.ne_of_lt (fr p hp).1) (fun p hp => Nat.ne_of_lt (fr p hp).2.1) (fun p hp => Nat.ne_of_lt (fr p hp).2.2) (Nat.ne_of_lt lAC) (Nat.ne_of_lt lNC) (Nat.ne_of_lt lNA) hsm, (fun p hp hq => by have z := hup p hp hq; repeat (first | exact z | apply List.mem_cons_of_mem)), fr⟩
    case hR => exact List.mem_cons_of_mem _ (List.mem_cons_of_mem _ (List.mem_cons_of_mem _ (List.mem_cons_of_mem _ (List.mem_cons_of_mem _ List.mem_cons_self))))
    case hx => exact List.mem_cons_of_mem _ (List.mem_cons_of_mem _ (List.mem_cons_of_mem _ List.mem_cons_self))
    case hd => exact List.mem_cons_of_mem _ (List.mem_cons_of_mem _ (List.mem_cons_of_mem _ (List.mem_cons_of_mem _ List.mem_cons_self)))
    case hc => exact List.mem_cons_of_mem _ (List.mem_cons_of_mem _ List.mem_cons_self)
    case ha => exact List.mem_cons_of_mem _ List.mem_cons_self
    case hn => exact List.mem_cons_self
    case hv =>
      rw [List.length_append, hvl, List.length_singleton, Int.natCast_add, Int.natCast_one, Int.add_sub_cancel]
    all_goals exact (0 : Tok)
  )
end
section
theorem element_row_con (prog : Program) (w : World) (news : List (Addr × Obj)) (Tr dt R : Addr) (vs : List Value) (rows : List NRow) (S : Addr → List Int) (TX : TreeIs news Tr dt R vs rows S) (i : Nat) (ti : Tok) (r : NRow) (hi : rows[i]? = some r) (hk : r.kind = Str.ofString "element") :
    Con prog w 20 400 341 [.ref Tr, .int (i : Int) ti] news (fun v news' => vs[i]? = some v ∧ news' = news) := by
  unfold Con
  have h1 := TX.inst
  obtain ⟨hh, tk, h2⟩ := TX.dict
  obtain ⟨v, hv1, x, d, f, t, u, rfl, m1, m2⟩ := TX.row i r hi
  obtain ⟨rk, rn, ru, rl, rv, rp, rc, ra, rns⟩ := r
  dsimp only at hk
  subst hk
  dsimp only [rowD] at m2
  (intro p loose mean mg mb dp un gd cn cs ad ccd cl outer A₀ base h₀ L m s Q E B F X N T hk hdp hu hret; refine wpAny_call ?_; k_dflt ktr_enter; (refine env_let (t := fun e => execs _ e) ?_; intro ev Av); (with_reducible rename Fr _ _ _ (fun _ => _) => kF0; refine fr_let kF0 ?_; clear kF0; intro m0 kF0))
  (repeat ((fail_if_success (k_dflt (show wpAny _ _ (call (.ref 292) _) _ _ _))); (first | (k_unfold; (try dsimp only)) | (k_end; wrow_close) | walk1 | (dsimp only; walk1) | fail "no step"))); (try dsimp only [List.nil_append, List.cons_append])
  k_dflt (show wpAny _ _ (call (.ref 292) [.ref Tr, .int _ _]) _ _ _)
  (k_dflt (refine' con_use (row_con _ _ _ Tr dt R vs rows S TX i _ _ hv1 rfl) ?uB ?uF ?uX ?uN ?uT ?uk ?ud ?uu ?_; (case uB => k_asm); (case uF => k_asm); (case uX => k_asm); (case uN => k_asm);  (case uT => k_asm); (case uk => first | exact rfl | assumption); (case ud => ktr_room); (case uu => ktr_units)); rintro r9 news9 h9 tk9 F9 N9 ⟨rfl, rfl⟩; (try dsimp only))
  (repeat' (first | (k_unfold; (try dsimp only)) | (k_end; wrow_close) | walk1 | (dsimp only; walk1) | fail "no step"))
  (rename News _ _ _ _ => kN; rename Fr _ _ _ _ => kF; refine hret _ _ _ _ kF kN ?_)
  exact ⟨hv1, rfl⟩
section
variable {prog : Program} {w : World} {A : Around} {E : Value → Shared → Prop} {s : Shared} {h₀ : Heap} {L D : Addr} {m : Str → Option Value} {news : List (Addr × Obj)} {ys : List Value} {k : Nat} {v : Value} {Q : Value → Shared → Prop}
theorem ls_append (F : Fr h₀ L s.heap m) (N : News h₀ L s.heap news) (hm : (D, lob ys k) ∈ news) (hz : ys.length ≤ sizeLine)
    (h : ∀ h' rest, Fr h₀ L h' m → News h₀ L h' ((D, lob (ys ++ [v]) (k + 1)) :: rest) → (∀ p ∈ news, p.1 ≠ D → p ∈ rest) → Q .none { s with heap := h' }) : wpAny (model prog w) A (call (.builtin "list.append") [.ref D, v]) Q E s := by
  obtain ⟨rest, N1, hne, hup, -⟩ := News.focus N hm
  refine append_K F N1 (Upd.head hne) (fun h' F' N' => h h' rest F' ?_ hup) (by rw [List.size_toArray]; exact hz)
  rw [List.push_toArray] at N'
  exact N'
end
end
section
theorem parents_tup (w : World) : (hd.heap_39 w.params).lookup 243 = some { cls := .type "tuple", data := .seq #[.str (Str.ofString "root") 520, .str (Str.ofString "element") 521] } := by kernel_rfl
theorem add_child_con (prog : Program) (w : World) (news : List (Addr × Obj)) (Tr dt R : Addr) (vs : List Value) (rows : List NRow) (S : Addr → List Int) (TX : TreeIs news Tr dt R vs rows S) (hsm : rows.length < 60) (i : Nat) (ti : Tok) (r : NRow) (hi : rows[i]? = some r) (hk : r.kind = Str.ofString "element" ∨ r.kind = Str.ofString "root")
    (kd nm ur lo va : Str) (t1 t2 t3 t4 t5 : Tok) (hS : (S r.c).length < 60) :
    Con prog w 50 1000 306 [.ref Tr, .int (i : Int) ti, .str kd t1, .str nm t2, .str ur t3, .str lo t4, .str va t5] news (fun v news' => ∃ (c a n : Addr) (x : Value), (∃ t, v = .int (rows.length : Int) t) ∧
      TreeIs news' Tr dt R (vs ++ [x]) (rows ++ [⟨kd, nm, ur, lo, va, some i, c, a, n⟩]) (S1 (S3 S c a n) r.c rows.length) ∧ (∀ p ∈ news, p.1 ≠ R → p.1 ≠ r.c → p ∈ news') ∧ (∀ p ∈ news, p.1 < c ∧ p.1 < a ∧ p.1 < n)) := by
  unfold Con
  have h1 := TX.inst
  obtain ⟨hh, tk, h2⟩ := TX.dict
  obtain ⟨v, hv1, x, d, f, t, u, rfl, m1, m2⟩ := TX.row i r hi
  obtain ⟨rk, rn, ru, rl, rv, rp, rc, ra, rns⟩ := r
  dsimp only at hk hS
  rcases hk with rfl | rfl
  all_goals (
    dsimp only [rowD] at m2
    (intro p loose mean mg mb dp un gd cn cs ad ccd cl outer A₀ base h₀ L m s Q E B F X N T hk hdp hu hret; refine wpAny_call ?_; k_dflt ktr_enter; (refine env_let (t := fun e => execs _ e) ?_; intro ev Av); (with_reducible rename Fr _ _ _ (fun _ => _) => kF0; refine fr_let kF0 ?_; clear kF0; intro m0 kF0))
    (repeat ((fail_if_success (k_dflt (show wpAny _ _ (call (.ref 292) _) _ _ _))); (first | (k_unfold; (try dsimp only)) | (k_end; wrow_close) | walk1 | (dsimp only; walk1) | fail "no step"))); (try dsimp only [List.nil_append, List.cons_append])
    k_dflt (show wpAny _ _ (call (.ref 292) [.ref Tr, .int _ _]) _ _ _)
    (k_dflt (refine' con_use (row_con _ _ _ Tr dt R vs rows S TX i _ _ hv1 rfl) ?uB ?uF ?uX ?uN ?uT ?uk ?ud ?uu ?_; (case uB => k_asm); (case uF => k_asm); (case uX => k_asm); (case uN => k_asm);  (case uT => k_asm); (case uk => first | exact rfl | assumption); (case ud => ktr_room); (case uu => ktr_units)); rintro r9 news9 h9 tk9 F9 N9 ⟨rfl, rfl⟩; (try dsimp only))
    (repeat ((fail_if_success (k_dflt (show wpAny _ _ (compareOp _ _ _) _ _ _))); (first | (k_unfold; (try dsimp only)) | (k_end; wrow_close) | walk1 | (dsimp only; walk1) | fail "no step")))
    rename Frag.In _ _ => kX; rename Fr _ _ _ _ => kF
    k_dflt (refine notin_tuple_strs (ys := [Str.ofString "root", Str.ofString "element"]) ⟨_, kX.keeps kF.keep _ _ (parents_tup w), rfl, _, rfl⟩ (.cons _ _ (.cons _ _ .nil)) ?_)
    (repeat ((fail_if_success (k_dflt (show wpAny _ _ (call (.ref 285) _) _ _ _))); (first | (k_unfold; (try dsimp only)) | (k_end; wrow_close) | walk1 | (dsimp only; walk1) | fail "no step"))); (try dsimp only [List.nil_append, List.cons_append])
    have hxR : x ≠ R := obj_ne ‹News h₀ L s.heap _› m1 TX.lst.choose_spec (fun q => by cases q)
    have hdR : d ≠ R := obj_ne ‹News h₀ L s.heap _› m2 TX.lst.choose_spec (fun q => by simp at q)
    k_dflt (show wpAny _ _ (call (.ref 285) [.ref Tr, .str kd t1, .str nm t2, .str ur t3, .str lo t4, .str va t5, pv ti (some i)]) _ _ _)
    (k_dflt (refine' con_use (new_row_con _ _ _ Tr dt R vs rows S TX (Nat.lt_trans hsm (by decide)) kd nm ur lo va _ _ _ _ _ _ (some i)) ?uB ?uF ?uX ?uN ?uT ?uk ?ud ?uu ?_; (case uB => k_asm); (case uF => k_asm); (case uX => k_asm); (case uN => k_asm);  (case uT => k_asm); (case uk => first | exact rfl | assumption); (case ud => ktr_room); (case uu => ktr_units)); rintro r9 news9 h9 tk9 F9 N9 ⟨c1, a1, n1, x1, ⟨t7, rfl⟩, TX2, hs2, fr2⟩; (try dsimp only))
    have p1 := TX2.inst
    obtain ⟨hh2, tk2, p2⟩ := TX2.dict
    obtain ⟨n2, p3⟩ := TX2.lst
    have q1 := hs2 _ m1 hxR
    have q2 := hs2 _ m2 hdR
    have hlt : i < rows.length := (List.getElem?_eq_some_iff.mp hi).1
    have hvl := TX.len
    have hi2 : (vs ++ [x1])[i]? = some (.ref x) := by rw [List.getElem?_append_left (by rw [hvl]; exact hlt)]; exact hv1
    have hrm := List.mem_append_left [(⟨kd, nm, ur, lo, va, some i, c1, a1, n1⟩ : NRow)] (List.mem_of_getElem? hi)
    obtain ⟨ys, k, r1, r2, r3⟩ := TX2.sub _ hrm rc (by simp)
    (repeat ((fail_if_success (k_dflt (with_reducible show wpAny _ _ (subscriptTail _ _ _ _) _ _ _))); (first | (k_unfold; (try dsimp only)) | (k_end; wrow_close) | walk1 | (dsimp only; walk1) | fail "no step")))
    rename News _ _ _ _ => kN
    k_dflt (refine ls_sub (vs := vs ++ [x1]) (x := .ref x) kN p3 (Int.natCast_nonneg i) (by omega) (by rw [Int.toNat_natCast]; exact hi2) ?_)
    (repeat ((fail_if_success (k_dflt (with_reducible show wpAny _ _ (call (.builtin _) _) _ _ _))); (first | (k_unfold; (try dsimp only)) | (k_end; wrow_close) | walk1 | (dsimp only; walk1) | fail "no step")))
    have hlen : ys.length < 60 := by
      obtain ⟨ys0, k0, m0, -⟩ := TX.sub _ (List.mem_of_getElem? hi) rc (by simp)
      obtain ⟨z1, z2, z3⟩ := fr2 _ m0
      have z := r2.length
      have : S3 S c1 a1 n1 rc = S rc := by simp only [S3]; rw [if_neg]; rintro (rfl | rfl | rfl) <;> exact absurd ‹_› (Nat.lt_irrefl _)
      rw [this] at z
      rw [z]; exact hS
    have kN' := And.intro trivial kN
    k_dflt (refine ls_append (by k_asm) kN r1 (by rw [sizeLine_eq]; omega) ?_)
    intro h8 rest F8 N8 hup8
    clear kN
    (repeat' (first | (k_unfold; (try dsimp only)) | (k_end; wrow_close) | walk1 | (dsimp only; walk1) | fail "no step"))
    (rename News _ _ _ _ => kN; rename Fr _ _ _ _ => kF; refine hret _ _ _ _ kF kN ?_)
    exact ⟨c1, a1, n1, x1, ⟨_, rfl⟩, TreeIs.app TX2 kN'.2 hrm (by simp) (fun p hp hq => List.mem_cons_of_mem _ (hup8 p hp hq)) r1 r2 (Nat.lt_trans hlen (by decide)) List.mem_cons_self, (fun p hp h1 h2 => List.mem_cons_of_mem _ (hup8 p (hs2 p hp h1) h2)), fr2⟩
  )
theorem add_element_con (prog : Program) (w : World) (news : List (Addr × Obj)) (Tr dt R : Addr) (vs : List Value) (rows : List NRow) (S : Addr → List Int) (TX : TreeIs news Tr dt R vs rows S) (hsm : rows.length < 60) (i : Nat) (ti : Tok) (r : NRow) (hi : rows[i]? = some r) (hkd : r.kind = Str.ofString "element" ∨ r.kind = Str.ofString "root")
    (nm ur lo : Str) (t2 t3 t4 : Tok) (hS : (S r.c).length < 60) :
    Con prog w 60 1200 313 [.ref Tr, .int (i : Int) ti, .str nm t2, .str ur t3, .str lo t4] news (fun v news' => ∃ (c a n : Addr) (x : Value), (∃ t, v = .int (rows.length : Int) t) ∧
      TreeIs news' Tr dt R (vs ++ [x]) (rows ++ [⟨Str.ofString "element", nm, ur, lo, Str.ofString "", some i, c, a, n⟩]) (S1 (S3 S c a n) r.c rows.length) ∧ (∀ p ∈ news, p.1 ≠ R → p.1 ≠ r.c → p ∈ news') ∧ (∀ p ∈ news, p.1 < c ∧ p.1 < a ∧ p.1 < n)) := by
  unfold Con
  have h1 := TX.inst
  obtain ⟨hh, tk, h2⟩ := TX.dict
  (intro p loose mean mg mb dp un gd cn cs ad ccd cl outer A₀ base h₀ L m s Q E B F X N T hk hdp hu hret; refine wpAny_call ?_; k_dflt ktr_enter; (refine env_let (t := fun e => execs _ e) ?_; intro ev Av); (with_reducible rename Fr _ _ _ (fun _ => _) => kF0; refine fr_let kF0 ?_; clear kF0; intro m0 kF0))
  (repeat ((fail_if_success (k_dflt (show wpAny _ _ (call (.ref 306) _) _ _ _))); (first | (k_unfold; (try dsimp only)) | (k_end; wrow_close) | walk1 | (dsimp only; walk1) | fail "no step"))); (try dsimp only [List.nil_append, List.cons_append])
  k_dflt (show wpAny _ _ (call (.ref 306) [.ref Tr, .int (i : Int) ti, .str (Str.ofString "element") _, .str nm t2, .str ur t3, .str lo t4, .str (Str.ofString "") _]) _ _ _)
  (k_dflt (refine' con_use (add_child_con _ _ _ Tr dt R vs rows S TX hsm i _ r hi hkd (Str.ofString "element") nm ur lo (Str.ofString "") _ _ _ _ _ hS) ?uB ?uF ?uX ?uN ?uT ?uk ?ud ?uu ?_; (case uB => k_asm); (case uF => k_asm); (case uX => k_asm); (case uN => k_asm);  (case uT => k_asm); (case uk => first | exact rfl | assumption); (case ud => ktr_room); (case uu => ktr_units)); rintro r9 news9 h9 tk9 F9 N9 ⟨c1, a1, n1, x1, ⟨t7, rfl⟩, TX2, hs2, fr2⟩; (try dsimp only))
  (repeat' (first | (k_unfold; (try dsimp only)) | (k_end; wrow_close) | walk1 | (dsimp only; walk1) | fail "no step"))
  (rename News _ _ _ _ => kN; rename Fr _ _ _ _ => kF; refine hret _ _ _ _ kF kN ?_)
  exact ⟨c1, a1, n1, x1, ⟨_, rfl⟩, TX2, hs2, fr2⟩
end
section
theorem ints_get {ys : List Value} {ns : List Int} (h : IntsAre ys ns) {i : Nat} {v : Value} (e : ys[i]? = some v) : ∃ j t, ns[i]? = some j ∧ v = .int j t := by
  induction h generalizing i with
  | nil => simp at e
  | cons a t r ih =>
    cases i with
    | zero => simp at e; exact ⟨a, t, rfl, e.symm⟩
    | succ i => exact ih (by simpa using e)
theorem add_namespace_con (prog : Program) (w : World) (news : List (Addr × Obj)) (Tr dt R : Addr) (vs : List Value) (rows : List NRow) (S : Addr → List Int) (TX : TreeIs news Tr dt R vs rows S) (hsm : rows.length < 60) (i : Nat) (ti : Tok) (r : NRow) (hi : rows[i]? = some r) (hkd : r.kind = Str.ofString "element")
    (px ur : Str) (t2 t3 : Tok) (hS : (S r.n).length < 60) (hfr : ∀ j ∈ S r.n, ∃ (k : Nat) (q : NRow), j = (k : Int) ∧ rows[k]? = some q ∧ q.name ≠ px) :
    Con prog w 60 1500 355 [.ref Tr, .int (i : Int) ti, .str px t2, .str ur t3] news (fun v news' => ∃ (c a n : Addr) (x : Value), (∃ t, v = .int (rows.length : Int) t) ∧
      TreeIs news' Tr dt R (vs ++ [x]) (rows ++ [⟨Str.ofString "namespace", px, Str.ofString "", px, ur, some i, c, a, n⟩]) (S1 (S3 S c a n) r.n rows.length) ∧ (∀ p ∈ news, p.1 ≠ R → p.1 ≠ r.n → p ∈ news') ∧ (∀ p ∈ news, p.1 < c ∧ p.1 < a ∧ p.1 < n)) := by
  unfold Con
  have h1 := TX.inst
  obtain ⟨hh, tk, h2⟩ := TX.dict
  obtain ⟨n0, h3⟩ := TX.lst
  obtain ⟨v, hv1, x, d, f, t, u, rfl, m1, m2⟩ := TX.row i r hi
  obtain ⟨ys, k, r1, r2, r3⟩ := TX.sub _ (List.mem_of_getElem? hi) r.n (by simp)
  (intro p loose mean mg mb dp un gd cn cs ad ccd cl outer A₀ base h₀ L m s Q E B F X N T hk hdp hu hret; refine wpAny_call ?_; k_dflt ktr_enter; (refine env_let (t := fun e => execs _ e) ?_; intro ev Av); (with_reducible rename Fr _ _ _ (fun _ => _) => kF0; refine fr_let kF0 ?_; clear kF0; intro m0 kF0))
  (repeat ((fail_if_success (k_dflt (show wpAny _ _ (call (.ref 341) _) _ _ _))); (first | (k_unfold; (try dsimp only)) | (k_end; wrow_close) | walk1 | (dsimp only; walk1) | fail "no step"))); (try dsimp only [List.nil_append, List.cons_append])
  k_dflt (show wpAny _ _ (call (.ref 341) [.ref Tr, .int (i : Int) ti]) _ _ _)
  (k_dflt (refine' con_use (element_row_con _ _ _ Tr dt R vs rows S TX i _ r hi hkd) ?uB ?uF ?uX ?uN ?uT ?uk ?ud ?uu ?_; (case uB => k_asm); (case uF => k_asm); (case uX => k_asm); (case uN => k_asm);  (case uT => k_asm); (case uk => first | exact rfl | assumption); (case ud => ktr_room); (case uu => ktr_units)); rintro r9 news9 h9 tk9 F9 N9 ⟨hv2, rfl⟩; (try dsimp only))
  cases hv1.symm.trans hv2
  (repeat ((fail_if_success (k_dflt (show wpAny _ _ (exec (.For _ _ _ _ _) _) _ _ _))); (first | (k_unfold; (try dsimp only)) | (k_end; wrow_close) | walk1 | (dsimp only; walk1) | fail "no step")))
  k_dflt (refine For_turns (by k_asm) ?_)
  (repeat ((fail_if_success (k_dflt (show wpAny _ _ (pyIter _) _ _ _))); (first | (k_unfold; (try dsimp only)) | (k_end; wrow_close) | walk1 | (dsimp only; walk1) | fail "no step")))
  rename News _ _ _ _ => kN; rename Fr _ _ _ _ => kF
  k_dflt (refine iter_listTurns (by rfl) kF kN r1 rfl rfl fun I hI => ?_)
  refine items_ind (fun i0 m nws => nws = _ ∧ m (Str.ofString "row") = some (.ref x) ∧ m (Str.ofString "self") = some (.ref Tr) ∧ m (Str.ofString "prefix") = some (.str px t2) ∧ m (Str.ofString "uri") = some (.str ur t3) ∧ m (Str.ofString "element") = some (.int (i : Int) ti)) ys ?turn ?done ys 0 _ _ (Nat.zero_le _) rfl ⟨rfl, rfl, rfl, rfl, rfl, rfl⟩
  case turn =>
    clear kF kN
    rintro i0 v0 m0 nws h tk0 it hv0 zQ zH ⟨rfl, mrow, mself, mpx, mur, mel⟩ F1 N1
    obtain ⟨j, tj, hj1, rfl⟩ := ints_get r2 hv0
    obtain ⟨k0, q, rfl, hq1, hq2⟩ := hfr j (List.mem_of_getElem? hj1)
    obtain ⟨vq, hvq, xq, dq, fq, tq, uq, rfl, mq1, mq2⟩ := TX.row k0 q hq1
    have hkl : k0 < vs.length := (List.getElem?_eq_some_iff.mp hvq).1
    have hvl := TX.len
    ((repeat ((fail_if_success (k_dflt (with_reducible show wpAny _ _ (execs _ _) _ _ _))); (first | (k_unfold; (try dsimp only)) | (k_end; wrow_close) | walk1 | (dsimp only; walk1) | fail "no step"))); (try k_fold))
    (repeat ((fail_if_success (k_dflt (with_reducible show wpAny _ _ (subscriptTail _ _ _ _) _ _ _))); (first | (k_unfold; (try dsimp only)) | (k_end; wrow_close) | walk1 | (dsimp only; walk1) | fail "no step")))
    rename News _ _ _ _ => kN
    k_dflt (refine ls_sub (vs := vs) (x := .ref xq) kN (List.mem_cons_of_mem _ h3) (Int.natCast_nonneg k0) (by omega) (by rw [Int.toNat_natCast]; exact hvq) ?_)
    (repeat ((fail_if_success (k_dflt (with_reducible show wpAny _ _ (execs _ _) _ _ _))); (first | (k_unfold; (try dsimp only)) | (k_end; wrow_close) | walk1 | (dsimp only; walk1) | fail "no step")))
    · with_reducible rename (q.name == px) = true => ha
      exact absurd (beq_iff_eq.mp ha) hq2
    · (repeat' (first | (k_unfold; (try dsimp only)) | (k_end; wrow_close) | walk1 | (dsimp only; walk1) | fail "no step"))
      rename News _ _ _ _ => kN; rename Fr _ _ _ _ => kF
      refine zH _ _ ?_; refine unrEnd_sub _ kF kN (fun p hp => hp) (fun p hp => Nat.ne_of_lt (hI p hp)) ⟨⟨r1, trivial⟩, rfl, by walk_at "mine name", by walk_at "mine name", by walk_at "mine name", by walk_at "mine name", by walk_at "mine name"⟩
  case done =>
    rintro m0 nws ⟨rfl, mrow, mself, mpx, mur, mel⟩ h tk0 F1 N1
    have hlen : ys.length < 60 := by rw [r2.length]; exact hS
    (repeat ((fail_if_success (k_dflt (show wpAny _ _ (call (.ref 285) _) _ _ _))); (first | (k_unfold; (try dsimp only)) | (k_end; wrow_close) | walk1 | (dsimp only; walk1) | fail "no step"))); (try dsimp only [List.nil_append, List.cons_append])
    have hxR : x ≠ R := obj_ne ‹News h₀ L s.heap _› m1 h3 (fun q => by cases q)
    have hdR : d ≠ R := obj_ne ‹News h₀ L s.heap _› m2 h3 (fun q => by simp at q)
    k_dflt (show wpAny _ _ (call (.ref 285) [.ref Tr, .str (Str.ofString "namespace") _, .str px t2, .str (Str.ofString "") _, .str px t2, .str ur t3, pv ti (some i)]) _ _ _)
    (k_dflt (refine' con_use (new_row_con _ _ _ Tr dt R vs rows S TX (Nat.lt_trans hsm (by decide)) (Str.ofString "namespace") px (Str.ofString "") px ur _ _ _ _ _ _ (some i)) ?uB ?uF ?uX ?uN ?uT ?uk ?ud ?uu ?_; (case uB => k_asm); (case uF => k_asm); (case uX => k_asm); (case uN => k_asm);  (case uT => k_asm); (case uk => first | exact rfl | assumption); (case ud => ktr_room); (case uu => ktr_units)); rintro r9 news9 h9 tk9 F9 N9 ⟨c1, a1, n1, x1, ⟨t7, rfl⟩, TX2, hs2, fr2⟩; (try dsimp only))
    have q1 := hs2 _ m1 hxR
    have q2 := hs2 _ m2 hdR
    have hrm := List.mem_append_left [(⟨Str.ofString "namespace", px, Str.ofString "", px, ur, some i, c1, a1, n1⟩ : NRow)] (List.mem_of_getElem? hi)
    obtain ⟨ys2, k2, s1, s2, s3⟩ := TX2.sub _ hrm r.n (by simp)
    (repeat ((fail_if_success (k_dflt (with_reducible show wpAny _ _ (call (.builtin _) _) _ _ _))); (first | (k_unfold; (try dsimp only)) | (k_end; wrow_close) | walk1 | (dsimp only; walk1) | fail "no step")))
    have hlen2 : ys2.length < 60 := by
      obtain ⟨z1, z2, z3⟩ := fr2 _ r1
      have z := s2.length
      have : S3 S c1 a1 n1 r.n = S r.n := by simp only [S3]; rw [if_neg]; rintro (e | e | e) <;> rw [e] at z1 z2 z3 <;> first | exact absurd z1 (Nat.lt_irrefl _) | exact absurd z2 (Nat.lt_irrefl _) | exact absurd z3 (Nat.lt_irrefl _)
      rw [this] at z
      rw [z]; exact hS
    rename News _ _ _ _ => kN
    have kN' := And.intro trivial kN
    k_dflt (refine ls_append (by k_asm) kN s1 (by rw [sizeLine_eq]; omega) ?_)
    intro h8 rest F8 N8 hup8
    clear kN
    (repeat' (first | (k_unfold; (try dsimp only)) | (k_end; wrow_close) | walk1 | (dsimp only; walk1) | fail "no step"))
    (rename News _ _ _ _ => kN; rename Fr _ _ _ _ => kF; refine hret _ _ _ _ kF kN ?_)
    exact ⟨c1, a1, n1, x1, ⟨_, rfl⟩, TreeIs.app TX2 kN'.2 hrm (by simp) (fun p hp hq => List.mem_cons_of_mem _ (hup8 p hp hq)) s1 s2 (Nat.lt_trans hlen2 (by decide)) List.mem_cons_self, (fun p hp h1 h2 => List.mem_cons_of_mem _ (hup8 p (hs2 p hp h1) h2)), fr2⟩
end
section
theorem set_attribute_con (prog : Program) (w : World) (news : List (Addr × Obj)) (Tr dt R : Addr) (vs : List Value) (rows : List NRow) (S : Addr → List Int) (TX : TreeIs news Tr dt R vs rows S) (hsm : rows.length < 60) (i : Nat) (ti : Tok) (r : NRow) (hi : rows[i]? = some r) (hkd : r.kind = Str.ofString "element")
    (nm ur lo va : Str) (t2 t3 t4 t5 : Tok) (hS : (S r.a).length < 60) (hfr : ∀ j ∈ S r.a, ∃ (k : Nat) (q : NRow), j = (k : Int) ∧ rows[k]? = some q ∧ (q.uri ≠ ur ∨ q.loc ≠ lo)) :
    Con prog w 60 1500 348 [.ref Tr, .int (i : Int) ti, .str nm t2, .str ur t3, .str lo t4, .str va t5] news (fun v news' => ∃ (c a n : Addr) (x : Value), (∃ t, v = .int (rows.length : Int) t) ∧
      TreeIs news' Tr dt R (vs ++ [x]) (rows ++ [⟨Str.ofString "attribute", nm, ur, lo, va, some i, c, a, n⟩]) (S1 (S3 S c a n) r.a rows.length) ∧ (∀ p ∈ news, p.1 ≠ R → p.1 ≠ r.a → p ∈ news') ∧ (∀ p ∈ news, p.1 < c ∧ p.1 < a ∧ p.1 < n)) := by
  unfold Con
  have h1 := TX.inst
  obtain ⟨hh, tk, h2⟩ := TX.dict
  obtain ⟨n0, h3⟩ := TX.lst
  obtain ⟨v, hv1, x, d, f, t, u, rfl, m1, m2⟩ := TX.row i r hi
  obtain ⟨ys, k, r1, r2, r3⟩ := TX.sub _ (List.mem_of_getElem? hi) r.a (by simp)
  (intro p loose mean mg mb dp un gd cn cs ad ccd cl outer A₀ base h₀ L m s Q E B F X N T hk hdp hu hret; refine wpAny_call ?_; k_dflt ktr_enter; (refine env_let (t := fun e => execs _ e) ?_; intro ev Av); (with_reducible rename Fr _ _ _ (fun _ => _) => kF0; refine fr_let kF0 ?_; clear kF0; intro m0 kF0))
  (repeat ((fail_if_success (k_dflt (show wpAny _ _ (call (.ref 341) _) _ _ _))); (first | (k_unfold; (try dsimp only)) | (k_end; wrow_close) | walk1 | (dsimp only; walk1) | fail "no step"))); (try dsimp only [List.nil_append, List.cons_append])
  k_dflt (show wpAny _ _ (call (.ref 341) [.ref Tr, .int (i : Int) ti]) _ _ _)
  (k_dflt (refine' con_use (element_row_con _ _ _ Tr dt R vs rows S TX i _ r hi hkd) ?uB ?uF ?uX ?uN ?uT ?uk ?ud ?uu ?_; (case uB => k_asm); (case uF => k_asm); (case uX => k_asm); (case uN => k_asm);  (case uT => k_asm); (case uk => first | exact rfl | assumption); (case ud => ktr_room); (case uu => ktr_units)); rintro r9 news9 h9 tk9 F9 N9 ⟨hv2, rfl⟩; (try dsimp only))
  cases hv1.symm.trans hv2
  (repeat ((fail_if_success (k_dflt (show wpAny _ _ (exec (.For _ _ _ _ _) _) _ _ _))); (first | (k_unfold; (try dsimp only)) | (k_end; wrow_close) | walk1 | (dsimp only; walk1) | fail "no step")))
  k_dflt (refine For_turns (by k_asm) ?_)
  (repeat ((fail_if_success (k_dflt (show wpAny _ _ (pyIter _) _ _ _))); (first | (k_unfold; (try dsimp only)) | (k_end; wrow_close) | walk1 | (dsimp only; walk1) | fail "no step")))
  rename News _ _ _ _ => kN; rename Fr _ _ _ _ => kF
  k_dflt (refine iter_listTurns (by rfl) kF kN r1 rfl rfl fun I hI => ?_)
  refine items_ind (fun i0 m nws => nws = _ ∧ m (Str.ofString "row") = some (.ref x) ∧ m (Str.ofString "self") = some (.ref Tr) ∧ m (Str.ofString "name") = some (.str nm t2) ∧ m (Str.ofString "uri") = some (.str ur t3) ∧ m (Str.ofString "local") = some (.str lo t4) ∧ m (Str.ofString "value") = some (.str va t5) ∧ m (Str.ofString "element") = some (.int (i : Int) ti)) ys ?turn ?done ys 0 _ _ (Nat.zero_le _) rfl ⟨rfl, rfl, rfl, rfl, rfl, rfl, rfl, rfl⟩
  case turn =>
    clear kF kN
    rintro i0 v0 m0 nws h tk0 it hv0 zQ zH ⟨rfl, mrow, mself, mnm, mur, mlo, mva, mel⟩ F1 N1
    obtain ⟨j, tj, hj1, rfl⟩ := ints_get r2 hv0
    obtain ⟨k0, q, rfl, hq1, hq2⟩ := hfr j (List.mem_of_getElem? hj1)
    obtain ⟨vq, hvq, xq, dq, fq, tq, uq, rfl, mq1, mq2⟩ := TX.row k0 q hq1
    have hkl : k0 < vs.length := (List.getElem?_eq_some_iff.mp hvq).1
    have hvl := TX.len
    ((repeat ((fail_if_success (k_dflt (with_reducible show wpAny _ _ (execs _ _) _ _ _))); (first | (k_unfold; (try dsimp only)) | (k_end; wrow_close) | walk1 | (dsimp only; walk1) | fail "no step"))); (try k_fold))
    (repeat ((fail_if_success (k_dflt (with_reducible show wpAny _ _ (subscriptTail _ _ _ _) _ _ _))); (first | (k_unfold; (try dsimp only)) | (k_end; wrow_close) | walk1 | (dsimp only; walk1) | fail "no step")))
    rename News _ _ _ _ => kN
    k_dflt (refine ls_sub (vs := vs) (x := .ref xq) kN (List.mem_cons_of_mem _ h3) (Int.natCast_nonneg k0) (by omega) (by rw [Int.toNat_natCast]; exact hvq) ?_)
    iterate 22 (first | (k_unfold; (try dsimp only)) | (k_end; wrow_close) | walk1 | (dsimp only; walk1) | fail "no step")
    · with_reducible rename (q.uri == ur) = true => ha
      with_reducible rename (q.loc == lo) = true => hb
      exact absurd (beq_iff_eq.mp hb) (hq2.resolve_left fun z => z (beq_iff_eq.mp ha))
    all_goals (
      (repeat' (first | (k_unfold; (try dsimp only)) | (k_end; wrow_close) | walk1 | (dsimp only; walk1) | fail "no step"))
      rename News _ _ _ _ => kN; rename Fr _ _ _ _ => kF
      refine zH _ _ ?_; refine unrEnd_sub _ kF kN (fun p hp => hp) (fun p hp => Nat.ne_of_lt (hI p hp)) ⟨⟨r1, trivial⟩, rfl, by walk_at "mine name", by walk_at "mine name", by walk_at "mine name", by walk_at "mine name", by walk_at "mine name", by walk_at "mine name", by walk_at "mine name"⟩
      )
  case done =>
    rintro m0 nws ⟨rfl, mrow, mself, mnm, mur, mlo, mva, mel⟩ h tk0 F1 N1
    have hlen : ys.length < 60 := by rw [r2.length]; exact hS
    (repeat ((fail_if_success (k_dflt (show wpAny _ _ (call (.ref 285) _) _ _ _))); (first | (k_unfold; (try dsimp only)) | (k_end; wrow_close) | walk1 | (dsimp only; walk1) | fail "no step"))); (try dsimp only [List.nil_append, List.cons_append])
    have hxR : x ≠ R := obj_ne ‹News h₀ L s.heap _› m1 h3 (fun q => by cases q)
    have hdR : d ≠ R := obj_ne ‹News h₀ L s.heap _› m2 h3 (fun q => by simp at q)
    k_dflt (show wpAny _ _ (call (.ref 285) [.ref Tr, .str (Str.ofString "attribute") _, .str nm t2, .str ur t3, .str lo t4, .str va t5, pv ti (some i)]) _ _ _)
    (k_dflt (refine' con_use (new_row_con _ _ _ Tr dt R vs rows S TX (Nat.lt_trans hsm (by decide)) (Str.ofString "attribute") nm ur lo va _ _ _ _ _ _ (some i)) ?uB ?uF ?uX ?uN ?uT ?uk ?ud ?uu ?_; (case uB => k_asm); (case uF => k_asm); (case uX => k_asm); (case uN => k_asm);  (case uT => k_asm); (case uk => first | exact rfl | assumption); (case ud => ktr_room); (case uu => ktr_units)); rintro r9 news9 h9 tk9 F9 N9 ⟨c1, a1, n1, x1, ⟨t7, rfl⟩, TX2, hs2, fr2⟩; (try dsimp only))
    have q1 := hs2 _ m1 hxR
    have q2 := hs2 _ m2 hdR
    have hrm := List.mem_append_left [(⟨Str.ofString "attribute", nm, ur, lo, va, some i, c1, a1, n1⟩ : NRow)] (List.mem_of_getElem? hi)
    obtain ⟨ys2, k2, s1, s2, s3⟩ := TX2.sub _ hrm r.a (by simp)
    (repeat ((fail_if_success (k_dflt (with_reducible show wpAny _ _ (call (.builtin _) _) _ _ _))); (first | (k_unfold; (try dsimp only)) | (k_end; wrow_close) | walk1 | (dsimp only; walk1) | fail "no step")))
    have hlen2 : ys2.length < 60 := by
      obtain ⟨z1, z2, z3⟩ := fr2 _ r1
      have z := s2.length
      have : S3 S c1 a1 n1 r.a = S r.a := by simp only [S3]; rw [if_neg]; rintro (e | e | e) <;> rw [e] at z1 z2 z3 <;> first | exact absurd z1 (Nat.lt_irrefl _) | exact absurd z2 (Nat.lt_irrefl _) | exact absurd z3 (Nat.lt_irrefl _)
      rw [this] at z
      rw [z]; exact hS
    rename News _ _ _ _ => kN
    have kN' := And.intro trivial kN
    k_dflt (refine ls_append (by k_asm) kN s1 (by rw [sizeLine_eq]; omega) ?_)
    intro h8 rest F8 N8 hup8
    clear kN
    (repeat' (first | (k_unfold; (try dsimp only)) | (k_end; wrow_close) | walk1 | (dsimp only; walk1) | fail "no step"))
    (rename News _ _ _ _ => kN; rename Fr _ _ _ _ => kF; refine hret _ _ _ _ kF kN ?_)
    exact ⟨c1, a1, n1, x1, ⟨_, rfl⟩, TreeIs.app TX2 kN'.2 hrm (by simp) (fun p hp hq => List.mem_cons_of_mem _ (hup8 p hp hq)) s1 s2 (Nat.lt_trans hlen2 (by decide)) List.mem_cons_self, (fun p hp h1 h2 => List.mem_cons_of_mem _ (hup8 p (hs2 p hp h1) h2)), fr2⟩
end
section
theorem new_root_con (prog : Program) (w : World) (news : List (Addr × Obj)) (Tr dt R : Addr) (vs : List Value) (rows : List NRow) (S : Addr → List Int) (TX : TreeIs news Tr dt R vs rows S) (hsm : rows.length < 60) :
    Con prog w 60 1200 299 [.ref Tr] news (fun v news' => ∃ (c a n : Addr) (x : Value), (∃ t, v = .int (rows.length : Int) t) ∧
      TreeIs news' Tr dt R (vs ++ [x]) (rows ++ [⟨Str.ofString "root", Str.ofString "", Str.ofString "", Str.ofString "", Str.ofString "", none, c, a, n⟩]) (S3 S c a n) ∧ (∀ p ∈ news, p.1 ≠ R → p ∈ news') ∧ (∀ p ∈ news, p.1 < c ∧ p.1 < a ∧ p.1 < n)) := by
  unfold Con
  have h1 := TX.inst
  obtain ⟨hh, tk, h2⟩ := TX.dict
  (intro p loose mean mg mb dp un gd cn cs ad ccd cl outer A₀ base h₀ L m s Q E B F X N T hk hdp hu hret; refine wpAny_call ?_; k_dflt ktr_enter; (refine env_let (t := fun e => execs _ e) ?_; intro ev Av); (with_reducible rename Fr _ _ _ (fun _ => _) => kF0; refine fr_let kF0 ?_; clear kF0; intro m0 kF0))
  (repeat ((fail_if_success (k_dflt (show wpAny _ _ (call (.ref 285) _) _ _ _))); (first | (k_unfold; (try dsimp only)) | (k_end; wrow_close) | walk1 | (dsimp only; walk1) | fail "no step"))); (try dsimp only [List.nil_append, List.cons_append])
  k_dflt (show wpAny _ _ (call (.ref 285) [.ref Tr, .str (Str.ofString "root") _, .str (Str.ofString "") _, .str (Str.ofString "") _, .str (Str.ofString "") _, .str (Str.ofString "") _, pv 0 none]) _ _ _)
  (k_dflt (refine' con_use (new_row_con _ _ _ Tr dt R vs rows S TX (Nat.lt_trans hsm (by decide)) (Str.ofString "root") (Str.ofString "") (Str.ofString "") (Str.ofString "") (Str.ofString "") _ _ _ _ _ _ none) ?uB ?uF ?uX ?uN ?uT ?uk ?ud ?uu ?_; (case uB => k_asm); (case uF => k_asm); (case uX => k_asm); (case uN => k_asm);  (case uT => k_asm); (case uk => first | exact rfl | assumption); (case ud => ktr_room); (case uu => ktr_units)); rintro r9 news9 h9 tk9 F9 N9 ⟨c1, a1, n1, x1, ⟨t7, rfl⟩, TX2, hs2, fr2⟩; (try dsimp only))
  (repeat' (first | (k_unfold; (try dsimp only)) | (k_end; wrow_close) | walk1 | (dsimp only; walk1) | fail "no step"))
  (rename News _ _ _ _ => kN; rename Fr _ _ _ _ => kF; refine hret _ _ _ _ kF kN ?_)
  exact ⟨c1, a1, n1, x1, ⟨_, rfl⟩, TX2, hs2, fr2⟩
end
section
theorem allLt_of {d : Addr} : ∀ {l : List (Addr × Obj)}, (∀ p ∈ l, p.1 < d) → AllLt d l
  | [], _ => trivial
  | p :: l, h => ⟨h p List.mem_cons_self, allLt_of fun q hq => h q (List.mem_cons_of_mem _ hq)⟩
theorem tree_con (prog : Program) (w : World) (news : List (Addr × Obj)) :
    Con prog w 60 1200 449 [] news (fun v news' => ∃ (Tr dt R : Addr), v = .ref Tr ∧ TreeIs news' Tr dt R [] [] (fun _ => []) ∧ (∀ p ∈ news, p ∈ news') ∧ (∀ p ∈ news, p.1 < R)) := by
  unfold Con
  intro p loose mean mg mb dp un gd cn cs ad ccd cl outer A₀ base h₀ L m s Q E B F X N T hk hdp hu hret
  k_dflt (refine' call_cls F X N ?k4 ?k5 ?k6 ?_; (case k4 => k_is); (case k5 => k_is); (case k6 => k_is); intro x dx h9 F9 N9 l9 l8)
  have l9' : @LT.lt Nat _ dx x ∧ AllLt dx news := ⟨l8, allLt_of l9⟩
  have l9q : ∀ p ∈ news, p.1 ≠ dx := fun p hp => Nat.ne_of_lt (l9 p hp)
  k_dflt ktr_enter
  iterate 7 (first | (k_unfold; (try dsimp only)) | (k_end; wrow_close) | walk1 | (dsimp only; walk1) | fail "no step")
  rename @LT.lt Nat _ _ _ ∧ @LT.lt Nat _ _ _ ∧ AllLt _ news => lz
  obtain ⟨lz1, lz2, lz3⟩ := lz
  have kN := ‹News _ _ _ ((_, W.listOf #[] 0) :: _)›
  have I1 : InstAt _ x _ 449 (some (dictOf [] 0)) := ⟨kN.get (List.mem_cons_of_mem _ List.mem_cons_self), rfl, rfl, kN.get (List.mem_cons_of_mem _ (List.mem_cons_of_mem _ List.mem_cons_self))⟩
  k_dflt (refine' set_dict ?k1 ?k2 kN I1 rfl ?k6 ?k7 ?k8 ?k9 ?k10 ?k11 ?k12 ?k13 ?_; (case k1 => k_asm); (case k2 => k_asm); (case k6 => k_is); (case k7 => k_is); (case k8 => k_is); (case k9 => k_is); (case k10 => k_get); (case k11 => k_put); (case k12 => exact Upd.tail (Nat.ne_of_gt lz2) (Upd.tail (Nat.ne_of_gt l8) (Upd.head l9q))); (case k13 => exact Nat.le_of_ble_eq_true rfl); intro h7 F7 N7)
  (repeat' (first | (k_unfold; (try dsimp only)) | (k_end; wrow_close) | walk1 | (dsimp only; walk1) | fail "no step"))
  rename News h₀ L _ _ => kN2; rename Fr h₀ L _ _ => kF2
  refine hret _ _ _ _ kF2 kN2 ⟨x, dx, _, rfl, ?_, (fun p hp => List.mem_cons_of_mem _ (List.mem_cons_of_mem _ (List.mem_cons_of_mem _ hp))), (fun p hp => tb_ltOf lz3 p hp)⟩
  exact { inst := List.mem_cons_of_mem _ List.mem_cons_self, dict := ⟨_, _, List.mem_cons_of_mem _ (List.mem_cons_of_mem _ List.mem_cons_self)⟩, lst := ⟨0, List.mem_cons_self⟩, len := rfl, small := Nat.zero_le _, row := (fun i r e => by simp at e), sub := (fun r hr => nomatch hr), nd := (by simp) }
end
section
local macro_rules | `(tactic| k_all) => `(tactic| assumption)
theorem take_con (prog : Program) (w : World) (rest : List (Addr × Obj)) (src : Addr) (a b top : Int) (ta tb tt : Tok) (n : Nat)
    (hne : ∀ p ∈ rest, p.1 ≠ src) (h0 : 0 ≤ a) (h1 : 0 ≤ b) (h2 : b < 2147483647) (h3 : 0 < top) (h4 : top < 100) :
    Con prog w 1 8 467 [.ref src, .int top tt] ((src, lob [.int a ta, .int b tb] n) :: rest) (fun r news' => ∃ x t a' ta' b' tb' n', r = .int x t ∧ 0 ≤ x ∧ x < top ∧ 0 ≤ a' ∧ 0 ≤ b' ∧ b' < 2147483647 ∧ news' = (src, lob [.int a' ta', .int b' tb'] n') :: rest) := by
  unfold Con
  intro p loose mean mg mb dp un gd cn cs ad ccd cl outer A₀ base h₀ L m s Q E B F X N T hk hdp hu hret
  refine wpAny_call ?_
  k_dflt ktr_enter
  repeat' (first | (k_unfold; (try dsimp only)) | (k_end; wrow_close) | walk1 | (dsimp only; walk1) | fail "no step")
  all_goals skip
  · rename News _ _ _ _ => kN; rename Fr _ _ _ _ => kF; refine hret _ _ _ _ kF kN ⟨_, _, _, _, _, _, _, rfl, ?_, ?_, ?_, h1, h2, rfl⟩
    · exact Int.fmod_nonneg_of_pos _ h3
    · exact Int.fmod_lt_of_pos _ h3
    · exact Int.fdiv_nonneg h0 (by omega)
  · rename News _ _ _ _ => kN; rename Fr _ _ _ _ => kF; refine hret _ _ _ _ kF kN ⟨_, _, _, _, _, _, _, rfl, ?_, ?_, ?_, ?_, ?_, rfl⟩
    · exact Int.fmod_nonneg_of_pos _ h3
    · exact Int.fmod_lt_of_pos _ h3
    · exact h0
    · exact Int.fmod_nonneg_of_pos _ (by decide)
    · exact Int.fmod_lt_of_pos _ (by decide)
end
section
theorem small_con (prog : Program) (w : World) (news : List (Addr × Obj)) (c : Str) (t : Tok) (b : Bool) (hb : (!decide (c.cps.toList < (Str.ofString "a").cps.toList) && !decide ((Str.ofString "z").cps.toList < c.cps.toList)) = b) :
    Con prog w 10 200 108 [.str c t] news (fun v news' => v = .bool b ∧ news' = news) := by
  unfold Con
  (intro p loose mean mg mb dp un gd cn cs ad ccd cl outer A₀ base h₀ L m s Q E B F X N T hk hdp hu hret; refine wpAny_call ?_; k_dflt ktr_enter; (refine env_let (t := fun e => execs _ e) ?_; intro ev Av); (with_reducible rename Fr _ _ _ (fun _ => _) => kF0; refine fr_let kF0 ?_; clear kF0; intro m0 kF0))
  iterate 12 (first | (k_unfold; (try dsimp only)) | (k_end; wrow_close) | walk1 | (dsimp only; walk1) | fail "no step")
  · with_reducible rename _ < _ => ha
    (rename News _ _ _ _ => kN; rename Fr _ _ _ _ => kF; refine hret _ _ _ _ kF kN ?_)
    rw [decide_eq_true ha] at hb ⊢
    exact ⟨by rw [← hb]; rfl, rfl⟩
  · with_reducible rename ¬ _ => ha
    rw [decide_eq_false ha] at hb
    (repeat' (first | (k_unfold; (try dsimp only)) | (k_end; wrow_close) | walk1 | (dsimp only; walk1) | fail "no step"))
    (rename News _ _ _ _ => kN; rename Fr _ _ _ _ => kF; refine hret _ _ _ _ kF kN ?_)
    exact ⟨by rw [← hb]; rfl, rfl⟩
theorem start_con (prog : Program) (w : World) (news : List (Addr × Obj)) (k : Nat) (t : Tok) (h8 : k < 128) (hb : (!decide ([k] < (Str.ofString "a").cps.toList) && !decide ((Str.ofString "z").cps.toList < [k])) = true) :
    Con prog w 20 400 115 [.str ⟨#[k]⟩ t] news (fun v news' => v = .bool true ∧ news' = news) := by
  unfold Con
  (intro p loose mean mg mb dp un gd cn cs ad ccd cl outer A₀ base h₀ L m s Q E B F X N T hk hdp hu hret; refine wpAny_call ?_; k_dflt ktr_enter; (refine env_let (t := fun e => execs _ e) ?_; intro ev Av); (with_reducible rename Fr _ _ _ (fun _ => _) => kF0; refine fr_let kF0 ?_; clear kF0; intro m0 kF0))
  (repeat ((fail_if_success (k_dflt (show wpAny _ _ (call (.ref 108) _) _ _ _))); (first | (k_unfold; (try dsimp only)) | (k_end; wrow_close) | walk1 | (dsimp only; walk1) | fail "no step"))); (try dsimp only [List.nil_append, List.cons_append])
  k_dflt (show wpAny _ _ (call (.ref 108) [.str _ _]) _ _ _)
  (k_dflt (refine' con_use (small_con _ _ _ _ _ true hb) ?uB ?uF ?uX ?uN ?uT ?uk ?ud ?uu ?_; (case uB => k_asm); (case uF => k_asm); (case uX => k_asm); (case uN => k_asm);  (case uT => k_asm); (case uk => first | exact rfl | assumption); (case ud => ktr_room); (case uu => ktr_units)); rintro r9 news9 h9 tk9 F9 N9 ⟨rfl, rfl⟩; (try dsimp only))
  (repeat' (first | (k_unfold; (try dsimp only)) | (k_end; wrow_close) | walk1 | (dsimp only; walk1) | fail "no step"))
  (rename News _ _ _ _ => kN; rename Fr _ _ _ _ => kF; refine hret _ _ _ _ kF kN ?_)
  exact ⟨rfl, rfl⟩
theorem char_con (prog : Program) (w : World) (news : List (Addr × Obj)) (k : Nat) (t : Tok) (h8 : k < 128) (hb : (!decide ([k] < (Str.ofString "a").cps.toList) && !decide ((Str.ofString "z").cps.toList < [k])) = true) :
    Con prog w 30 600 122 [.str ⟨#[k]⟩ t] news (fun v news' => v = .bool true ∧ news' = news) := by
  unfold Con
  (intro p loose mean mg mb dp un gd cn cs ad ccd cl outer A₀ base h₀ L m s Q E B F X N T hk hdp hu hret; refine wpAny_call ?_; k_dflt ktr_enter; (refine env_let (t := fun e => execs _ e) ?_; intro ev Av); (with_reducible rename Fr _ _ _ (fun _ => _) => kF0; refine fr_let kF0 ?_; clear kF0; intro m0 kF0))
  (repeat ((fail_if_success (k_dflt (show wpAny _ _ (call (.ref 115) _) _ _ _))); (first | (k_unfold; (try dsimp only)) | (k_end; wrow_close) | walk1 | (dsimp only; walk1) | fail "no step"))); (try dsimp only [List.nil_append, List.cons_append])
  k_dflt (show wpAny _ _ (call (.ref 115) [.str _ _]) _ _ _)
  (k_dflt (refine' con_use (start_con _ _ _ _ _ h8 hb) ?uB ?uF ?uX ?uN ?uT ?uk ?ud ?uu ?_; (case uB => k_asm); (case uF => k_asm); (case uX => k_asm); (case uN => k_asm);  (case uT => k_asm); (case uk => first | exact rfl | assumption); (case ud => ktr_room); (case uu => ktr_units)); rintro r9 news9 h9 tk9 F9 N9 ⟨rfl, rfl⟩; (try dsimp only))
  (repeat' (first | (k_unfold; (try dsimp only)) | (k_end; wrow_close) | walk1 | (dsimp only; walk1) | fail "no step"))
  (rename News _ _ _ _ => kN; rename Fr _ _ _ _ => kF; refine hret _ _ _ _ kF kN ?_)
  exact ⟨rfl, rfl⟩
theorem start_dash (prog : Program) (w : World) (news : List (Addr × Obj)) (t : Tok) :
    Con prog w 20 400 115 [.str (Str.ofString "-") t] news (fun v news' => v = .bool false ∧ news' = news) := by
  unfold Con
  (intro p loose mean mg mb dp un gd cn cs ad ccd cl outer A₀ base h₀ L m s Q E B F X N T hk hdp hu hret; refine wpAny_call ?_; k_dflt ktr_enter; (refine env_let (t := fun e => execs _ e) ?_; intro ev Av); (with_reducible rename Fr _ _ _ (fun _ => _) => kF0; refine fr_let kF0 ?_; clear kF0; intro m0 kF0))
  (repeat ((fail_if_success (k_dflt (show wpAny _ _ (call (.ref 108) _) _ _ _))); (first | (k_unfold; (try dsimp only)) | (k_end; wrow_close) | walk1 | (dsimp only; walk1) | fail "no step"))); (try dsimp only [List.nil_append, List.cons_append])
  k_dflt (show wpAny _ _ (call (.ref 108) [.str _ _]) _ _ _)
  (k_dflt (refine' con_use (small_con _ _ _ _ _ false (by decide +kernel)) ?uB ?uF ?uX ?uN ?uT ?uk ?ud ?uu ?_; (case uB => k_asm); (case uF => k_asm); (case uX => k_asm); (case uN => k_asm);  (case uT => k_asm); (case uk => first | exact rfl | assumption); (case ud => ktr_room); (case uu => ktr_units)); rintro r9 news9 h9 tk9 F9 N9 ⟨rfl, rfl⟩; (try dsimp only))
  (repeat' (first | (k_unfold; (try dsimp only)) | (k_end; wrow_close) | walk1 | (dsimp only; walk1) | fail "no step"))
  (rename News _ _ _ _ => kN; rename Fr _ _ _ _ => kF; refine hret _ _ _ _ kF kN ?_)
  exact ⟨rfl, rfl⟩
theorem char_dash (prog : Program) (w : World) (news : List (Addr × Obj)) (t : Tok) :
    Con prog w 30 600 122 [.str (Str.ofString "-") t] news (fun v news' => v = .bool true ∧ news' = news) := by
  unfold Con
  (intro p loose mean mg mb dp un gd cn cs ad ccd cl outer A₀ base h₀ L m s Q E B F X N T hk hdp hu hret; refine wpAny_call ?_; k_dflt ktr_enter; (refine env_let (t := fun e => execs _ e) ?_; intro ev Av); (with_reducible rename Fr _ _ _ (fun _ => _) => kF0; refine fr_let kF0 ?_; clear kF0; intro m0 kF0))
  (repeat ((fail_if_success (k_dflt (show wpAny _ _ (call (.ref 115) _) _ _ _))); (first | (k_unfold; (try dsimp only)) | (k_end; wrow_close) | walk1 | (dsimp only; walk1) | fail "no step"))); (try dsimp only [List.nil_append, List.cons_append])
  k_dflt (show wpAny _ _ (call (.ref 115) [.str _ _]) _ _ _)
  (k_dflt (refine' con_use (start_dash _ _ _ _) ?uB ?uF ?uX ?uN ?uT ?uk ?ud ?uu ?_; (case uB => k_asm); (case uF => k_asm); (case uX => k_asm); (case uN => k_asm);  (case uT => k_asm); (case uk => first | exact rfl | assumption); (case ud => ktr_room); (case uu => ktr_units)); rintro r9 news9 h9 tk9 F9 N9 ⟨rfl, rfl⟩; (try dsimp only))
  (repeat' (first | (k_unfold; (try dsimp only)) | (k_end; wrow_close) | walk1 | (dsimp only; walk1) | fail "no step"))
  (rename News _ _ _ _ => kN; rename Fr _ _ _ _ => kF; refine hret _ _ _ _ kF kN ?_)
  exact ⟨rfl, rfl⟩
theorem start_one (prog : Program) (w : World) (news : List (Addr × Obj)) (t : Tok) :
    Con prog w 20 400 115 [.str (Str.ofString "1") t] news (fun v news' => v = .bool false ∧ news' = news) := by
  unfold Con
  (intro p loose mean mg mb dp un gd cn cs ad ccd cl outer A₀ base h₀ L m s Q E B F X N T hk hdp hu hret; refine wpAny_call ?_; k_dflt ktr_enter; (refine env_let (t := fun e => execs _ e) ?_; intro ev Av); (with_reducible rename Fr _ _ _ (fun _ => _) => kF0; refine fr_let kF0 ?_; clear kF0; intro m0 kF0))
  (repeat ((fail_if_success (k_dflt (show wpAny _ _ (call (.ref 108) _) _ _ _))); (first | (k_unfold; (try dsimp only)) | (k_end; wrow_close) | walk1 | (dsimp only; walk1) | fail "no step"))); (try dsimp only [List.nil_append, List.cons_append])
  k_dflt (show wpAny _ _ (call (.ref 108) [.str _ _]) _ _ _)
  (k_dflt (refine' con_use (small_con _ _ _ _ _ false (by decide +kernel)) ?uB ?uF ?uX ?uN ?uT ?uk ?ud ?uu ?_; (case uB => k_asm); (case uF => k_asm); (case uX => k_asm); (case uN => k_asm);  (case uT => k_asm); (case uk => first | exact rfl | assumption); (case ud => ktr_room); (case uu => ktr_units)); rintro r9 news9 h9 tk9 F9 N9 ⟨rfl, rfl⟩; (try dsimp only))
  (repeat' (first | (k_unfold; (try dsimp only)) | (k_end; wrow_close) | walk1 | (dsimp only; walk1) | fail "no step"))
  (rename News _ _ _ _ => kN; rename Fr _ _ _ _ => kF; refine hret _ _ _ _ kF kN ?_)
  exact ⟨rfl, rfl⟩
theorem char_one (prog : Program) (w : World) (news : List (Addr × Obj)) (t : Tok) :
    Con prog w 30 600 122 [.str (Str.ofString "1") t] news (fun v news' => v = .bool true ∧ news' = news) := by
  unfold Con
  (intro p loose mean mg mb dp un gd cn cs ad ccd cl outer A₀ base h₀ L m s Q E B F X N T hk hdp hu hret; refine wpAny_call ?_; k_dflt ktr_enter; (refine env_let (t := fun e => execs _ e) ?_; intro ev Av); (with_reducible rename Fr _ _ _ (fun _ => _) => kF0; refine fr_let kF0 ?_; clear kF0; intro m0 kF0))
  (repeat ((fail_if_success (k_dflt (show wpAny _ _ (call (.ref 115) _) _ _ _))); (first | (k_unfold; (try dsimp only)) | (k_end; wrow_close) | walk1 | (dsimp only; walk1) | fail "no step"))); (try dsimp only [List.nil_append, List.cons_append])
  k_dflt (show wpAny _ _ (call (.ref 115) [.str _ _]) _ _ _)
  (k_dflt (refine' con_use (start_one _ _ _ _) ?uB ?uF ?uX ?uN ?uT ?uk ?ud ?uu ?_; (case uB => k_asm); (case uF => k_asm); (case uX => k_asm); (case uN => k_asm);  (case uT => k_asm); (case uk => first | exact rfl | assumption); (case ud => ktr_room); (case uu => ktr_units)); rintro r9 news9 h9 tk9 F9 N9 ⟨rfl, rfl⟩; (try dsimp only))
  (repeat' (first | (k_unfold; (try dsimp only)) | (k_end; wrow_close) | walk1 | (dsimp only; walk1) | fail "no step"))
  (rename News _ _ _ _ => kN; rename Fr _ _ _ _ => kF; refine hret _ _ _ _ kF kN ?_)
  exact ⟨rfl, rfl⟩
theorem char_a (prog : Program) (w : World) (news : List (Addr × Obj)) (t : Tok) :
    Con prog w 30 600 122 [.str (Str.ofString "a") t] news (fun v news' => v = .bool true ∧ news' = news) := char_con prog w news 97 t (by decide) (by decide +kernel)
theorem start_a (prog : Program) (w : World) (news : List (Addr × Obj)) (t : Tok) :
    Con prog w 20 400 115 [.str (Str.ofString "a") t] news (fun v news' => v = .bool true ∧ news' = news) := start_con prog w news 97 t (by decide) (by decide +kernel)
theorem char_p (prog : Program) (w : World) (news : List (Addr × Obj)) (t : Tok) :
    Con prog w 30 600 122 [.str (Str.ofString "p") t] news (fun v news' => v = .bool true ∧ news' = news) := char_con prog w news 112 t (by decide) (by decide +kernel)
theorem start_p (prog : Program) (w : World) (news : List (Addr × Obj)) (t : Tok) :
    Con prog w 20 400 115 [.str (Str.ofString "p") t] news (fun v news' => v = .bool true ∧ news' = news) := start_con prog w news 112 t (by decide) (by decide +kernel)
theorem char_q (prog : Program) (w : World) (news : List (Addr × Obj)) (t : Tok) :
    Con prog w 30 600 122 [.str (Str.ofString "q") t] news (fun v news' => v = .bool true ∧ news' = news) := char_con prog w news 113 t (by decide) (by decide +kernel)
theorem start_q (prog : Program) (w : World) (news : List (Addr × Obj)) (t : Tok) :
    Con prog w 20 400 115 [.str (Str.ofString "q") t] news (fun v news' => v = .bool true ∧ news' = news) := start_con prog w news 113 t (by decide) (by decide +kernel)
theorem char_b (prog : Program) (w : World) (news : List (Addr × Obj)) (t : Tok) :
    Con prog w 30 600 122 [.str (Str.ofString "b") t] news (fun v news' => v = .bool true ∧ news' = news) := char_con prog w news 98 t (by decide) (by decide +kernel)
theorem start_b (prog : Program) (w : World) (news : List (Addr × Obj)) (t : Tok) :
    Con prog w 20 400 115 [.str (Str.ofString "b") t] news (fun v news' => v = .bool true ∧ news' = news) := start_con prog w news 98 t (by decide) (by decide +kernel)
theorem char_x (prog : Program) (w : World) (news : List (Addr × Obj)) (t : Tok) :
    Con prog w 30 600 122 [.str (Str.ofString "x") t] news (fun v news' => v = .bool true ∧ news' = news) := char_con prog w news 120 t (by decide) (by decide +kernel)
theorem start_x (prog : Program) (w : World) (news : List (Addr × Obj)) (t : Tok) :
    Con prog w 20 400 115 [.str (Str.ofString "x") t] news (fun v news' => v = .bool true ∧ news' = news) := start_con prog w news 120 t (by decide) (by decide +kernel)
theorem char_m (prog : Program) (w : World) (news : List (Addr × Obj)) (t : Tok) :
    Con prog w 30 600 122 [.str (Str.ofString "m") t] news (fun v news' => v = .bool true ∧ news' = news) := char_con prog w news 109 t (by decide) (by decide +kernel)
theorem start_m (prog : Program) (w : World) (news : List (Addr × Obj)) (t : Tok) :
    Con prog w 20 400 115 [.str (Str.ofString "m") t] news (fun v news' => v = .bool true ∧ news' = news) := start_con prog w news 109 t (by decide) (by decide +kernel)
theorem char_l (prog : Program) (w : World) (news : List (Addr × Obj)) (t : Tok) :
    Con prog w 30 600 122 [.str (Str.ofString "l") t] news (fun v news' => v = .bool true ∧ news' = news) := char_con prog w news 108 t (by decide) (by decide +kernel)
theorem start_l (prog : Program) (w : World) (news : List (Addr × Obj)) (t : Tok) :
    Con prog w 20 400 115 [.str (Str.ofString "l") t] news (fun v news' => v = .bool true ∧ news' = news) := start_con prog w news 108 t (by decide) (by decide +kernel)
theorem char_i (prog : Program) (w : World) (news : List (Addr × Obj)) (t : Tok) :
    Con prog w 30 600 122 [.str (Str.ofString "i") t] news (fun v news' => v = .bool true ∧ news' = news) := char_con prog w news 105 t (by decide) (by decide +kernel)
theorem start_i (prog : Program) (w : World) (news : List (Addr × Obj)) (t : Tok) :
    Con prog w 20 400 115 [.str (Str.ofString "i") t] news (fun v news' => v = .bool true ∧ news' = news) := start_con prog w news 105 t (by decide) (by decide +kernel)
theorem char_d (prog : Program) (w : World) (news : List (Addr × Obj)) (t : Tok) :
    Con prog w 30 600 122 [.str (Str.ofString "d") t] news (fun v news' => v = .bool true ∧ news' = news) := char_con prog w news 100 t (by decide) (by decide +kernel)
theorem start_d (prog : Program) (w : World) (news : List (Addr × Obj)) (t : Tok) :
    Con prog w 20 400 115 [.str (Str.ofString "d") t] news (fun v news' => v = .bool true ∧ news' = news) := start_con prog w news 100 t (by decide) (by decide +kernel)
theorem char_z (prog : Program) (w : World) (news : List (Addr × Obj)) (t : Tok) :
    Con prog w 30 600 122 [.str (Str.ofString "z") t] news (fun v news' => v = .bool true ∧ news' = news) := char_con prog w news 122 t (by decide) (by decide +kernel)
theorem start_z (prog : Program) (w : World) (news : List (Addr × Obj)) (t : Tok) :
    Con prog w 20 400 115 [.str (Str.ofString "z") t] news (fun v news' => v = .bool true ∧ news' = news) := start_con prog w news 122 t (by decide) (by decide +kernel)
end
section
section
variable {prog : Program} {w : World} {A : Around} {E : Value → Shared → Prop} {s : Shared} {h₀ : Heap} {env : Env} {x : Str} {body : List Stmt} {Q : Flow → Shared → Prop}
theorem strs_ind {I : Addr} (Inv : (Str → Option Value) → List (Addr × Obj) → Prop) :
    ∀ (rest : List Str)
    (_ : ∀ c ∈ rest, ∀ u m news h tk it, Inv m news → Fr h₀ env.locals h (fun y => if y = x then some (.str c u) else m y) → News h₀ env.locals h ((I, it) :: news) →
      wpAny (model prog w) A (execs body env) (UnrPost h₀ env.locals { s with heap := h, toks := tk } I it Inv Q) E { s with heap := h, toks := tk })
    (_ : ∀ m news, Inv m news → ∀ h tk, Fr h₀ env.locals h m → News h₀ env.locals h news → Q .next { s with heap := h, toks := tk })
    (m : Str → Option Value) (news : List (Addr × Obj)), Inv m news → StrRest prog w A E h₀ env x body Q s I rest m news := by
  intro rest
  induction rest with
  | nil => intro _ done m news hI h tk F N; exact done m news hI h tk F N
  | cons c r ih =>
    intro turn done m news hI u it h tk F N
    refine wpAny_mono (turn c List.mem_cons_self u m news h tk it hI F N) (fun f s₂ h₂ => ?_) fun _ _ z => z
    have ih' := ih (fun c hc => turn c (List.mem_cons_of_mem _ hc)) done
    cases f with
    | ret v => exact h₂
    | brk => exact h₂
    | next => obtain ⟨h', tk', m', n', a, b, c, d, e2⟩ := h₂; exact ⟨h', tk', m', n', a, b, c, d, ih' m' n' e2⟩
    | cont => obtain ⟨h', tk', m', n', a, b, c, d, e2⟩ := h₂; exact ⟨h', tk', m', n', a, b, c, d, ih' m' n' e2⟩
end
noncomputable abbrev CharOk (prog : Program) (w : World) (c : Str) : Prop := ∀ news t, Con prog w 30 600 122 [.str c t] news (fun v news' => v = .bool true ∧ news' = news)
theorem nmt_con (prog : Program) (w : World) (news : List (Addr × Obj)) (tx : Str) (l : List Str) (hl : tx.cps.toList.map (fun c => (⟨#[c]⟩ : Str)) = l) (hc : ∀ c ∈ l, CharOk prog w c) (hne : (tx == Str.ofString "") = false) (t : Tok) :
    Con prog w 40 800 129 [.str tx t] news (fun v news' => v = .bool true ∧ news' = news) := by
  unfold Con
  (intro p loose mean mg mb dp un gd cn cs ad ccd cl outer A₀ base h₀ L m s Q E B F X N T hk hdp hu hret; refine wpAny_call ?_; k_dflt ktr_enter; (refine env_let (t := fun e => execs _ e) ?_; intro ev Av); (with_reducible rename Fr _ _ _ (fun _ => _) => kF0; refine fr_let kF0 ?_; clear kF0; intro m0 kF0))
  (repeat ((fail_if_success (k_dflt (show wpAny _ _ (exec (.For _ _ _ _ _) _) _ _ _))); (first | (k_unfold; (try dsimp only)) | (k_end; wrow_close) | walk1 | (dsimp only; walk1) | fail "no step")))
  k_dflt (refine For_invVF (by k_asm) (by rfl) (by rfl) ?_)
  iterate 1 (first | (k_unfold; (try dsimp only)) | (k_end; wrow_close) | walk1 | (dsimp only; walk1) | fail "no step")
  rename News h₀ _ _ _ => kN0
  rename News _ _ _ _ => kN; rename Fr _ _ _ _ => kF
  k_dflt (refine iter_strUnr (l := l) (by rfl) kF kN hl fun I hI => ?_)
  k_dflt (refine strs_ind (fun m nws => nws = news ∧ m (Str.ofString "text") = some (.str tx t)) l ?turn ?done _ _ ⟨rfl, rfl⟩)
  case turn =>
    clear kF kN
    rintro c hcl u0 m0 nws h tk0 it ⟨rfl, mtx⟩ F1 N1
    (repeat ((fail_if_success (k_dflt (show wpAny _ _ (call (.ref 122) _) _ _ _))); (first | (k_unfold; (try dsimp only)) | (k_end; wrow_close) | walk1 | (dsimp only; walk1) | fail "no step"))); (try dsimp only [List.nil_append, List.cons_append])
    k_dflt (show wpAny _ _ (call (.ref 122) [.str _ _]) _ _ _)
    (k_dflt (refine' con_use (hc c hcl _ _) ?uB ?uF ?uX ?uN ?uT ?uk ?ud ?uu ?_; (case uB => k_asm); (case uF => k_asm); (case uX => k_asm); (case uN => k_asm);  (case uT => k_asm); (case uk => first | exact rfl | assumption); (case ud => ktr_room); (case uu => ktr_units)); rintro r9 news9 h9 tk9 F9 N9 ⟨rfl, rfl⟩; (try dsimp only))
    (repeat' (first | (k_unfold; (try dsimp only)) | (k_end; wrow_close) | walk1 | (dsimp only; walk1) | fail "no step"))
    rename News _ _ _ _ => kN; rename Fr _ _ _ _ => kF
    refine UnrEnd.intro kF kN _ (fun p hp => hp) (fun p hp => Nat.ne_of_lt (hI p hp)) ⟨rfl, by walk_at "mine name"⟩
  case done =>
    rintro m0 nws ⟨rfl, mtx⟩ h tk0 F1 N1
    clear kF kN
    (repeat' (first | (k_unfold; (try dsimp only)) | (k_end; wrow_close) | walk1 | (dsimp only; walk1) | fail "no step"))
    (rename News _ _ _ _ => kN; rename Fr _ _ _ _ => kF; refine hret _ _ _ _ kF kN ?_)
    exact ⟨by show Value.bool (!(tx == Str.ofString "")) = _; rw [hne]; rfl, rfl⟩
end
section
noncomputable abbrev NcOk (prog : Program) (w : World) (tx : Str) : Prop := ∀ news t, Con prog w 60 1000 143 [.str tx t] news (fun v news' => v = .bool true ∧ news' = news)
noncomputable abbrev StartOk (prog : Program) (w : World) (c : Str) : Prop := ∀ news t, Con prog w 20 400 115 [.str c t] news (fun v news' => v = .bool true ∧ news' = news)
theorem isname_gen (prog : Program) (w : World) (news : List (Addr × Obj)) (tx c : Str) (l : List Str) (hl : tx.cps.toList.map (fun c => (⟨#[c]⟩ : Str)) = l) (hc : ∀ c ∈ l, CharOk prog w c) (hne : (tx == Str.ofString "") = false) (hlen : (0 : Int) < tx.length) (hi : Txt.item tx 0 = c)
    (hs : StartOk prog w c) (t : Tok) :
    Con prog w 50 900 136 [.str tx t] news (fun v news' => v = .bool true ∧ news' = news) := by
  unfold Con
  have hbn : (tx != Str.ofString "") = true := by rw [bne, hne]; rfl
  (intro p loose mean mg mb dp un gd cn cs ad ccd cl outer A₀ base h₀ L m s Q E B F X N T hk hdp hu hret; refine wpAny_call ?_; k_dflt ktr_enter; (refine env_let (t := fun e => execs _ e) ?_; intro ev Av); (with_reducible rename Fr _ _ _ (fun _ => _) => kF0; refine fr_let kF0 ?_; clear kF0; intro m0 kF0))
  iterate 9 (first | (k_unfold; (try dsimp only)) | (k_end; wrow_close) | walk1 | (dsimp only; walk1) | fail "no step")
  with_reducible refine PySem.W.ite_pos hbn ?_
  (repeat ((fail_if_success (k_dflt (with_reducible show wpAny _ _ (subscriptTail _ _ _ _) _ _ _))); (first | (k_unfold; (try dsimp only)) | (k_end; wrow_close) | walk1 | (dsimp only; walk1) | fail "no step")))
  k_dflt (refine PyProof.Rows.item_str (i := 0) (by decide) (by omega) hlen ?_)
  rw [hi]
  intro _
  (repeat ((fail_if_success (k_dflt (show wpAny _ _ (call (.ref 115) _) _ _ _))); (first | (k_unfold; (try dsimp only)) | (k_end; wrow_close) | walk1 | (dsimp only; walk1) | fail "no step"))); (try dsimp only [List.nil_append, List.cons_append])
  k_dflt (show wpAny _ _ (call (.ref 115) [.str c _]) _ _ _)
  (k_dflt (refine' con_use (hs _ _) ?uB ?uF ?uX ?uN ?uT ?uk ?ud ?uu ?_; (case uB => k_asm); (case uF => k_asm); (case uX => k_asm); (case uN => k_asm);  (case uT => k_asm); (case uk => first | exact rfl | assumption); (case ud => ktr_room); (case uu => ktr_units)); rintro r9 news9 h9 tk9 F9 N9 ⟨rfl, rfl⟩; (try dsimp only))
  (repeat ((fail_if_success (k_dflt (show wpAny _ _ (call (.ref 129) _) _ _ _))); (first | (k_unfold; (try dsimp only)) | (k_end; wrow_close) | walk1 | (dsimp only; walk1) | fail "no step"))); (try dsimp only [List.nil_append, List.cons_append])
  k_dflt (show wpAny _ _ (call (.ref 129) [.str tx _]) _ _ _)
  (k_dflt (refine' con_use (nmt_con _ _ _ _ l hl hc hne _) ?uB ?uF ?uX ?uN ?uT ?uk ?ud ?uu ?_; (case uB => k_asm); (case uF => k_asm); (case uX => k_asm); (case uN => k_asm);  (case uT => k_asm); (case uk => first | exact rfl | assumption); (case ud => ktr_room); (case uu => ktr_units)); rintro r9 news9 h9 tk9 F9 N9 ⟨rfl, rfl⟩; (try dsimp only))
  (repeat' (first | (k_unfold; (try dsimp only)) | (k_end; wrow_close) | walk1 | (dsimp only; walk1) | fail "no step"))
  (rename News _ _ _ _ => kN; rename Fr _ _ _ _ => kF; refine hret _ _ _ _ kF kN ?_)
  exact ⟨rfl, rfl⟩
theorem nc_of (prog : Program) (w : World) (tx c : Str) (l : List Str) (hl : tx.cps.toList.map (fun c => (⟨#[c]⟩ : Str)) = l) (hc : ∀ c ∈ l, CharOk prog w c) (hne : (tx == Str.ofString "") = false) (hlen : (0 : Int) < tx.length) (hi : Txt.item tx 0 = c)
    (hs : StartOk prog w c) (hnc : (Builtin.Str.occurrences tx (Str.ofString ":") 0 tx.length 1).isEmpty = true) : NcOk prog w tx := by
  intro news t
  unfold Con
  (intro p loose mean mg mb dp un gd cn cs ad ccd cl outer A₀ base h₀ L m s Q E B F X N T hk hdp hu hret; refine wpAny_call ?_; k_dflt ktr_enter; (refine env_let (t := fun e => execs _ e) ?_; intro ev Av); (with_reducible rename Fr _ _ _ (fun _ => _) => kF0; refine fr_let kF0 ?_; clear kF0; intro m0 kF0))
  (repeat ((fail_if_success (k_dflt (with_reducible show wpAny _ _ (compareOp _ _ _) _ _ _))); (first | (k_unfold; (try dsimp only)) | (k_end; wrow_close) | walk1 | (dsimp only; walk1) | fail "no step")))
  iterate 4 (first | (k_unfold; (try dsimp only)) | (k_end; wrow_close) | walk1 | (dsimp only; walk1) | fail "no step")
  rw [if_pos hnc]
  (repeat ((fail_if_success (k_dflt (show wpAny _ _ (call (.ref 136) _) _ _ _))); (first | (k_unfold; (try dsimp only)) | (k_end; wrow_close) | walk1 | (dsimp only; walk1) | fail "no step"))); (try dsimp only [List.nil_append, List.cons_append])
  k_dflt (show wpAny _ _ (call (.ref 136) [.str tx _]) _ _ _)
  (k_dflt (refine' con_use (isname_gen _ _ _ tx c l hl hc hne hlen hi hs _) ?uB ?uF ?uX ?uN ?uT ?uk ?ud ?uu ?_; (case uB => k_asm); (case uF => k_asm); (case uX => k_asm); (case uN => k_asm);  (case uT => k_asm); (case uk => first | exact rfl | assumption); (case ud => ktr_room); (case uu => ktr_units)); rintro r9 news9 h9 tk9 F9 N9 ⟨rfl, rfl⟩; (try dsimp only))
  (repeat' (first | (k_unfold; (try dsimp only)) | (k_end; wrow_close) | walk1 | (dsimp only; walk1) | fail "no step"))
  (rename News _ _ _ _ => kN; rename Fr _ _ _ _ => kF; refine hret _ _ _ _ kF kN ?_)
  exact ⟨rfl, rfl⟩
end
section
theorem one_of {l : List (Str × Tok)} {a : Str} (h : l.map (·.1) = [a]) : ∃ t, l = [(a, t)] := by
  rcases l with _ | ⟨⟨x, t⟩, _ | ⟨_, _⟩⟩
  · cases h
  · cases h; exact ⟨t, rfl⟩
  · cases h
theorem two_of {l : List (Str × Tok)} {a b : Str} (h : l.map (·.1) = [a, b]) : ∃ t u, l = [(a, t), (b, u)] := by
  rcases l with _ | ⟨⟨x, t⟩, r⟩
  · cases h
  · rw [List.map_cons] at h
    injection h with h1 h2
    obtain ⟨u, rfl⟩ := one_of h2
    cases h1
    exact ⟨t, u, rfl⟩
theorem split_1 (prog : Program) (w : World) (news : List (Addr × Obj)) (tx : Str) (t : Tok) (hlen : tx.length ≤ 60) (hsp : Txt.split tx (Str.ofString ":") = [tx]) (hp : NcOk prog w tx) :
    Con prog w 80 1200 150 [.str tx t] news (fun v news' => ∃ D k t1 t2, v = .ref D ∧ (D, tob [.str (Str.ofString "") t1, .str tx t2] k) ∈ news' ∧ ∀ p ∈ news, p ∈ news') := by
  unfold Con
  (intro p loose mean mg mb dp un gd cn cs ad ccd cl outer A₀ base h₀ L m s Q E B F X N T hk hdp hu hret; refine wpAny_call ?_; k_dflt ktr_enter; (refine env_let (t := fun e => execs _ e) ?_; intro ev Av); (with_reducible rename Fr _ _ _ (fun _ => _) => kF0; refine fr_let kF0 ?_; clear kF0; intro m0 kF0))
  (repeat ((fail_if_success (k_dflt (with_reducible show wpAny _ _ (call (.builtin _) _) _ _ _))); (first | (k_unfold; (try dsimp only)) | (k_end; wrow_close) | walk1 | (dsimp only; walk1) | fail "no step")))
  rename News _ _ _ _ => kN; rename Fr _ _ _ _ => kF
  k_dflt (refine' PySem.W.KSpl.split1 kF kN ?hy ?_ ?hz; (case hy => rfl); (case hz => rw [sizeLine_eq]; omega))
  clear kF kN
  intro D l h' k hl _ F1 N1 l1
  rw [hsp] at hl
  obtain ⟨t9, rfl⟩ := one_of hl
  have N1' : News _ _ h' ((D, lob [.str tx t9] 0) :: news) := N1
  clear N1
  (repeat ((fail_if_success (k_dflt (with_reducible show wpAny _ _ (call (.builtin _) _) _ _ _))); (first | (k_unfold; (try dsimp only)) | (k_end; wrow_close) | walk1 | (dsimp only; walk1) | fail "no step")))
  k_dflt (refine' ls_len (vs := [_]) ?k1 List.mem_cons_self ?k3 ?_; (case k1 => k_asm); (case k3 => show (1:Nat) < 2^62; decide))
  rw [show ((([_] : List Value).length : Nat) : Int) = 1 from rfl]
  (repeat ((fail_if_success (k_dflt (show wpAny _ _ (exec (.For _ _ _ _ _) _) _ _ _))); (first | (k_unfold; (try dsimp only)) | (k_end; wrow_close) | walk1 | (dsimp only; walk1) | fail "no step")))
  k_dflt (refine For_turns (by k_asm) ?_)
  (repeat ((fail_if_success (k_dflt (show wpAny _ _ (pyIter _) _ _ _))); (first | (k_unfold; (try dsimp only)) | (k_end; wrow_close) | walk1 | (dsimp only; walk1) | fail "no step")))
  rename News _ _ _ _ => kN; rename Fr _ _ _ _ => kF
  k_dflt (refine iter_listTurns (by rfl) kF kN List.mem_cons_self rfl rfl fun I hI => ?_)
  refine items_ind (fun i0 m nws => nws = _ ∧ m (Str.ofString "parts") = some (.ref _) ∧ m (Str.ofString "name") = some (.str tx t)) [_] ?turn ?done [_] 0 _ _ (Nat.zero_le _) rfl ⟨rfl, rfl, rfl⟩
  case turn =>
    clear kF kN
    rintro i0 v0 m0 nws h tk0 it hv0 zQ zH ⟨rfl, mparts, mname⟩ F1 N1
    have hmem := List.mem_of_getElem? hv0
    obtain rfl := List.mem_singleton.mp hmem
    ((repeat ((fail_if_success (k_dflt (with_reducible show wpAny _ _ (execs _ _) _ _ _))); (first | (k_unfold; (try dsimp only)) | (k_end; wrow_close) | walk1 | (dsimp only; walk1) | fail "no step"))); (try k_fold))
    (repeat ((fail_if_success (k_dflt (show wpAny _ _ (call (.ref 143) _) _ _ _))); (first | (k_unfold; (try dsimp only)) | (k_end; wrow_close) | walk1 | (dsimp only; walk1) | fail "no step"))); (try dsimp only [List.nil_append, List.cons_append])
    k_dflt (with_unfolding_all show wpAny _ _ (call (.ref 143) [.str tx _]) _ _ _)
    (k_dflt (refine' con_use (hp _ _) ?uB ?uF ?uX ?uN ?uT ?uk ?ud ?uu ?_; (case uB => k_asm); (case uF => k_asm); (case uX => k_asm); (case uN => k_asm);  (case uT => k_asm); (case uk => first | exact rfl | assumption); (case ud => ktr_room); (case uu => ktr_units)); rintro r9 news9 h9 tk9 F9 N9 ⟨rfl, rfl⟩; (try dsimp only))
    (repeat' (first | (k_unfold; (try dsimp only)) | (k_end; wrow_close) | walk1 | (dsimp only; walk1) | fail "no step"))
    rename News _ _ _ _ => kN; rename Fr _ _ _ _ => kF
    refine zH _ _ ?_; refine unrEnd_sub _ kF kN (fun p hp => hp) (fun p hp => Nat.ne_of_lt (hI p hp)) ⟨⟨List.mem_cons_self, trivial⟩, rfl, by walk_at "mine name", by walk_at "mine name"⟩
  case done =>
    clear kF kN
    rintro m0 nws ⟨rfl, mparts, mname⟩ h tk0 F1 N1
    (repeat ((fail_if_success (k_dflt (with_reducible show wpAny _ _ (call (.builtin _) _) _ _ _))); (first | (k_unfold; (try dsimp only)) | (k_end; wrow_close) | walk1 | (dsimp only; walk1) | fail "no step")))
    k_dflt (refine' ls_len (vs := [_]) ?k1 List.mem_cons_self ?k3 ?_; (case k1 => k_asm); (case k3 => show (1:Nat) < 2^62; decide))
    rw [show ((([_] : List Value).length : Nat) : Int) = 1 from rfl]
    (repeat' (first | (k_unfold; (try dsimp only)) | (k_end; wrow_close) | walk1 | (dsimp only; walk1) | fail "no step"))
    (rename News _ _ _ _ => kN; rename Fr _ _ _ _ => kF; refine hret _ _ _ _ kF kN ?_)
    exact ⟨_, _, _, _, rfl, List.mem_cons_self, fun p hp => List.mem_cons_of_mem _ (List.mem_cons_of_mem _ hp)⟩
theorem split_2 (prog : Program) (w : World) (news : List (Addr × Obj)) (tx p1 p2 : Str) (t : Tok) (hlen : tx.length ≤ 60) (hsp : Txt.split tx (Str.ofString ":") = [p1, p2]) (hp1 : NcOk prog w p1) (hp2 : NcOk prog w p2) :
    Con prog w 80 1200 150 [.str tx t] news (fun v news' => ∃ D k t1 t2, v = .ref D ∧ (D, tob [.str p1 t1, .str p2 t2] k) ∈ news' ∧ ∀ p ∈ news, p ∈ news') := by
  unfold Con
  (intro p loose mean mg mb dp un gd cn cs ad ccd cl outer A₀ base h₀ L m s Q E B F X N T hk hdp hu hret; refine wpAny_call ?_; k_dflt ktr_enter; (refine env_let (t := fun e => execs _ e) ?_; intro ev Av); (with_reducible rename Fr _ _ _ (fun _ => _) => kF0; refine fr_let kF0 ?_; clear kF0; intro m0 kF0))
  (repeat ((fail_if_success (k_dflt (with_reducible show wpAny _ _ (call (.builtin _) _) _ _ _))); (first | (k_unfold; (try dsimp only)) | (k_end; wrow_close) | walk1 | (dsimp only; walk1) | fail "no step")))
  rename News _ _ _ _ => kN; rename Fr _ _ _ _ => kF
  k_dflt (refine' PySem.W.KSpl.split1 kF kN ?hy ?_ ?hz; (case hy => rfl); (case hz => rw [sizeLine_eq]; omega))
  clear kF kN
  intro D l h' k hl _ F1 N1 l1
  rw [hsp] at hl
  obtain ⟨t9, t8, rfl⟩ := two_of hl
  have N1' : News _ _ h' ((D, lob [.str p1 t9, .str p2 t8] 0) :: news) := N1
  clear N1
  (repeat ((fail_if_success (k_dflt (with_reducible show wpAny _ _ (call (.builtin _) _) _ _ _))); (first | (k_unfold; (try dsimp only)) | (k_end; wrow_close) | walk1 | (dsimp only; walk1) | fail "no step")))
  k_dflt (refine' ls_len (vs := [_, _]) ?k1 List.mem_cons_self ?k3 ?_; (case k1 => k_asm); (case k3 => show (2:Nat) < 2^62; decide))
  rw [show ((([_, _] : List Value).length : Nat) : Int) = 2 from rfl]
  (repeat ((fail_if_success (k_dflt (show wpAny _ _ (exec (.For _ _ _ _ _) _) _ _ _))); (first | (k_unfold; (try dsimp only)) | (k_end; wrow_close) | walk1 | (dsimp only; walk1) | fail "no step")))
  k_dflt (refine For_turns (by k_asm) ?_)
  (repeat ((fail_if_success (k_dflt (show wpAny _ _ (pyIter _) _ _ _))); (first | (k_unfold; (try dsimp only)) | (k_end; wrow_close) | walk1 | (dsimp only; walk1) | fail "no step")))
  rename News _ _ _ _ => kN; rename Fr _ _ _ _ => kF
  k_dflt (refine iter_listTurns (by rfl) kF kN List.mem_cons_self rfl rfl fun I hI => ?_)
  refine items_ind (fun i0 m nws => nws = _ ∧ m (Str.ofString "parts") = some (.ref _) ∧ m (Str.ofString "name") = some (.str tx t)) [_, _] ?turn ?done [_, _] 0 _ _ (Nat.zero_le _) rfl ⟨rfl, rfl, rfl⟩
  case turn =>
    clear kF kN
    rintro i0 v0 m0 nws h tk0 it hv0 zQ zH ⟨rfl, mparts, mname⟩ F1 N1
    have hmem := List.mem_of_getElem? hv0
    obtain ⟨px, tp, rfl, hpx⟩ : ∃ px tp, v0 = .str px tp ∧ NcOk prog w px := by
      simp only [List.mem_cons, List.not_mem_nil, or_false] at hmem
      rcases hmem with rfl | rfl
      · exact ⟨_, _, rfl, hp1⟩
      · exact ⟨_, _, rfl, hp2⟩
    ((repeat ((fail_if_success (k_dflt (with_reducible show wpAny _ _ (execs _ _) _ _ _))); (first | (k_unfold; (try dsimp only)) | (k_end; wrow_close) | walk1 | (dsimp only; walk1) | fail "no step"))); (try k_fold))
    (repeat ((fail_if_success (k_dflt (show wpAny _ _ (call (.ref 143) _) _ _ _))); (first | (k_unfold; (try dsimp only)) | (k_end; wrow_close) | walk1 | (dsimp only; walk1) | fail "no step"))); (try dsimp only [List.nil_append, List.cons_append])
    k_dflt (with_unfolding_all show wpAny _ _ (call (.ref 143) [.str px _]) _ _ _)
    (k_dflt (refine' con_use (hpx _ _) ?uB ?uF ?uX ?uN ?uT ?uk ?ud ?uu ?_; (case uB => k_asm); (case uF => k_asm); (case uX => k_asm); (case uN => k_asm);  (case uT => k_asm); (case uk => first | exact rfl | assumption); (case ud => ktr_room); (case uu => ktr_units)); rintro r9 news9 h9 tk9 F9 N9 ⟨rfl, rfl⟩; (try dsimp only))
    (repeat' (first | (k_unfold; (try dsimp only)) | (k_end; wrow_close) | walk1 | (dsimp only; walk1) | fail "no step"))
    rename News _ _ _ _ => kN; rename Fr _ _ _ _ => kF
    refine zH _ _ ?_; refine unrEnd_sub _ kF kN (fun p hp => hp) (fun p hp => Nat.ne_of_lt (hI p hp)) ⟨⟨List.mem_cons_self, trivial⟩, rfl, by walk_at "mine name", by walk_at "mine name"⟩
  case done =>
    clear kF kN
    rintro m0 nws ⟨rfl, mparts, mname⟩ h tk0 F1 N1
    (repeat ((fail_if_success (k_dflt (with_reducible show wpAny _ _ (call (.builtin _) _) _ _ _))); (first | (k_unfold; (try dsimp only)) | (k_end; wrow_close) | walk1 | (dsimp only; walk1) | fail "no step")))
    k_dflt (refine' ls_len (vs := [_, _]) ?k1 List.mem_cons_self ?k3 ?_; (case k1 => k_asm); (case k3 => show (2:Nat) < 2^62; decide))
    rw [show ((([_, _] : List Value).length : Nat) : Int) = 2 from rfl]
    (repeat ((fail_if_success (k_dflt (with_reducible show wpAny _ _ (subscriptTail _ _ _ _) _ _ _))); (first | (k_unfold; (try dsimp only)) | (k_end; wrow_close) | walk1 | (dsimp only; walk1) | fail "no step")))
    rename News _ _ _ _ => kN
    k_dflt (with_unfolding_all refine ls_sub (vs := [_, _]) (x := _) kN List.mem_cons_self (by decide) (by decide) rfl ?_)
    (first | (k_unfold; (try dsimp only)) | (k_end; wrow_close) | walk1 | (dsimp only; walk1) | fail "no step")
    (repeat ((fail_if_success (k_dflt (with_reducible show wpAny _ _ (subscriptTail _ _ _ _) _ _ _))); (first | (k_unfold; (try dsimp only)) | (k_end; wrow_close) | walk1 | (dsimp only; walk1) | fail "no step")))
    k_dflt (with_unfolding_all refine ls_sub (vs := [_, _]) (x := _) kN List.mem_cons_self (by decide) (by decide) rfl ?_)
    (repeat' (first | (k_unfold; (try dsimp only)) | (k_end; wrow_close) | walk1 | (dsimp only; walk1) | fail "no step"))
    (rename News _ _ _ _ => kN; rename Fr _ _ _ _ => kF; refine hret _ _ _ _ kF kN ?_)
    exact ⟨_, _, _, _, rfl, List.mem_cons_self, fun p hp => List.mem_cons_of_mem _ (List.mem_cons_of_mem _ hp)⟩
theorem nc_a (prog : Program) (w : World) : NcOk prog w (Str.ofString "a") := nc_of prog w _ (Str.ofString "a") [Str.ofString "a"] (by decide +kernel) (by simp only [List.forall_mem_cons]; exact ⟨fun _ _ => char_a _ _ _ _, fun _ h => nomatch h⟩) (by decide +kernel) (by decide +kernel) (by decide +kernel) (start_a prog w) (by decide +kernel)
theorem nc_p (prog : Program) (w : World) : NcOk prog w (Str.ofString "p") := nc_of prog w _ (Str.ofString "p") [Str.ofString "p"] (by decide +kernel) (by simp only [List.forall_mem_cons]; exact ⟨fun _ _ => char_p _ _ _ _, fun _ h => nomatch h⟩) (by decide +kernel) (by decide +kernel) (by decide +kernel) (start_p prog w) (by decide +kernel)
theorem nc_q (prog : Program) (w : World) : NcOk prog w (Str.ofString "q") := nc_of prog w _ (Str.ofString "q") [Str.ofString "q"] (by decide +kernel) (by simp only [List.forall_mem_cons]; exact ⟨fun _ _ => char_q _ _ _ _, fun _ h => nomatch h⟩) (by decide +kernel) (by decide +kernel) (by decide +kernel) (start_q prog w) (by decide +kernel)
theorem nc_b (prog : Program) (w : World) : NcOk prog w (Str.ofString "b") := nc_of prog w _ (Str.ofString "b") [Str.ofString "b"] (by decide +kernel) (by simp only [List.forall_mem_cons]; exact ⟨fun _ _ => char_b _ _ _ _, fun _ h => nomatch h⟩) (by decide +kernel) (by decide +kernel) (by decide +kernel) (start_b prog w) (by decide +kernel)
theorem nc_xml (prog : Program) (w : World) : NcOk prog w (Str.ofString "xml") := nc_of prog w _ (Str.ofString "x") [Str.ofString "x", Str.ofString "m", Str.ofString "l"] (by decide +kernel) (by simp only [List.forall_mem_cons]; exact ⟨fun _ _ => char_x _ _ _ _, fun _ _ => char_m _ _ _ _, fun _ _ => char_l _ _ _ _, fun _ h => nomatch h⟩) (by decide +kernel) (by decide +kernel) (by decide +kernel) (start_x prog w) (by decide +kernel)
theorem nc_id (prog : Program) (w : World) : NcOk prog w (Str.ofString "id") := nc_of prog w _ (Str.ofString "i") [Str.ofString "i", Str.ofString "d"] (by decide +kernel) (by simp only [List.forall_mem_cons]; exact ⟨fun _ _ => char_i _ _ _ _, fun _ _ => char_d _ _ _ _, fun _ h => nomatch h⟩) (by decide +kernel) (by decide +kernel) (by decide +kernel) (start_i prog w) (by decide +kernel)
theorem nc_z (prog : Program) (w : World) : NcOk prog w (Str.ofString "z") := nc_of prog w _ (Str.ofString "z") [Str.ofString "z"] (by decide +kernel) (by simp only [List.forall_mem_cons]; exact ⟨fun _ _ => char_z _ _ _ _, fun _ h => nomatch h⟩) (by decide +kernel) (by decide +kernel) (by decide +kernel) (start_z prog w) (by decide +kernel)
theorem nc_b_1 (prog : Program) (w : World) : NcOk prog w (Str.ofString "b-1") := nc_of prog w _ (Str.ofString "b") [Str.ofString "b", Str.ofString "-", Str.ofString "1"] (by decide +kernel) (by simp only [List.forall_mem_cons]; exact ⟨fun _ _ => char_b _ _ _ _, fun _ _ => char_dash _ _ _ _, fun _ _ => char_one _ _ _ _, fun _ h => nomatch h⟩) (by decide +kernel) (by decide +kernel) (by decide +kernel) (start_b prog w) (by decide +kernel)
theorem split_a (prog : Program) (w : World) (news : List (Addr × Obj)) (t : Tok) :
    Con prog w 80 1200 150 [.str (Str.ofString "a") t] news (fun v news' => ∃ D k t1 t2, v = .ref D ∧ (D, tob [.str (Str.ofString "") t1, .str (Str.ofString "a") t2] k) ∈ news' ∧ ∀ p ∈ news, p ∈ news') := split_1 _ _ _ _ _ (by decide +kernel) (by decide +kernel) (nc_a _ _)
theorem split_p_a (prog : Program) (w : World) (news : List (Addr × Obj)) (t : Tok) :
    Con prog w 80 1200 150 [.str (Str.ofString "p:a") t] news (fun v news' => ∃ D k t1 t2, v = .ref D ∧ (D, tob [.str (Str.ofString "p") t1, .str (Str.ofString "a") t2] k) ∈ news' ∧ ∀ p ∈ news, p ∈ news') := split_2 _ _ _ _ _ _ _ (by decide +kernel) (by decide +kernel) (nc_p _ _) (nc_a _ _)
theorem split_q_b (prog : Program) (w : World) (news : List (Addr × Obj)) (t : Tok) :
    Con prog w 80 1200 150 [.str (Str.ofString "q:b") t] news (fun v news' => ∃ D k t1 t2, v = .ref D ∧ (D, tob [.str (Str.ofString "q") t1, .str (Str.ofString "b") t2] k) ∈ news' ∧ ∀ p ∈ news, p ∈ news') := split_2 _ _ _ _ _ _ _ (by decide +kernel) (by decide +kernel) (nc_q _ _) (nc_b _ _)
theorem split_xml_id (prog : Program) (w : World) (news : List (Addr × Obj)) (t : Tok) :
    Con prog w 80 1200 150 [.str (Str.ofString "xml:id") t] news (fun v news' => ∃ D k t1 t2, v = .ref D ∧ (D, tob [.str (Str.ofString "xml") t1, .str (Str.ofString "id") t2] k) ∈ news' ∧ ∀ p ∈ news, p ∈ news') := split_2 _ _ _ _ _ _ _ (by decide +kernel) (by decide +kernel) (nc_xml _ _) (nc_id _ _)
theorem split_z_a (prog : Program) (w : World) (news : List (Addr × Obj)) (t : Tok) :
    Con prog w 80 1200 150 [.str (Str.ofString "z:a") t] news (fun v news' => ∃ D k t1 t2, v = .ref D ∧ (D, tob [.str (Str.ofString "z") t1, .str (Str.ofString "a") t2] k) ∈ news' ∧ ∀ p ∈ news, p ∈ news') := split_2 _ _ _ _ _ _ _ (by decide +kernel) (by decide +kernel) (nc_z _ _) (nc_a _ _)
theorem split_b_1 (prog : Program) (w : World) (news : List (Addr × Obj)) (t : Tok) :
    Con prog w 80 1200 150 [.str (Str.ofString "b-1") t] news (fun v news' => ∃ D k t1 t2, v = .ref D ∧ (D, tob [.str (Str.ofString "") t1, .str (Str.ofString "b-1") t2] k) ∈ news' ∧ ∀ p ∈ news, p ∈ news') := split_1 _ _ _ _ _ (by decide +kernel) (by decide +kernel) (nc_b_1 _ _)
end
section
noncomputable abbrev OV (res : Option Str) (v : Value) : Prop := (∃ u t, res = some u ∧ v = .str u t) ∨ (res = none ∧ v = .none)
noncomputable abbrev afind (rows : List NRow) (lo : Str) (js : List Int) : Option Str := js.findSome? fun j => (rows[j.toNat]?).bind fun q => if q.loc = lo ∧ q.uri = Str.ofString "" then some q.val else none
theorem afind_cons {rows : List NRow} {lo : Str} {js : List Int} {i : Nat} {j : Nat} {q : NRow} (hj : js[i]? = some (j : Int)) (hq : rows[j]? = some q) :
    afind rows lo (js.drop i) = if q.loc = lo ∧ q.uri = Str.ofString "" then some q.val else afind rows lo (js.drop (i + 1)) := by
  have hlt : i < js.length := (List.getElem?_eq_some_iff.mp hj).1
  have hv : js[i] = (j : Int) := (List.getElem?_eq_some_iff.mp hj).2
  rw [List.drop_eq_getElem_cons hlt, hv]
  simp only [afind, List.findSome?_cons, Int.toNat_natCast, hq, Option.bind_some]
  split <;> simp_all
theorem attr_of_con (prog : Program) (w : World) (news : List (Addr × Obj)) (Tr dt R : Addr) (vs : List Value) (rows : List NRow) (S : Addr → List Int) (TX : TreeIs news Tr dt R vs rows S) (i : Nat) (ti : Tok) (r : NRow) (hi : rows[i]? = some r)
    (lo : Str) (t2 : Tok) (res : Option Str) (hres : afind rows lo (S r.a) = res) (hin : ∀ j ∈ S r.a, ∃ (k : Nat) (q : NRow), j = (k : Int) ∧ rows[k]? = some q) :
    Con prog w 60 1500 172 [.ref Tr, .int (i : Int) ti, .str lo t2] news (fun v news' => OV res v ∧ ∀ p ∈ news, p ∈ news') := by
  unfold Con
  have h1 := TX.inst
  obtain ⟨hh, tk, h2⟩ := TX.dict
  (intro p loose mean mg mb dp un gd cn cs ad ccd cl outer A₀ base h₀ L m s Q E B F X N T hk hdp hu hret; refine wpAny_call ?_; k_dflt (refine' code_def ?k1 ?k2 ?k3 ?k4 ?k5 ?kA ?kF ?kK ?k6 ?k7 ?k8 ?k9 ?kB ?_ ?c2 ?c3 ?c4 ?c5; (case kA => exact rfl); (case kF => exact rfl); (case kK => assumption); (case k1 => k_asm); (case k2 => k_asm); (case k3 => k_asm); (case k4 => k_asm); (case k5 => k_asm); (case k6 => k_is); (case k7 => k_is); (case k8 => ktr_room); (case k9 => exact binds_K (by k_in) rfl (by k_is) rfl rfl rfl); (case c5 => decide); (case kB => exact locs rfl); (case c2 => exact rfl); (case c3 => exact rfl); (case c4 => exact rfl); k_whole; intro g' L' h' FG' F' N' B' X' T'; (try dsimp only); (try k_fold)); (refine env_let (t := fun e => execs _ e) ?_; intro ev Av); (with_reducible rename Fr _ _ _ (fun _ => _) => kF0; refine fr_let kF0 ?_; clear kF0; intro m0 kF0))
  (repeat ((fail_if_success (k_dflt (show wpAny _ _ (exec (.For _ _ _ _ _) _) _ _ _))); (first | (k_unfold; (try dsimp only)) | (k_end; wrow_close) | walk1 | (dsimp only; walk1) | fail "no step")))
  k_dflt (refine For_turns (by k_asm) ?_)
  (repeat ((fail_if_success (k_dflt (show wpAny _ _ (call (.ref 418) _) _ _ _))); (first | (k_unfold; (try dsimp only)) | (k_end; wrow_close) | walk1 | (dsimp only; walk1) | fail "no step"))); (try dsimp only [List.nil_append, List.cons_append])
  k_dflt (show wpAny _ _ (call (.ref 418) [.ref Tr, .int (i : Int) ti]) _ _ _)
  (k_dflt (refine' con_use (attributes_con _ _ _ Tr dt R vs rows S TX i _ r hi) ?uB ?uF ?uX ?uN ?uT ?uk ?ud ?uu ?_; (case uB => k_asm); (case uF => k_asm); (case uX => k_asm); (case uN => k_asm);  (case uT => k_asm); (case uk => first | exact rfl | assumption); (case ud => ktr_room); (case uu => ktr_units)); rintro r9 news9 h9 tk9 F9 N9 ⟨D, ys, k, rfl, r2, r3, rfl, lD⟩; (try dsimp only))
  rename News _ _ _ _ => kN; rename Fr _ _ _ _ => kF
  k_dflt (refine iter_listTurns (by rfl) kF kN List.mem_cons_self rfl rfl fun I hI => ?_)
  have TX2 := TX.mono (n2 := (D, lob ys k) :: news) (fun p hp => List.mem_cons_of_mem _ hp)
  refine items_ind (fun i0 m nws => nws = (D, lob ys k) :: news ∧ afind rows lo ((S r.a).drop i0) = res ∧ m (Str.ofString "tree") = some (.ref Tr) ∧ m (Str.ofString "local") = some (.str lo t2) ∧ ∃ t, m (Str.ofString "uri") = some (.str (Str.ofString "") t)) ys ?turn ?done ys 0 _ _ (Nat.zero_le _) rfl ⟨rfl, by simpa using hres, rfl, rfl, _, rfl⟩
  case turn =>
    clear kF kN
    rintro i0 v0 m0 nws h tk0 it hv0 zQ zH ⟨rfl, hfd, mtree, mlo, t9, mur⟩ F1 N1
    obtain ⟨j, tj, hj1, rfl⟩ := ints_get r2 hv0
    obtain ⟨k0, q, rfl, hq1⟩ := hin j (List.mem_of_getElem? hj1)
    rw [afind_cons hj1 hq1] at hfd
    have TX3 := TX2.mono (n2 := (I, it) :: (D, lob ys k) :: news) (fun p hp => List.mem_cons_of_mem _ hp)
    ((repeat ((fail_if_success (k_dflt (with_reducible show wpAny _ _ (execs _ _) _ _ _))); (first | (k_unfold; (try dsimp only)) | (k_end; wrow_close) | walk1 | (dsimp only; walk1) | fail "no step"))); (try k_fold))
    (repeat ((fail_if_success (k_dflt (show wpAny _ _ (call (.ref 390) _) _ _ _))); (first | (k_unfold; (try dsimp only)) | (k_end; wrow_close) | walk1 | (dsimp only; walk1) | fail "no step"))); (try dsimp only [List.nil_append, List.cons_append])
    k_dflt (show wpAny _ _ (call (.ref 390) [.ref Tr, .int (k0 : Int) _]) _ _ _)
    (k_dflt (refine' con_use (local_con _ _ _ Tr dt R vs rows S TX3 k0 _ q hq1) ?uB ?uF ?uX ?uN ?uT ?uk ?ud ?uu ?_; (case uB => k_asm); (case uF => k_asm); (case uX => k_asm); (case uN => k_asm);  (case uT => k_asm); (case uk => first | exact rfl | assumption); (case ud => ktr_room); (case uu => ktr_units)); rintro r9 news9 h9 tk9 F9 N9 ⟨⟨t10, rfl⟩, rfl⟩; (try dsimp only))
    iterate 4 (first | (k_unfold; (try dsimp only)) | (k_end; wrow_close) | walk1 | (dsimp only; walk1) | fail "no step")
    · with_reducible rename (q.loc == lo) = true => ha
      (repeat ((fail_if_success (k_dflt (show wpAny _ _ (call (.ref 383) _) _ _ _))); (first | (k_unfold; (try dsimp only)) | (k_end; wrow_close) | walk1 | (dsimp only; walk1) | fail "no step"))); (try dsimp only [List.nil_append, List.cons_append])
      k_dflt (show wpAny _ _ (call (.ref 383) [.ref Tr, .int (k0 : Int) _]) _ _ _)
      (k_dflt (refine' con_use (uri_con _ _ _ Tr dt R vs rows S TX3 k0 _ q hq1) ?uB ?uF ?uX ?uN ?uT ?uk ?ud ?uu ?_; (case uB => k_asm); (case uF => k_asm); (case uX => k_asm); (case uN => k_asm);  (case uT => k_asm); (case uk => first | exact rfl | assumption); (case ud => ktr_room); (case uu => ktr_units)); rintro r9 news9 h9 tk9 F9 N9 ⟨⟨t11, rfl⟩, rfl⟩; (try dsimp only))
      iterate 4 (first | (k_unfold; (try dsimp only)) | (k_end; wrow_close) | walk1 | (dsimp only; walk1) | fail "no step")
      · with_reducible rename (q.uri == _) = true => hb
        (repeat ((fail_if_success (k_dflt (show wpAny _ _ (call (.ref 397) _) _ _ _))); (first | (k_unfold; (try dsimp only)) | (k_end; wrow_close) | walk1 | (dsimp only; walk1) | fail "no step"))); (try dsimp only [List.nil_append, List.cons_append])
        k_dflt (show wpAny _ _ (call (.ref 397) [.ref Tr, .int (k0 : Int) _]) _ _ _)
        (k_dflt (refine' con_use (value_con _ _ _ Tr dt R vs rows S TX3 k0 _ q hq1) ?uB ?uF ?uX ?uN ?uT ?uk ?ud ?uu ?_; (case uB => k_asm); (case uF => k_asm); (case uX => k_asm); (case uN => k_asm);  (case uT => k_asm); (case uk => first | exact rfl | assumption); (case ud => ktr_room); (case uu => ktr_units)); rintro r9 news9 h9 tk9 F9 N9 ⟨⟨t12, rfl⟩, rfl⟩; (try dsimp only))
        (repeat' (first | (k_unfold; (try dsimp only)) | (k_end; wrow_close) | walk1 | (dsimp only; walk1) | fail "no step"))
        refine zH _ _ ?_
        dsimp only [UnrPostW]
        (repeat' (first | (k_unfold; (try dsimp only)) | (k_end; wrow_close) | walk1 | (dsimp only; walk1) | fail "no step"))
        (rename News _ _ _ _ => kN; rename Fr _ _ _ _ => kF; refine hret _ _ _ _ kF kN ?_)
        rw [if_pos ⟨beq_iff_eq.mp ha, beq_iff_eq.mp hb⟩] at hfd
        exact ⟨Or.inl ⟨_, _, hfd.symm, rfl⟩, fun p hp => by repeat (first | exact hp | apply List.mem_cons_of_mem)⟩
      · with_reducible rename (q.uri == _) = false => hb
        rw [if_neg (fun z => beq_eq_false_iff_ne.mp hb z.2)] at hfd
        (repeat' (first | (k_unfold; (try dsimp only)) | (k_end; wrow_close) | walk1 | (dsimp only; walk1) | fail "no step"))
        rename News _ _ _ _ => kN; rename Fr _ _ _ _ => kF
        refine zH _ _ ?_; refine unrEnd_sub _ kF kN (fun p hp => hp) (fun p hp => Nat.ne_of_lt (hI p hp)) ⟨⟨List.mem_cons_self, trivial⟩, rfl, hfd, by walk_at "mine name", by walk_at "mine name", _, by walk_at "mine name"⟩
    · with_reducible rename (q.loc == lo) = false => ha
      rw [if_neg (fun z => beq_eq_false_iff_ne.mp ha z.1)] at hfd
      (repeat' (first | (k_unfold; (try dsimp only)) | (k_end; wrow_close) | walk1 | (dsimp only; walk1) | fail "no step"))
      rename News _ _ _ _ => kN; rename Fr _ _ _ _ => kF
      refine zH _ _ ?_; refine unrEnd_sub _ kF kN (fun p hp => hp) (fun p hp => Nat.ne_of_lt (hI p hp)) ⟨⟨List.mem_cons_self, trivial⟩, rfl, hfd, by walk_at "mine name", by walk_at "mine name", _, by walk_at "mine name"⟩
  case done =>
    rintro m0 nws ⟨rfl, hfd, mtree, mlo, t9, mur⟩ h tk0 F1 N1
    rw [r2.length, List.drop_length] at hfd
    subst hfd
    clear kF kN
    (repeat' (first | (k_unfold; (try dsimp only)) | (k_end; wrow_close) | walk1 | (dsimp only; walk1) | fail "no step"))
    (rename News _ _ _ _ => kN; rename Fr _ _ _ _ => kF; refine hret _ _ _ _ kF kN ?_)
    exact ⟨Or.inr ⟨rfl, rfl⟩, fun p hp => List.mem_cons_of_mem _ hp⟩
end
section
noncomputable def ConX (prog : Program) (w : World) (d u : Nat) (f : Addr) (args : List Value) (news : List (Addr × Obj)) : Prop :=
  ∀ (p : Program) (loose : List Str) (mean : ExcName → Option Value) (mg mb : Str → Option Value)
    (dp un : Nat) (gd : Option (List Code)) (cn : Str) (cs : Scope) (a : Addr) (ccd : Value) (cl : List (Str × Addr)) (outer : List Env) (A₀ : Around) (base h₀ : Heap) (L : Addr) (m : Str → Option Value) (s : Shared)
    (Q E : Value → Shared → Prop),
    Below A₀ base outer h₀ → Fr h₀ L s.heap m → (hd.heap_39 w.params).In h₀ → News h₀ L s.heap news → Top p loose mean mg mb h₀ → cs.kind = .function → dp + d < recursionLimit → un + u < cLine →
    (∀ e h' tk' G news', Fr h₀ L G m → RaisedSN base G (envX cn cs L a ccd cl :: outer) e (.ref 75) news' h' → G.UpToSlots h' → (∀ p ∈ news, p ∈ news') → E (.ref e) { s with heap := h', toks := tk' }) →
    wpAny (model prog w) (ktrTop dp un gd cn cs L a ccd cl outer) (call (.ref f) args) Q E s
theorem conX_use {prog : Program} {w : World} {d u : Nat} {f : Addr} {args : List Value} {news : List (Addr × Obj)} {p : Program} {loose : List Str} {mean : ExcName → Option Value} {mg mb : Str → Option Value}
    {dp un : Nat} {gd : Option (List Code)} {cn : Str} {cs : Scope} {a : Addr} {ccd : Value} {cl : List (Str × Addr)} {outer : List Env} {A₀ : Around} {base h₀ : Heap} {L : Addr} {m : Str → Option Value} {s : Shared}
    {Q E : Value → Shared → Prop} (C : ConX prog w d u f args news)
    (B : Below A₀ base outer h₀) (F : Fr h₀ L s.heap m) (X : (hd.heap_39 w.params).In h₀) (N : News h₀ L s.heap news) (T : Top p loose mean mg mb h₀) (hk : cs.kind = .function) (hd : dp + d < recursionLimit) (hu : un + u < cLine)
    (ret : ∀ e h' tk' G news', Fr h₀ L G m → RaisedSN base G (envX cn cs L a ccd cl :: outer) e (.ref 75) news' h' → G.UpToSlots h' → (∀ p ∈ news, p ∈ news') → E (.ref e) { s with heap := h', toks := tk' }) :
    wpAny (model prog w) (ktrTop dp un gd cn cs L a ccd cl outer) (call (.ref f) args) Q E s :=
  C p loose mean mg mb dp un gd cn cs a ccd cl outer A₀ base h₀ L m s Q E B F X N T hk hd hu ret
section
variable {M : Model} {A : Around} {E : Value → Shared → Prop} {s' : Shared} {base g g₂ h : Heap} {outer : List Env} {L a e : Addr} {m : Str → Option Value} {name : Str} {scope : Scope} {cd : Value} {cl : List (Str × Addr)} {Q : Unit → Shared → Prop} {news : List (Addr × Obj)}
theorem leave_onX {cls : Value} (K : Below A base outer g) (F : Fr g L g₂ m) (R : RaisedSN base g₂ (envX name scope L a cd cl :: outer) e cls news s'.heap) (hsm : g₂.UpToSlots s'.heap)
    (hQ : ∀ h', RaisedSN base g outer e cls news h' → g.UpToSlots h' → Q () { s' with heap := h' }) :
    wpAny M (A.deeper (envX name scope L a cd cl)) (leaving (envX name scope L a cd cl) (.ref e)) Q E s' := by
  obtain ⟨B, a0, hB, hBG, hl, hfl⟩ := R
  exact wpAny_leaves_onW (Around.frames_deeper K.stack) rfl hfl fun h' x1 x2 =>
    hQ h' ⟨B, a0, hB, fun b o q nm => hBG b o (F.keep b o q) (fun hm => by
      rcases kts_mem (name := name) (scope := scope) (a := a) (cd := cd) hm with z | z
      · rw [z, kts_self F] at q
        cases q
      · exact nm z), fun q hq => ⟨(hl q hq).1, kts_none F.keep (hl q hq).2.1, (hl q hq).2.2⟩, x1⟩ ((Heap.UpToSlots.of_keeps F.keep).trans (hsm.trans x2))
end
theorem needed_some (prog : Program) (w : World) (news : List (Addr × Obj)) (Tr dt R : Addr) (vs : List Value) (rows : List NRow) (S : Addr → List Int) (TX : TreeIs news Tr dt R vs rows S) (i : Nat) (ti : Tok) (r : NRow) (hi : rows[i]? = some r)
    (lo : Str) (t2 : Tok) (u : Str) (hres : afind rows lo (S r.a) = some u) (hin : ∀ j ∈ S r.a, ∃ (k : Nat) (q : NRow), j = (k : Int) ∧ rows[k]? = some q) :
    Con prog w 70 1700 179 [.ref Tr, .int (i : Int) ti, .str lo t2] news (fun v news' => (∃ t, v = .str u t) ∧ ∀ p ∈ news, p ∈ news') := by
  unfold Con
  (intro p loose mean mg mb dp un gd cn cs ad ccd cl outer A₀ base h₀ L m s Q E B F X N T hk hdp hu hret; refine wpAny_call ?_; k_dflt ktr_enter; (refine env_let (t := fun e => execs _ e) ?_; intro ev Av); (with_reducible rename Fr _ _ _ (fun _ => _) => kF0; refine fr_let kF0 ?_; clear kF0; intro m0 kF0))
  (repeat ((fail_if_success (k_dflt (show wpAny _ _ (call (.ref 172) _) _ _ _))); (first | (k_unfold; (try dsimp only)) | (k_end; wrow_close) | walk1 | (dsimp only; walk1) | fail "no step"))); (try dsimp only [List.nil_append, List.cons_append])
  k_dflt (show wpAny _ _ (call (.ref 172) [.ref Tr, .int (i : Int) ti, .str lo t2]) _ _ _)
  (k_dflt (refine' con_use (attr_of_con _ _ _ Tr dt R vs rows S TX i _ r hi lo t2 _ hres hin) ?uB ?uF ?uX ?uN ?uT ?uk ?ud ?uu ?_; (case uB => k_asm); (case uF => k_asm); (case uX => k_asm); (case uN => k_asm);  (case uT => k_asm); (case uk => first | exact rfl | assumption); (case ud => ktr_room); (case uu => ktr_units)); rintro r9 news9 h9 tk9 F9 N9 ⟨hov, hs9⟩; (try dsimp only))
  rcases hov with ⟨u', t9, hu', rfl⟩ | ⟨hu', -⟩
  · cases hu'
    (repeat' (first | (k_unfold; (try dsimp only)) | (k_end; wrow_close) | walk1 | (dsimp only; walk1) | fail "no step"))
    (rename News _ _ _ _ => kN; rename Fr _ _ _ _ => kF; refine hret _ _ _ _ kF kN ?_)
    exact ⟨⟨_, rfl⟩, hs9⟩
  · cases hu'
theorem needed_none (prog : Program) (w : World) (news : List (Addr × Obj)) (Tr dt R : Addr) (vs : List Value) (rows : List NRow) (S : Addr → List Int) (TX : TreeIs news Tr dt R vs rows S) (i : Nat) (ti : Tok) (r : NRow) (hi : rows[i]? = some r)
    (hnl : r.name.length ≤ 100) (lo : Str) (t2 : Tok) (hlo : lo.length ≤ 100) (hres : afind rows lo (S r.a) = none) (hin : ∀ j ∈ S r.a, ∃ (k : Nat) (q : NRow), j = (k : Int) ∧ rows[k]? = some q) :
    ConX prog w 70 1700 179 [.ref Tr, .int (i : Int) ti, .str lo t2] news := by
  unfold ConX
  have h1 := TX.inst
  obtain ⟨hh, tk, h2⟩ := TX.dict
  (intro p loose mean mg mb dp un gd cn cs ad ccd cl outer A₀ base h₀ L m s Q E B F X N T hk hdp hu hret; refine wpAny_call ?_; k_dflt ktr_enter; (refine env_let (t := fun e => execs _ e) ?_; intro ev Av); (with_reducible rename Fr _ _ _ (fun _ => _) => kF0; refine fr_let kF0 ?_; clear kF0; intro m0 kF0))
  (repeat ((fail_if_success (k_dflt (show wpAny _ _ (call (.ref 172) _) _ _ _))); (first | (k_unfold; (try dsimp only)) | (k_end; wrow_close) | walk1 | (dsimp only; walk1) | fail "no step"))); (try dsimp only [List.nil_append, List.cons_append])
  k_dflt (show wpAny _ _ (call (.ref 172) [.ref Tr, .int (i : Int) ti, .str lo t2]) _ _ _)
  (k_dflt (refine' con_use (attr_of_con _ _ _ Tr dt R vs rows S TX i _ r hi lo t2 _ hres hin) ?uB ?uF ?uX ?uN ?uT ?uk ?ud ?uu ?_; (case uB => k_asm); (case uF => k_asm); (case uX => k_asm); (case uN => k_asm);  (case uT => k_asm); (case uk => first | exact rfl | assumption); (case ud => ktr_room); (case uu => ktr_units)); rintro r9 news9 h9 tk9 F9 N9 ⟨hov, hs9⟩; (try dsimp only))
  rcases hov with ⟨u', t9, hu', rfl⟩ | ⟨-, rfl⟩
  · cases hu'
  have h1' := hs9 _ h1
  have h2' := hs9 _ h2
  (repeat ((fail_if_success (k_dflt (with_reducible show wpAny _ _ (exec (.Raise _ _ _) _) _ _ _))); (first | (k_unfold; (try dsimp only)) | (k_end; wrow_close) | walk1 | (dsimp only; walk1) | fail "no step")))
  k_dflt (refine RaiseE (obj75 w) (by rfl) ?_)
  have TX9 := TX.mono hs9
  (repeat ((fail_if_success (k_dflt (show wpAny _ _ (call (.ref 376) _) _ _ _))); (first | (k_unfold; (try dsimp only)) | (k_end; wrow_close) | walk1 | (dsimp only; walk1) | fail "no step"))); (try dsimp only [List.nil_append, List.cons_append])
  k_dflt (show wpAny _ _ (call (.ref 376) [.ref Tr, .int (i : Int) ti]) _ _ _)
  (k_dflt (refine' con_use (name_con _ _ _ Tr dt R vs rows S TX9 i _ r hi) ?uB ?uF ?uX ?uN ?uT ?uk ?ud ?uu ?_; (case uB => k_asm); (case uF => k_asm); (case uX => k_asm); (case uN => k_asm);  (case uT => k_asm); (case uk => first | exact rfl | assumption); (case ud => ktr_room); (case uu => ktr_units)); rintro r9 news9 h9 tk9 F9 N9 ⟨⟨t10, rfl⟩, rfl⟩; (try dsimp only))
  (repeat ((fail_if_success (k_dflt (with_reducible show wpAny _ _ (binaryOp _ _ _) _ _ _))); (first | (k_unfold; (try dsimp only)) | (k_end; wrow_close) | walk1 | (dsimp only; walk1) | fail "no step")))
  k_dflt (refine PyProof.Rows.add_str (fun t' tk => ?_) (Nat.le_trans (Nat.add_le_add hnl (Nat.le_refl _)) (by decide +kernel)))
  (first | (k_unfold; (try dsimp only)) | (k_end; wrow_close) | walk1 | (dsimp only; walk1) | fail "no step")
  k_dflt (refine PyProof.Rows.add_str (fun t' tk => ?_) (Nat.le_trans (Nat.add_le_add (Nat.le_of_eq (Str.length_append _ _)) hlo) (Nat.le_trans (Nat.add_le_add (Nat.add_le_add hnl (Nat.le_refl _)) (Nat.le_refl _)) (by decide +kernel))))
  (repeat ((fail_if_success (k_dflt (show wpAny _ _ (call (.ref 75) _) _ _ _))); (first | (k_unfold; (try dsimp only)) | (k_end; wrow_close) | walk1 | (dsimp only; walk1) | fail "no step"))); (try dsimp only [List.nil_append, List.cons_append])
  (k_dflt (refine' con_use (fault_con _ _ _ _ _) ?uB ?uF ?uX ?uN ?uT ?uk ?ud ?uu ?_; (case uB => k_asm); (case uF => k_asm); (case uX => k_asm); (case uN => k_asm);  (case uT => k_asm); (case uk => first | exact rfl | assumption); (case ud => ktr_room); (case uu => ktr_units)); rintro r9 news9 h9 tk9 F9 N9 ⟨e, t8, dx, rfl, rfl, he9⟩; (try dsimp only))
  rename News _ _ _ _ => kN; rename Fr _ _ _ _ => kF
  rename Below _ _ _ _ => kB; rename Fr h₀ L _ _ => kFG; rename Frag.In _ _ => kX
  refine ⟨e, t8, some dx, rfl, kX.keeps kF.keep, kN.get List.mem_cons_self, ?_⟩
  exact leave_ownS kB kF kN (fun p hp => Nat.ne_of_lt (he9 p hp)) (fun h' R up => hret e h' _ _ news9 kFG R up hs9)
end
section
inductive Up (rows : List NRow) : Option Nat → List Nat → Prop
  | nil : Up rows none []
  | cons {i : Nat} {r : NRow} {l : List Nat} : rows[i]? = some r → Up rows r.par l → Up rows (some i) (i :: l)
theorem lines_con (prog : Program) (w : World) (news : List (Addr × Obj)) (Tr dt R : Addr) (vs : List Value) (rows : List NRow) (S : Addr → List Int) (TX : TreeIs news Tr dt R vs rows S) (i : Nat) (ti : Tok) (l : List Nat) (hup : Up rows (some i) l) (hl : l.length ≤ 60) :
    Con prog w 60 1500 157 [.ref Tr, .int (i : Int) ti] news (fun v news' => ∃ D ys k, v = .ref D ∧ IntsAre ys (l.reverse.map (fun j : Nat => (j : Int))) ∧ (D, lob ys k) ∈ news' ∧ ∀ p ∈ news, p ∈ news') := by
  unfold Con
  have h1 := TX.inst
  obtain ⟨hh, tk, h2⟩ := TX.dict
  (intro p loose mean mg mb dp un gd cn cs ad ccd cl outer A₀ base h₀ L m s Q E B F X N T hk hdp hu hret; refine wpAny_call ?_; k_dflt ktr_enter; (refine env_let (t := fun e => execs _ e) ?_; intro ev Av); (with_reducible rename Fr _ _ _ (fun _ => _) => kF0; refine fr_let kF0 ?_; clear kF0; intro m0 kF0))
  (repeat ((fail_if_success (k_dflt (with_reducible show wpAny _ _ (exec (.While _ _ _ _) _) _ _ _))); (first | (k_unfold; (try dsimp only)) | (k_end; wrow_close) | walk1 | (dsimp only; walk1) | fail "no step")))
  rename News _ _ _ _ => kN; rename Fr _ _ _ _ => kF
  have hlt9 := ‹∀ p ∈ news, p.1 < _›
  k_dflt (refine While_inv (fun n m nws => ∃ (D : Addr) (xs : List Value) (k : Nat) (cur : Option Nat) (done rest : List Nat) (t : Tok), (∀ p ∈ news, p ∈ nws) ∧ (∀ p ∈ news, p.1 ≠ D) ∧ (D, lob xs k) ∈ nws ∧ IntsAre xs (done.map (fun j : Nat => (j : Int))) ∧ Up rows cur rest ∧ l = done ++ rest ∧ n = rest.length ∧ m (Str.ofString "found") = some (.ref D) ∧ m (Str.ofString "node") = some (pv t cur) ∧ m (Str.ofString "tree") = some (.ref Tr)) kF kN ⟨_, [], _, some i, [], l, ti, fun p hp => List.mem_cons_of_mem _ hp, fun p hp => Nat.ne_of_lt (hlt9 p hp), List.mem_cons_self, .nil, hup, rfl, rfl, rfl, rfl, rfl⟩ ?_)
  clear kF kN
  rintro n m1 nws hp1 tk1 F1 N1 ⟨D, xs, k, cur, done, rest, t, hs, hnD, hD, hI, hU, hl2, rfl, mf, mn, mt⟩
  have h1' := hs _ h1
  have h2' := hs _ h2
  have TX1 := TX.mono hs
  cases hU with
  | nil =>
    rw [List.append_nil] at hl2
    subst hl2
    dsimp only [pv] at mn
    (repeat' (first | (k_unfold; (try dsimp only)) | (k_end; wrow_close) | walk1 | (dsimp only; walk1) | fail "no step"))
    (rename News _ _ _ _ => kN; rename Fr _ _ _ _ => kF; refine hret _ _ _ _ kF kN ?_)
    with_reducible rename IntsAre _ (List.reverse _) => hI9
    exact ⟨_, _, _, rfl, by rw [List.map_reverse]; exact hI9, List.mem_cons_self, fun p hp => List.mem_cons_of_mem _ (hs p hp)⟩
  | cons hri hU' =>
    rename_i j rj rest
    dsimp only [pv] at mn
    have hxl : xs.length ≤ 60 := by
      have z := hI.length
      rw [List.length_map] at z
      rw [hl2, List.length_append] at hl
      omega
    (repeat ((fail_if_success (k_dflt (with_reducible show wpAny _ _ (call (.builtin _) _) _ _ _))); (first | (k_unfold; (try dsimp only)) | (k_end; wrow_close) | walk1 | (dsimp only; walk1) | fail "no step")))
    rename News _ _ _ _ => kN
    k_dflt (refine ls_append (by k_asm) kN hD (by rw [sizeLine_eq]; omega) ?_)
    intro h8 rest8 F8 N8 hup8
    clear kN
    have g1 := hup8 _ h1' (hnD _ h1)
    have g2 := hup8 _ h2' (hnD _ h2)
    have TX2 := TX.mono (n2 := (D, lob (xs ++ [.int (j : Int) t]) (k + 1)) :: rest8) (fun p hp => List.mem_cons_of_mem _ (hup8 p (hs p hp) (hnD p hp)))
    (repeat ((fail_if_success (k_dflt (show wpAny _ _ (call (.ref 404) _) _ _ _))); (first | (k_unfold; (try dsimp only)) | (k_end; wrow_close) | walk1 | (dsimp only; walk1) | fail "no step"))); (try dsimp only [List.nil_append, List.cons_append])
    k_dflt (show wpAny _ _ (call (.ref 404) [.ref Tr, .int (j : Int) t]) _ _ _)
    (k_dflt (refine' con_use (parent_con _ _ _ Tr dt R vs rows S TX2 j _ _ hri) ?uB ?uF ?uX ?uN ?uT ?uk ?ud ?uu ?_; (case uB => k_asm); (case uF => k_asm); (case uX => k_asm); (case uN => k_asm);  (case uT => k_asm); (case uk => first | exact rfl | assumption); (case ud => ktr_room); (case uu => ktr_units)); rintro r9 news9 h9 tk9 F9 N9 ⟨⟨t10, rfl⟩, rfl⟩; (try dsimp only))
    (repeat' (first | (k_unfold; (try dsimp only)) | (k_end; wrow_close) | walk1 | (dsimp only; walk1) | fail "no step"))
    rename News _ _ _ _ => kN; rename Fr _ _ _ _ => kF
    refine WhileStep.intro kF kN (Nat.lt_succ_self rest.length) ⟨D, _, _, rj.par, done ++ [j], rest, t10, fun p hp => List.mem_cons_of_mem _ (hup8 p (hs p hp) (hnD p hp)), hnD, List.mem_cons_self, ?_, hU', by rw [hl2, List.append_assoc]; rfl, rfl, by walk_at "mine name", by walk_at "mine name", by walk_at "mine name"⟩
    rw [List.map_append]
    exact ints_snoc hI
end
section
section
open PyProof.V
structure ScopeD (prog : Program) (w : World) (news : List (Addr × Obj)) (D : Addr) (f : Str → Option Str) (n : Nat) : Prop where
  lo : (D == sysModules) = false
  ex : ∃ (o : Obj) (kvs : List (Str × Value)) (DD : List (PyData × PyData)), (D, o) ∈ news ∧ o.IsDictOf (strKind prog w) kvs ∧ PyProof.V.FlatPairs PyData.str kvs DD ∧ DD.length ≤ n ∧ ∀ k, PySem.Spec.lookup (.str k) DD = (f k).map PyData.str
noncomputable abbrev sput (f : Str → Option Str) (k : Str) (v : Option Str) : Str → Option Str := fun x => if x = k then v else f x
theorem ScopeD.mono {prog : Program} {w : World} {n1 n2 : List (Addr × Obj)} {D : Addr} {f : Str → Option Str} {n : Nat} (hs : ∀ o, (D, o) ∈ n1 → (D, o) ∈ n2) (Z : ScopeD prog w n1 D f n) : ScopeD prog w n2 D f n :=
  ⟨Z.lo, by obtain ⟨o, kvs, DD, a, b⟩ := Z.ex; exact ⟨o, kvs, DD, hs _ a, b⟩⟩
theorem flat_str {v : Value} {x : Str} (h : PyProof.V.Flat v (.str x)) : ∃ t, v = .str x t := by
  have := h { objs := #[] }
  cases this with
  | str x t => exact ⟨t, rfl⟩
theorem lookup_del (k n : Str) : ∀ D : List (PyData × PyData), PySem.Spec.lookup (.str k) (PyProof.V.delD (.str n) D) = if k = n then none else PySem.Spec.lookup (.str k) D := by
  intro D
  induction D with
  | nil => simp [PyProof.V.delD, PySem.Spec.lookup]
  | cons p r ih =>
    obtain ⟨a, b⟩ := p
    simp only [PyProof.V.delD, List.filter_cons] at ih ⊢
    by_cases hs : PySem.Spec.same a (.str n) = true
    · simp only [hs, Bool.not_true, Bool.false_eq_true, if_false]
      rw [ih]
      by_cases hk : k = n
      · simp [hk]
      · rw [if_neg hk, if_neg hk]
        simp only [PySem.Spec.lookup]
        rw [if_neg]
        intro q
        cases a <;> simp [PySem.Spec.same] at hs q
        exact hk (q.symm.trans hs)
    · simp only [hs, Bool.not_false, if_true, PySem.Spec.lookup]
      rw [ih]
      by_cases hk : k = n
      · subst hk
        simp [hs]
      · rw [if_neg hk]
        simp [hk]
section
variable {prog : Program} {w : World} {A : Around} {E : Value → Shared → Prop} {s : Shared} {h₀ : Heap} {L D : Addr} {m : Str → Option Value} {news : List (Addr × Obj)} {f : Str → Option Str} {n : Nat} {k u : Str} {t tu : Tok}
theorem ScopeD.tab (Z : ScopeD prog w news D f n) (N : News h₀ L s.heap news) : ∃ DD, TabAt (strKind prog w) PyData.str s.heap D DD ∧ DD.length ≤ n ∧ ∀ k, PySem.Spec.lookup (.str k) DD = (f k).map PyData.str :=
  by obtain ⟨_, kvs, DD, a, b, c, d, e⟩ := Z.ex; exact ⟨DD, ⟨Z.lo, kvs, Heap.dictOf_iff.mpr ⟨_, N.get a, b⟩, c⟩, d, e⟩
theorem sc_in {Q : Value → Shared → Prop} (N : News h₀ L s.heap news) (Z : ScopeD prog w news D f n) (h : Q (.bool (f k).isSome) { s with toks := s.toks + 1 }) : wpAny (model prog w) A (compareOp .In (.str k t) (.ref D)) Q E s := by
  obtain ⟨DD, T, -, hl⟩ := Z.tab N
  refine in_strTab T ?_
  rw [hl, Option.isSome_map]
  exact h
theorem sc_in' {b : Bool} {Q : Value → Shared → Prop} (N : News h₀ L s.heap news) (Z : ScopeD prog w news D f n) (hb : (f k).isSome = b) (h : Q (.bool b) { s with toks := s.toks + 1 }) : wpAny (model prog w) A (compareOp .In (.str k t) (.ref D)) Q E s :=
  sc_in N Z (hb ▸ h)
theorem sc_notin' {b : Bool} {Q : Value → Shared → Prop} (N : News h₀ L s.heap news) (Z : ScopeD prog w news D f n) (hb : (f k).isSome = b) (h : Q (.bool (!b)) { s with toks := s.toks + 1 }) : wpAny (model prog w) A (compareOp .NotIn (.str k t) (.ref D)) Q E s := by
  obtain ⟨DD, T, -, hl⟩ := Z.tab N
  refine notin_strTab T ?_
  rw [hl, Option.isSome_map, hb]
  exact h
theorem sc_notin {Q : Value → Shared → Prop} (N : News h₀ L s.heap news) (Z : ScopeD prog w news D f n) (h : Q (.bool (!(f k).isSome)) { s with toks := s.toks + 1 }) : wpAny (model prog w) A (compareOp .NotIn (.str k t) (.ref D)) Q E s := by
  obtain ⟨DD, T, -, hl⟩ := Z.tab N
  refine notin_strTab T ?_
  rw [hl, Option.isSome_map]
  exact h
theorem sc_get {value slice : Expr} {Q : Value → Shared → Prop} (N : News h₀ L s.heap news) (Z : ScopeD prog w news D f n) (hf : f k = some u) (h : ∀ tu, Q (.str u tu) { s with toks := s.toks + 1 })
    (hs : subscripted slice false (.ref D) (.str k t) = operate [.ref D, .str k t] (getItem (.ref D) (.str k t)) := by with_unfolding_all rfl) (hg : ∀ r, letTemporaryGo value (.ref D) r = pure () := by intro _; with_unfolding_all rfl) :
    wpAny (model prog w) A (subscriptTail value slice (.ref D) (.str k t)) Q E s := by
  obtain ⟨DD, T, -, hl⟩ := Z.tab N
  refine item_strTab T (dv := .str u) (by rw [hl, hf]; rfl) (fun v hv => ?_) hs hg
  obtain ⟨tu, rfl⟩ := flat_str hv
  exact h tu
theorem sc_set {Q : Unit → Shared → Prop} (F : Fr h₀ L s.heap m) (N : News h₀ L s.heap news) (Z : ScopeD prog w news D f n) (hn : n ≤ 1000)
    (h : ∀ h' o' rest, Fr h₀ L h' m → News h₀ L h' ((D, o') :: rest) → (∀ p ∈ rest, p.1 ≠ D) → (∀ p ∈ news, p.1 ≠ D → p ∈ rest) → ScopeD prog w ((D, o') :: rest) D (sput f k (some u)) (n + 1) → Q () { s with heap := h', toks := s.toks + 1 }) :
    wpAny (model prog w) A (setItem (.ref D) (.str k t) (.str u tu)) Q E s := by
  obtain ⟨o, kvs, DD, a, b, c, d, e⟩ := Z.ex
  obtain ⟨rest, N1, hne, hup, -⟩ := News.focus N a
  refine setItem_K (enc := PyData.str) PyProof.V.same_str (strKind_is _ _ _ _) (PyProof.V.Flat.str u tu) F N1 (UpdF.head hne) b c (fun h' o' F' N' hd' hf' => h h' o' rest F' N' hne hup ⟨Z.lo, o', _, _, List.mem_cons_self, hd', hf', Nat.le_trans (PyProof.V.putD_length_le _ _ _) (Nat.succ_le_succ d), fun x => ?_⟩) (Nat.le_trans d (Nat.le_trans hn (by rw [sizeLine_eq]; decide)))
  rw [lookup_putD_str, e, sput]
  split <;> rfl
theorem sc_pop {more : List Value} {Q : Value → Shared → Prop} (hmore : more = [] ∨ ∃ x, more = [x]) (hargs : argsOk "dict.pop" ⟨.ref D :: .str k t :: more, []⟩) (F : Fr h₀ L s.heap m) (N : News h₀ L s.heap news) (Z : ScopeD prog w news D f n) (hn : n ≤ 1000) (hf : f k = some u)
    (h : ∀ h' o' rest tu, Fr h₀ L h' m → News h₀ L h' ((D, o') :: rest) → (∀ p ∈ rest, p.1 ≠ D) → (∀ p ∈ news, p.1 ≠ D → p ∈ rest) → ScopeD prog w ((D, o') :: rest) D (sput f k none) n → Q (.str u tu) { s with heap := h', toks := s.toks + 1 }) :
    wpAny (model prog w) A (call (.builtin "dict.pop") (.ref D :: .str k t :: more)) Q E s := by
  obtain ⟨o, kvs, DD, a, b, c, d, e⟩ := Z.ex
  obtain ⟨rest, N1, hne, hup, -⟩ := News.focus N a
  refine kt_pop_K (enc := PyData.str) (dv := .str u) PyProof.V.same_str (strKind_is _ _ _ _) hmore (by rfl) hargs F N1 (UpdF.head hne) b c (by rw [e, hf]; rfl) (fun h' o' v hv F' N' hd' hf' => ?_) (Nat.le_trans d (Nat.le_trans hn (by rw [sizeLine_eq]; decide)))
  obtain ⟨tu, rfl⟩ := flat_str hv
  refine h h' o' rest tu F' N' hne hup ⟨Z.lo, o', _, _, List.mem_cons_self, hd', hf', Nat.le_trans (length_delD_le _ _) d, fun x => ?_⟩
  rw [lookup_del, e, sput]
  split <;> rfl
theorem sc_pop0 {dflt : Value} {Q : Value → Shared → Prop} (N : News h₀ L s.heap news) (Z : ScopeD prog w news D f n) (hf : f k = none) (hargs : argsOk "dict.pop" ⟨[.ref D, .str k t, dflt], []⟩)
    (h : Q dflt { s with toks := s.toks + 1 }) : wpAny (model prog w) A (call (.builtin "dict.pop") [.ref D, .str k t, dflt]) Q E s := by
  obtain ⟨DD, T, -, hl⟩ := Z.tab N
  exact kt_pop_default PyProof.V.same_str (strKind_is _ _ _ _) (by rfl) T hargs (by rw [hl, hf]; rfl) h
theorem sc_copy {Q : Value → Shared → Prop} (F : Fr h₀ L s.heap m) (N : News h₀ L s.heap news) (hbig : h₀.NoLimit) (Z : ScopeD prog w news D f n) (hn : n ≤ 1000)
    (h : ∀ D' h' o', Fr h₀ L h' m → News h₀ L h' ((D', o') :: news) → (∀ p ∈ news, p.1 < D') → ScopeD prog w ((D', o') :: news) D' f n → Q (.ref D') { s with heap := h' }) :
    wpAny (model prog w) A (call (.type "dict") [.ref D]) Q E s := by
  obtain ⟨DD, T, d, hl⟩ := Z.tab N
  refine kt_dict_of F N (modules_low hbig) T (Nat.le_trans d (Nat.le_trans hn (by rw [sizeLine_eq]; decide))) (fun h' o kvs F' N' lo hd hf hne => h _ h' o F' N' (fun p hp => Heap.lt_size (N p hp).1) ⟨lo, o, kvs, DD, List.mem_cons_self, hd, hf, d, hl⟩)
theorem sc_method {name : Str} {id : String} {pl : Sem Bool} {Q : Value × List Value → Shared → Prop} (slot : Slot "dict" name id) (ty : typeOf (.builtin id) = pure (.type "method_descriptor")) (N : News h₀ L s.heap news) (Z : ScopeD prog w news D f n) (h : Q (.builtin id, [.ref D]) s) :
    wpAny (model prog w) A (getMethod (.ref D) name pl) Q E s :=
  by obtain ⟨_, _, _, a, b, _⟩ := Z.ex; exact kob_method slot ty N a b h
theorem sc_update {more : Addr} {Q : Value → Shared → Prop} (F : Fr h₀ L s.heap m) (N : News h₀ L s.heap news) (Z : ScopeD prog w news D f n) (hn : n ≤ 1000) (hne0 : D ≠ more) (T2 : TabAt (strKind prog w) PyData.str s.heap more [(.str k, .str u)])
    (h : ∀ h' o' rest, Fr h₀ L h' m → News h₀ L h' ((D, o') :: rest) → (∀ p ∈ rest, p.1 ≠ D) → (∀ p ∈ news, p.1 ≠ D → p ∈ rest) → ScopeD prog w ((D, o') :: rest) D (sput f k (some u)) (n + 1) → Q .none { s with heap := h' }) :
    wpAny (model prog w) A (call (.builtin "dict.update") [.ref D, .ref more]) Q E s := by
  obtain ⟨o, kvs, DD, a, b, c, d, e⟩ := Z.ex
  obtain ⟨rest, N1, hne, hup, -⟩ := News.focus N a
  refine kt_update_K (enc := PyData.str) (D₂ := [(.str k, .str u)]) PyProof.V.same_str F N1 (UpdF.head hne) b c T2 hne0 (fun h' o' kvs' F' N' hd' hf' => h h' o' rest F' N' hne hup ⟨Z.lo, o', _, _, List.mem_cons_self, hd', hf', Nat.le_trans (PyProof.V.putD_length_le _ _ _) (Nat.succ_le_succ d), fun x => ?_⟩) (Nat.le_trans (Nat.add_le_add d (Nat.le_refl _)) (Nat.le_trans (Nat.add_le_add hn (Nat.le_refl 1)) (by rw [sizeLine_eq]; decide)))
  show PySem.Spec.lookup (.str x) (PyProof.V.putD (.str k) (.str u) DD) = _
  rw [lookup_putD_str, e, sput]
  split <;> rfl
theorem sc_update0 {more : Addr} {Q : Value → Shared → Prop} (F : Fr h₀ L s.heap m) (N : News h₀ L s.heap news) (Z : ScopeD prog w news D f n) (hn : n ≤ 1000) (hne0 : D ≠ more) (T2 : TabAt (strKind prog w) PyData.str s.heap more [])
    (h : ∀ h' o' rest, Fr h₀ L h' m → News h₀ L h' ((D, o') :: rest) → (∀ p ∈ rest, p.1 ≠ D) → (∀ p ∈ news, p.1 ≠ D → p ∈ rest) → ScopeD prog w ((D, o') :: rest) D f n → Q .none { s with heap := h' }) :
    wpAny (model prog w) A (call (.builtin "dict.update") [.ref D, .ref more]) Q E s := by
  obtain ⟨o, kvs, DD, a, b, c, d, e⟩ := Z.ex
  obtain ⟨rest, N1, hne, hup, -⟩ := News.focus N a
  exact kt_update_K (enc := PyData.str) (D₂ := []) PyProof.V.same_str F N1 (UpdF.head hne) b c T2 hne0 (fun h' o' kvs' F' N' hd' hf' => h h' o' rest F' N' hne hup ⟨Z.lo, o', _, _, List.mem_cons_self, hd', hf', d, e⟩) (Nat.le_trans (Nat.add_le_add d (Nat.le_refl _)) (Nat.le_trans (Nat.add_le_add hn (Nat.le_refl 0)) (by rw [sizeLine_eq]; decide)))
end
end
end
section
theorem unrEnd_filter {h₀ : Heap} {L I : Addr} {it : Obj} {rest : (Str → Option Value) → List (Addr × Obj) → Prop} {s₁ : Shared} {h' : Heap} {tk : Nat} {m' : Str → Option Value} {all : List (Addr × Obj)} (F : Fr h₀ L h' m') (N : News h₀ L h' all)
    (hI : (I, it) ∈ all) (r : rest m' (all.filter fun p => p.1 != I)) : UnrEndW h₀ L s₁ [(I, it)] rest { s₁ with heap := h', toks := tk } :=
  unrEnd_sub (all.filter fun p => p.1 != I) F N (fun p hp => by
    rcases List.mem_cons.mp hp with rfl | hp
    · exact hI
    · exact (List.mem_filter.mp hp).1) (fun p hp => by simpa using (List.mem_filter.mp hp).2) r
theorem ScopeD.le {prog : Program} {w : World} {news : List (Addr × Obj)} {D : Addr} {f : Str → Option Str} {n n' : Nat} (h : n ≤ n') (Z : ScopeD prog w news D f n) : ScopeD prog w news D f n' :=
  ⟨Z.lo, by obtain ⟨o, kvs, DD, a, b, c, d, e⟩ := Z.ex; exact ⟨o, kvs, DD, a, b, c, Nat.le_trans d h, e⟩⟩
noncomputable abbrev XML : Str := Str.ofString "http://www.w3.org/XML/1998/namespace"
noncomputable abbrev f0 : Str → Option Str := sput (fun _ => none) (Str.ofString "xml") (some XML)
noncomputable abbrev sval (u : Str) : Option Str := if u = Str.ofString "" then none else some u
noncomputable def nsStep (rows : List NRow) (f : Str → Option Str) (j : Int) : Str → Option Str := match rows[j.toNat]? with | some q => sput f q.name (sval q.val) | none => f
noncomputable def elStep (rows : List NRow) (S : Addr → List Int) (f : Str → Option Str) (j : Int) : Str → Option Str := match rows[j.toNat]? with | some r => (S r.n).foldl (nsStep rows) f | none => f
theorem foldl_take {α β : Type} (g : β → α → β) (b : β) {l : List α} {i : Nat} {a : α} (h : l[i]? = some a) : (l.take (i + 1)).foldl g b = g ((l.take i).foldl g b) a := by
  rw [List.take_add_one, h, Option.toList_some, List.foldl_append]; rfl
theorem ScopeD.dlt {prog : Program} {w : World} {news : List (Addr × Obj)} {D I : Addr} {f : Str → Option Str} {n : Nat} (Z : ScopeD prog w news D f n) (h : ∀ p ∈ news, p.1 < I) : D < I :=
  by obtain ⟨_, _, _, a, _⟩ := Z.ex; exact h _ a
theorem ScopeD.ne {prog : Program} {w : World} {h₀ h : Heap} {L : Addr} {news : List (Addr × Obj)} {D Dl : Addr} {ys : List Value} {k : Nat} {f : Str → Option Str} {n : Nat} (N : News h₀ L h news) (Z : ScopeD prog w news D f n) (hl : (Dl, lob ys k) ∈ news) : Dl ≠ D := by
  rintro rfl
  obtain ⟨o, kvs, DD, a, b, -⟩ := Z.ex
  have e := Option.some.inj ((N.get a).symm.trans (N.get hl))
  subst e
  obtain ⟨es, ep, -, hd, -⟩ := b
  cases hd
theorem scl {prog : Program} {w : World} {news nw2 all : List (Addr × Obj)} {D Dl D2 I I2 : Addr} {it it2 ol ol2 : Obj} {f : Str → Option Str} {n : Nat}
    (hs : ∀ p ∈ (I2, it2) :: nw2, p.1 ≠ D → p ∈ all) (a : ∀ p ∈ news, p ∈ nw2) (b : (Dl, ol) ∈ nw2) (c : (I, it) ∈ nw2) (d : (D2, ol2) ∈ nw2)
    (na : ∀ p ∈ news, p.1 ≠ D) (nb : Dl ≠ D) (nc : I ≠ D) (nd : D2 ≠ D) (ne : I2 ≠ D)
    (ia : ∀ p ∈ news, p.1 ≠ I2) (ib : Dl ≠ I2) (ic : I ≠ I2) (id : D2 ≠ I2) (ie : D ≠ I2) (Z : ScopeD prog w all D f n) :
    (I2, it2) ∈ all ∧ (∀ p ∈ news, p ∈ all.filter fun p => p.1 != I2) ∧ (Dl, ol) ∈ (all.filter fun p => p.1 != I2) ∧ (I, it) ∈ (all.filter fun p => p.1 != I2) ∧ (D2, ol2) ∈ (all.filter fun p => p.1 != I2) ∧ ScopeD prog w (all.filter fun p => p.1 != I2) D f n := by
  have fl : ∀ p : Addr × Obj, p ∈ all → p.1 ≠ I2 → p ∈ all.filter fun p => p.1 != I2 := fun p hp q => List.mem_filter.mpr ⟨hp, by simpa using q⟩
  exact ⟨hs _ List.mem_cons_self ne, fun p hp => fl p (hs p (List.mem_cons_of_mem _ (a p hp)) (na p hp)) (ia p hp), fl _ (hs _ (List.mem_cons_of_mem _ b) nb) ib, fl _ (hs _ (List.mem_cons_of_mem _ c) nc) ic, fl _ (hs _ (List.mem_cons_of_mem _ d) nd) id, Z.mono fun o ho => fl _ ho ie⟩
theorem ns_put {rows : List NRow} {f : Str → Option Str} {k0 : Nat} {q : NRow} (hq : rows[k0]? = some q) (hv : (q.val != Str.ofString "") = true) : nsStep rows f (k0 : Int) = sput f q.name (some q.val) := by
  simp only [nsStep, Int.toNat_natCast, hq, sval]
  rw [if_neg (by simpa using hv)]
theorem ns_del {rows : List NRow} {f : Str → Option Str} {k0 : Nat} {q : NRow} (hq : rows[k0]? = some q) (hv : (q.val != Str.ofString "") = false) : nsStep rows f (k0 : Int) = sput f q.name none := by
  simp only [nsStep, Int.toNat_natCast, hq, sval]
  rw [if_pos (by simpa using hv)]
theorem sput_same {f : Str → Option Str} {k : Str} (h : f k = none) : sput f k none = f := by
  funext x
  by_cases hx : x = k
  · subst hx; simp [sput, h]
  · simp [sput, hx]
theorem up_mem {rows : List NRow} {c : Option Nat} {l : List Nat} (h : Up rows c l) : ∀ j ∈ l, ∃ r, rows[j]? = some r := by
  induction h with
  | nil => intro j hj; cases hj
  | cons hr _ ih =>
    intro j hj
    rcases List.mem_cons.mp hj with rfl | hj
    · exact ⟨_, hr⟩
    · exact ih j hj
theorem lk1 (a b k : Str) : PySem.Spec.lookup (.str k) [(PyData.str a, PyData.str b)] = (sput (fun _ => none) a (some b) k).map PyData.str := by
  simp only [PySem.Spec.lookup, sput, PySem.Spec.same]
  by_cases h : k = a
  · subst h; simp
  · simp [h, Ne.symm h]
theorem scope_of_con (prog : Program) (w : World) (news : List (Addr × Obj)) (Tr dt R : Addr) (vs : List Value) (rows : List NRow) (S : Addr → List Int) (TX : TreeIs news Tr dt R vs rows S) (i : Nat) (ti : Tok) (l : List Nat) (hup : Up rows (some i) l) (hl : l.length ≤ 10)
    (hin : ∀ r ∈ rows, ∀ j ∈ S r.n, ∃ (k : Nat) (q : NRow), j = (k : Int) ∧ rows[k]? = some q) :
    Con prog w 90 2500 164 [.ref Tr, .int (i : Int) ti] news (fun v news' => ∃ D n, v = .ref D ∧ n ≤ 1000 ∧ ScopeD prog w news' D ((l.reverse.map (fun j : Nat => (j : Int))).foldl (elStep rows S) f0) n ∧ ∀ p ∈ news, p ∈ news') := by
  unfold Con
  have h1 := TX.inst
  obtain ⟨hh, tk, h2⟩ := TX.dict
  (intro p loose mean mg mb dp un gd cn cs ad ccd cl outer A₀ base h₀ L m s Q E B F X N T hk hdp hu hret; refine wpAny_call ?_; k_dflt ktr_enter; (refine env_let (t := fun e => execs _ e) ?_; intro ev Av); (with_reducible rename Fr _ _ _ (fun _ => _) => kF0; refine fr_let kF0 ?_; clear kF0; intro m0 kF0))
  (repeat ((fail_if_success (k_dflt (show wpAny _ _ (exec (.For _ _ _ _ _) _) _ _ _))); (first | (k_unfold; (try dsimp only)) | (k_end; wrow_close) | walk1 | (dsimp only; walk1) | fail "no step")))
  k_dflt (refine For_turns (by k_asm) ?_)
  with_reducible rename Obj.IsDictOf _ _ _ => kD
  with_reducible rename PyProof.V.FlatPairs _ _ _ => kFl
  with_reducible rename (_ == sysModules) = false => kLo
  have hlt9 := ‹∀ p ∈ news, p.1 < _›
  have Z0 := ScopeD.mk (news := (_, _) :: news) (f := f0) (n := 1) kLo ⟨_, _, _, List.mem_cons_self, kD, kFl, Nat.le_refl _, fun k => lk1 _ _ _⟩
  clear kFl kD
  have TX0 := fun q => TX.mono (n2 := q :: news) (fun p hp => List.mem_cons_of_mem _ hp)
  (repeat ((fail_if_success (k_dflt (show wpAny _ _ (call (.ref 157) _) _ _ _))); (first | (k_unfold; (try dsimp only)) | (k_end; wrow_close) | walk1 | (dsimp only; walk1) | fail "no step"))); (try dsimp only [List.nil_append, List.cons_append])
  k_dflt (show wpAny _ _ (call (.ref 157) [.ref Tr, .int (i : Int) ti]) _ _ _)
  (k_dflt (refine' con_use (lines_con _ _ _ Tr dt R vs rows S (TX0 (_, _)) i _ l hup (Nat.le_trans hl (by decide))) ?uB ?uF ?uX ?uN ?uT ?uk ?ud ?uu ?_; (case uB => k_asm); (case uF => k_asm); (case uX => k_asm); (case uN => k_asm);  (case uT => k_asm); (case uk => first | exact rfl | assumption); (case ud => ktr_room); (case uu => ktr_units)); rintro r9 news9 h9 tk9 F9 N9 ⟨Dl, ys, k, rfl, hys, hDl, hs9⟩; (try dsimp only))
  have hs9' := fun p hp => hs9 p (List.mem_cons_of_mem _ hp)
  have Z9 := Z0.mono (fun o ho => hs9 _ ho)
  have hNe := fun p hp => Nat.ne_of_lt (hlt9 p hp)
  clear Z0 TX0 hs9
  (repeat ((fail_if_success (k_dflt (show wpAny _ _ (pyIter _) _ _ _))); (first | (k_unfold; (try dsimp only)) | (k_end; wrow_close) | walk1 | (dsimp only; walk1) | fail "no step")))
  rename News _ _ _ _ => kN; rename Fr _ _ _ _ => kF
  k_dflt (refine iter_listTurns (by rfl) kF kN hDl rfl rfl fun I hI => ?_)
  have hDI := Z9.dlt hI
  have hDlI := hI _ hDl
  have hnI := fun p hp => hI p (hs9' p hp)
  refine items_ind (fun i0 m nws => (∀ p ∈ news, p ∈ nws) ∧ (Dl, lob ys k) ∈ nws ∧ ScopeD prog w nws _ (((l.reverse.map (fun j : Nat => (j : Int))).take i0).foldl (elStep rows S) f0) (1 + 63 * i0) ∧ m (Str.ofString "tree") = some (.ref Tr) ∧ m (Str.ofString "found") = some (.ref _)) ys ?turn ?done ys 0 _ _ (Nat.zero_le _) rfl ⟨hs9', hDl, Z9, rfl, rfl⟩
  case turn =>
    clear kF kN
    rintro i0 v0 m0 nws h tk0 it hv0 zQ zH ⟨hsn, hDl0, Z, mtree, mfound⟩ F1 N1
    obtain ⟨j, tj, hj1, rfl⟩ := ints_get hys hv0
    obtain ⟨j0, hj0, rfl⟩ : ∃ j0 : Nat, j0 ∈ l ∧ (j0 : Int) = j := by
      have := List.mem_of_getElem? hj1
      simpa using this
    obtain ⟨r, hr⟩ := up_mem hup j0 hj0
    have hi0 : i0 < 10 := by
      have := (List.getElem?_eq_some_iff.mp hj1).1
      rw [List.length_map, List.length_reverse] at this
      omega
    have h1' := hsn _ h1
    have h2' := hsn _ h2
    have TX1 := TX.mono (n2 := (I, it) :: nws) (fun p hp => List.mem_cons_of_mem _ (hsn p hp))
    ((repeat ((fail_if_success (k_dflt (with_reducible show wpAny _ _ (execs _ _) _ _ _))); (first | (k_unfold; (try dsimp only)) | (k_end; wrow_close) | walk1 | (dsimp only; walk1) | fail "no step"))); (try k_fold))
    (repeat ((fail_if_success (k_dflt (show wpAny _ _ (exec (.For _ _ _ _ _) _) _ _ _))); (first | (k_unfold; (try dsimp only)) | (k_end; wrow_close) | walk1 | (dsimp only; walk1) | fail "no step")))
    k_dflt (refine For_turns (by k_asm) ?_)
    (repeat ((fail_if_success (k_dflt (show wpAny _ _ (call (.ref 425) _) _ _ _))); (first | (k_unfold; (try dsimp only)) | (k_end; wrow_close) | walk1 | (dsimp only; walk1) | fail "no step"))); (try dsimp only [List.nil_append, List.cons_append])
    k_dflt (show wpAny _ _ (call (.ref 425) [.ref Tr, .int (j0 : Int) tj]) _ _ _)
    (k_dflt (refine' con_use (namespaces_con _ _ _ Tr dt R vs rows S TX1 j0 _ r hr) ?uB ?uF ?uX ?uN ?uT ?uk ?ud ?uu ?_; (case uB => k_asm); (case uF => k_asm); (case uX => k_asm); (case uN => k_asm);  (case uT => k_asm); (case uk => first | exact rfl | assumption); (case ud => ktr_room); (case uu => ktr_units)); rintro r9 news9 h9 tk9 F9 N9 ⟨D2, ys2, k2, rfl, r2, r3, rfl, lD2⟩; (try dsimp only))
    (repeat ((fail_if_success (k_dflt (show wpAny _ _ (pyIter _) _ _ _))); (first | (k_unfold; (try dsimp only)) | (k_end; wrow_close) | walk1 | (dsimp only; walk1) | fail "no step")))
    rename News _ _ _ _ => kN; rename Fr _ _ _ _ => kF
    k_dflt (refine iter_listTurns (by rfl) kF kN List.mem_cons_self rfl rfl fun I2 hI2 => ?_)
    have hDI2 := Z.dlt (fun p hp => hI2 p (List.mem_cons_of_mem _ (List.mem_cons_of_mem _ hp)))
    have hDD2 := Z.dlt (fun p hp => lD2 p (List.mem_cons_of_mem _ hp))
    have hDlI2 := hI2 _ (List.mem_cons_of_mem _ (List.mem_cons_of_mem _ hDl0))
    have hII2 := hI2 _ (List.mem_cons_of_mem _ List.mem_cons_self)
    have hD2I2 := hI2 _ List.mem_cons_self
    have hnI2 := fun p hp => hI2 p (List.mem_cons_of_mem _ (List.mem_cons_of_mem _ (hsn p hp)))
    have hID2 := lD2 _ List.mem_cons_self
    have hacc := foldl_take (elStep rows S) f0 hj1
    rw [show elStep rows S (((l.reverse.map (fun j : Nat => (j : Int))).take i0).foldl (elStep rows S) f0) (j0 : Int) = (S r.n).foldl (nsStep rows) (((l.reverse.map (fun j : Nat => (j : Int))).take i0).foldl (elStep rows S) f0) by simp only [elStep, Int.toNat_natCast, hr]] at hacc
    generalize ((l.reverse.map (fun j : Nat => (j : Int))).take i0).foldl (elStep rows S) f0 = acc at Z hacc
    refine items_ind (fun i1 m nw2 => (∀ p ∈ news, p ∈ nw2) ∧ (Dl, lob ys k) ∈ nw2 ∧ (I, it) ∈ nw2 ∧ (D2, lob ys2 k2) ∈ nw2 ∧ ScopeD prog w nw2 _ (((S r.n).take i1).foldl (nsStep rows) acc) (1 + 63 * i0 + i1) ∧ m (Str.ofString "tree") = some (.ref Tr) ∧ m (Str.ofString "found") = some (.ref _)) ys2 ?turn2 ?done2 ys2 0 _ _ (Nat.zero_le _) rfl ⟨fun p hp => List.mem_cons_of_mem _ (List.mem_cons_of_mem _ (hsn p hp)), List.mem_cons_of_mem _ (List.mem_cons_of_mem _ hDl0), List.mem_cons_of_mem _ List.mem_cons_self, List.mem_cons_self, Z.mono (fun o ho => List.mem_cons_of_mem _ (List.mem_cons_of_mem _ ho)), by walk_at "mine name", by walk_at "mine name"⟩
    case turn2 =>
      clear kF kN
      rintro i1 v1 m1 nw2 h3 tk3 it2 hv1 zQ2 zH2 ⟨hsn2, hDl2, hIt2, hD22, Z2, mtree2, mfound2⟩ F2 N2
      obtain ⟨jj, tjj, hjj, rfl⟩ := ints_get r2 hv1
      obtain ⟨k0, q, rfl, hq⟩ := hin r (List.mem_of_getElem? hr) jj (List.mem_of_getElem? hjj)
      have TX2 := TX.mono (n2 := (I2, it2) :: nw2) (fun p hp => List.mem_cons_of_mem _ (hsn2 p hp))
      have h1'' := hsn2 _ h1
      have h2'' := hsn2 _ h2
      ((repeat ((fail_if_success (k_dflt (with_reducible show wpAny _ _ (execs _ _) _ _ _))); (first | (k_unfold; (try dsimp only)) | (k_end; wrow_close) | walk1 | (dsimp only; walk1) | fail "no step"))); (try k_fold))
      (repeat ((fail_if_success (k_dflt (show wpAny _ _ (call (.ref 376) _) _ _ _))); (first | (k_unfold; (try dsimp only)) | (k_end; wrow_close) | walk1 | (dsimp only; walk1) | fail "no step"))); (try dsimp only [List.nil_append, List.cons_append])
      k_dflt (show wpAny _ _ (call (.ref 376) [.ref Tr, .int (k0 : Int) tjj]) _ _ _)
      (k_dflt (refine' con_use (name_con _ _ _ Tr dt R vs rows S TX2 k0 _ q hq) ?uB ?uF ?uX ?uN ?uT ?uk ?ud ?uu ?_; (case uB => k_asm); (case uF => k_asm); (case uX => k_asm); (case uN => k_asm);  (case uT => k_asm); (case uk => first | exact rfl | assumption); (case ud => ktr_room); (case uu => ktr_units)); rintro r9 news9 h9 tk9 F9 N9 ⟨⟨t10, rfl⟩, rfl⟩; (try dsimp only))
      (repeat ((fail_if_success (k_dflt (show wpAny _ _ (call (.ref 397) _) _ _ _))); (first | (k_unfold; (try dsimp only)) | (k_end; wrow_close) | walk1 | (dsimp only; walk1) | fail "no step"))); (try dsimp only [List.nil_append, List.cons_append])
      k_dflt (show wpAny _ _ (call (.ref 397) [.ref Tr, .int (k0 : Int) tjj]) _ _ _)
      (k_dflt (refine' con_use (value_con _ _ _ Tr dt R vs rows S TX2 k0 _ q hq) ?uB ?uF ?uX ?uN ?uT ?uk ?ud ?uu ?_; (case uB => k_asm); (case uF => k_asm); (case uX => k_asm); (case uN => k_asm);  (case uT => k_asm); (case uk => first | exact rfl | assumption); (case ud => ktr_room); (case uu => ktr_units)); rintro r9 news9 h9 tk9 F9 N9 ⟨⟨t11, rfl⟩, rfl⟩; (try dsimp only))
      have hst := foldl_take (nsStep rows) acc hjj
      have hi1 : i1 < 63 := by
        have := (List.getElem?_eq_some_iff.mp hv1).1
        omega
      have Z3 := Z2.mono (n2 := (I2, it2) :: nw2) (fun o ho => List.mem_cons_of_mem _ ho)
      generalize ((S r.n).take i1).foldl (nsStep rows) acc = acc1 at Z2 Z3 hst
      have nb := Z3.ne N2 (List.mem_cons_of_mem _ hDl2)
      (repeat ((fail_if_success (k_dflt (show wpAny _ _ (compareOp _ _ _) _ _ _))); (first | (k_unfold; (try dsimp only)) | (k_end; wrow_close) | walk1 | (dsimp only; walk1) | fail "no step")))
      iterate 3 (first | (k_unfold; (try dsimp only)) | (k_end; wrow_close) | walk1 | (dsimp only; walk1) | fail "no step")
      · with_reducible rename (q.val != _) = true => hq0
        (repeat ((fail_if_success (k_dflt (with_reducible show wpAny _ _ (setItem _ _ _) _ _ _))); (first | (k_unfold; (try dsimp only)) | (k_end; wrow_close) | walk1 | (dsimp only; walk1) | fail "no step")))
        rename News _ _ _ _ => kN; rename Fr _ _ _ _ => kF
        k_dflt (refine sc_set kF kN (Z3.mono (fun o ho => List.mem_cons_of_mem _ ho)) (by omega) ?_)
        intro h8 o8 rest8 F8 N8 hne8 hup8 Z8
        clear kF kN
        (repeat' (first | (k_unfold; (try dsimp only)) | (k_end; wrow_close) | walk1 | (dsimp only; walk1) | fail "no step"))
        rename News _ _ _ _ => kN; rename Fr _ _ _ _ => kF
        obtain ⟨a1, a2, a3, a4, a5, a6⟩ := scl (all := (_, o8) :: rest8) (fun p hp hq => List.mem_cons_of_mem _ (hup8 p (List.mem_cons_of_mem _ hp) hq)) hsn2 hDl2 hIt2 hD22 hNe nb (Nat.ne_of_gt hDI) (Nat.ne_of_gt hDD2) (Nat.ne_of_gt hDI2) (fun p hp => Nat.ne_of_lt (hnI2 p hp)) (Nat.ne_of_lt hDlI2) (Nat.ne_of_lt hII2) (Nat.ne_of_lt hD2I2) (Nat.ne_of_lt hDI2) (Z8)
        refine zH2 _ _ ?_; refine unrEnd_filter kF kN a1 ⟨⟨a5, trivial⟩, a2, a3, a4, a5, ?_, by walk_at "mine name", by walk_at "mine name"⟩
        rw [hst, ns_put hq hq0]
        exact a6
      · with_reducible rename (q.val != _) = false => hq0
        (repeat ((fail_if_success (k_dflt (show wpAny _ _ (compareOp _ _ _) _ _ _))); (first | (k_unfold; (try dsimp only)) | (k_end; wrow_close) | walk1 | (dsimp only; walk1) | fail "no step")))
        rename News _ _ _ _ => kN; rename Fr _ _ _ _ => kF
        cases hcase : acc1 q.name with
        | none =>
          k_dflt (refine sc_in' kN (Z3.mono (fun o ho => List.mem_cons_of_mem _ ho)) (b := false) (by rw [hcase]; rfl) ?_)
          (repeat' (first | (k_unfold; (try dsimp only)) | (k_end; wrow_close) | walk1 | (dsimp only; walk1) | fail "no step"))
          rename News _ _ _ _ => kN; rename Fr _ _ _ _ => kF
          obtain ⟨a1, a2, a3, a4, a5, a6⟩ := scl (all := (_, _) :: (I2, it2) :: nw2) (fun p hp _ => List.mem_cons_of_mem _ hp) hsn2 hDl2 hIt2 hD22 hNe nb (Nat.ne_of_gt hDI) (Nat.ne_of_gt hDD2) (Nat.ne_of_gt hDI2) (fun p hp => Nat.ne_of_lt (hnI2 p hp)) (Nat.ne_of_lt hDlI2) (Nat.ne_of_lt hII2) (Nat.ne_of_lt hD2I2) (Nat.ne_of_lt hDI2) (Z3.mono (fun o ho => List.mem_cons_of_mem _ ho))
          refine zH2 _ _ ?_; refine unrEnd_filter kF kN a1 ⟨⟨a5, trivial⟩, a2, a3, a4, a5, ?_, by walk_at "mine name", by walk_at "mine name"⟩
          rw [hst, ns_del hq hq0, sput_same hcase]
          exact a6.le (Nat.le_succ _)
        | some u8 =>
          k_dflt (refine sc_in' kN (Z3.mono (fun o ho => List.mem_cons_of_mem _ ho)) (b := true) (by rw [hcase]; rfl) ?_)
          (repeat ((fail_if_success (k_dflt (with_reducible show wpAny _ _ (getMethod _ _ _) _ _ _))); (first | (k_unfold; (try dsimp only)) | (k_end; wrow_close) | walk1 | (dsimp only; walk1) | fail "no step")))
          k_dflt (refine sc_method PySem.F.slot_dict_pop PySem.F.type_dict_pop kN (Z3.mono (fun o ho => List.mem_cons_of_mem _ ho)) ?_)
          (repeat ((fail_if_success (k_dflt (with_reducible show wpAny _ _ (call (.builtin _) _) _ _ _))); (first | (k_unfold; (try dsimp only)) | (k_end; wrow_close) | walk1 | (dsimp only; walk1) | fail "no step")))
          k_dflt (refine sc_pop (more := []) (.inl rfl) (PySem.F.args_dict_pop_2 _ _) (by k_asm) (by k_asm) (Z3.mono (fun o ho => List.mem_cons_of_mem _ ho)) (by omega) hcase ?_)
          intro h8 o8 rest8 tu8 F8 N8 hne8 hup8 Z8
          (try clear kF); (try clear kN)
          (repeat' (first | (k_unfold; (try dsimp only)) | (k_end; wrow_close) | walk1 | (dsimp only; walk1) | fail "no step"))
          rename News _ _ _ _ => kN; rename Fr _ _ _ _ => kF
          obtain ⟨a1, a2, a3, a4, a5, a6⟩ := scl (all := (_, o8) :: rest8) (fun p hp hq => List.mem_cons_of_mem _ (hup8 p (List.mem_cons_of_mem _ hp) hq)) hsn2 hDl2 hIt2 hD22 hNe nb (Nat.ne_of_gt hDI) (Nat.ne_of_gt hDD2) (Nat.ne_of_gt hDI2) (fun p hp => Nat.ne_of_lt (hnI2 p hp)) (Nat.ne_of_lt hDlI2) (Nat.ne_of_lt hII2) (Nat.ne_of_lt hD2I2) (Nat.ne_of_lt hDI2) (Z8)
          refine zH2 _ _ ?_; refine unrEnd_filter kF kN a1 ⟨⟨a5, trivial⟩, a2, a3, a4, a5, ?_, by walk_at "mine name", by walk_at "mine name"⟩
          rw [hst, ns_del hq hq0]
          exact a6.le (Nat.le_succ _)
    case done2 =>
      clear kF kN
      rintro m1 nw2 ⟨hsn2, hDl2, hIt2, hD22, Z2, mtree2, mfound2⟩ h3 tk3 F2 N2
      rw [r2.length, List.take_length] at Z2
      have hz := r2.length
      (repeat' (first | (k_unfold; (try dsimp only)) | (k_end; wrow_close) | walk1 | (dsimp only; walk1) | fail "no step"))
      rename News _ _ _ _ => kN; rename Fr _ _ _ _ => kF
      refine zH _ _ ?_; refine unrEnd_filter kF kN hIt2 ⟨⟨List.mem_filter.mpr ⟨hDl2, by simpa using Nat.ne_of_lt hDlI⟩, trivial⟩, fun p hp => List.mem_filter.mpr ⟨hsn2 p hp, by simpa using Nat.ne_of_lt (hnI p hp)⟩, List.mem_filter.mpr ⟨hDl2, by simpa using Nat.ne_of_lt hDlI⟩, ?_, by walk_at "mine name", by walk_at "mine name"⟩
      rw [hacc]
      exact (Z2.mono (fun o ho => List.mem_filter.mpr ⟨ho, by simpa using Nat.ne_of_lt hDI⟩)).le (by omega)
  case done =>
    clear kF kN
    rintro m0 nws ⟨hsn, hDl0, Z, mtree, mfound⟩ h tk0 F1 N1
    have hz := hys.length
    rw [List.length_map, List.length_reverse] at hz
    rw [List.take_of_length_le (by rw [List.length_map, List.length_reverse, hz]; exact Nat.le_refl _)] at Z
    (repeat' (first | (k_unfold; (try dsimp only)) | (k_end; wrow_close) | walk1 | (dsimp only; walk1) | fail "no step"))
    (rename News _ _ _ _ => kN; rename Fr _ _ _ _ => kF; refine hret _ _ _ _ kF kN ?_)
    exact ⟨_, _, rfl, by omega, Z, hsn⟩
end
section
structure Elem (rows : List NRow) (S : Addr → List Int) (i : Nat) (r : NRow) (l : List Nat) : Prop where
  hi : rows[i]? = some r
  up : Up rows (some i) l
  len : l.length ≤ 10
  ns : ∀ r ∈ rows, ∀ j ∈ S r.n, ∃ (k : Nat) (q : NRow), j = (k : Int) ∧ rows[k]? = some q
  ats : ∀ j ∈ S r.a, ∃ (k : Nat) (q : NRow), j = (k : Int) ∧ rows[k]? = some q
  nm : r.name.length ≤ 100
noncomputable abbrev scopeF (rows : List NRow) (S : Addr → List Int) (l : List Nat) : Str → Option Str := (l.reverse.map (fun j : Nat => (j : Int))).foldl (elStep rows S) f0
noncomputable abbrev Tup2 (x y : Str) (news : List (Addr × Obj)) (v : Value) (news' : List (Addr × Obj)) : Prop := ∃ D k t1 t2, v = .ref D ∧ (D, tob [.str x t1, .str y t2] k) ∈ news' ∧ ∀ p ∈ news, p ∈ news'
noncomputable def Spl (prog : Program) (w : World) (n px lo : Str) : Prop := ∀ news t, Con prog w 80 1200 150 [.str n t] news (fun v news' => Tup2 px lo news v news')
theorem exp_plain (prog : Program) (w : World) (news : List (Addr × Obj)) (Tr : Addr) (i : Nat) (ti : Tok) (n lo : Str) (t : Tok) (SP : Spl prog w n (Str.ofString "") lo) :
    Con prog w 110 4000 186 [.ref Tr, .int (i : Int) ti, .str n t] news (fun v news' => Tup2 (Str.ofString "") lo news v news') := by
  unfold Con
  (intro p loose mean mg mb dp un gd cn cs ad ccd cl outer A₀ base h₀ L m s Q E B F X N T hk hdp hu hret; refine wpAny_call ?_; k_dflt ktr_enter; (refine env_let (t := fun e => execs _ e) ?_; intro ev Av); (with_reducible rename Fr _ _ _ (fun _ => _) => kF0; refine fr_let kF0 ?_; clear kF0; intro m0 kF0))
  (repeat ((fail_if_success (k_dflt (show wpAny _ _ (call (.ref 150) _) _ _ _))); (first | (k_unfold; (try dsimp only)) | (k_end; wrow_close) | walk1 | (dsimp only; walk1) | fail "no step"))); (try dsimp only [List.nil_append, List.cons_append])
  k_dflt (show wpAny _ _ (call (.ref 150) [.str n t]) _ _ _)
  (k_dflt (refine' con_use (SP _ _) ?uB ?uF ?uX ?uN ?uT ?uk ?ud ?uu ?_; (case uB => k_asm); (case uF => k_asm); (case uX => k_asm); (case uN => k_asm);  (case uT => k_asm); (case uk => first | exact rfl | assumption); (case ud => ktr_room); (case uu => ktr_units)); rintro r9 news9 h9 tk9 F9 N9 ⟨D, k, t1, t2, rfl, hD, hs9⟩; (try dsimp only))
  (repeat' (first | (k_unfold; (try dsimp only)) | (k_end; wrow_close) | walk1 | (dsimp only; walk1) | fail "no step"))
  (rename News _ _ _ _ => kN; rename Fr _ _ _ _ => kF; refine hret _ _ _ _ kF kN ?_)
  exact ⟨_, _, _, _, rfl, List.mem_cons_self, fun p hp => List.mem_cons_of_mem _ (hs9 p hp)⟩
theorem exp_xml (prog : Program) (w : World) (news : List (Addr × Obj)) (Tr dt R : Addr) (vs : List Value) (rows : List NRow) (S : Addr → List Int) (TX : TreeIs news Tr dt R vs rows S) (i : Nat) (ti : Tok) (r : NRow) (l : List Nat) (EL : Elem rows S i r l) (n lo : Str) (t : Tok) (SP : Spl prog w n (Str.ofString "xml") lo) :
    Con prog w 110 4000 186 [.ref Tr, .int (i : Int) ti, .str n t] news (fun v news' => Tup2 XML lo news v news') := by
  unfold Con
  (intro p loose mean mg mb dp un gd cn cs ad ccd cl outer A₀ base h₀ L m s Q E B F X N T hk hdp hu hret; refine wpAny_call ?_; k_dflt ktr_enter; (refine env_let (t := fun e => execs _ e) ?_; intro ev Av); (with_reducible rename Fr _ _ _ (fun _ => _) => kF0; refine fr_let kF0 ?_; clear kF0; intro m0 kF0))
  (repeat ((fail_if_success (k_dflt (show wpAny _ _ (call (.ref 150) _) _ _ _))); (first | (k_unfold; (try dsimp only)) | (k_end; wrow_close) | walk1 | (dsimp only; walk1) | fail "no step"))); (try dsimp only [List.nil_append, List.cons_append])
  k_dflt (show wpAny _ _ (call (.ref 150) [.str n t]) _ _ _)
  (k_dflt (refine' con_use (SP _ _) ?uB ?uF ?uX ?uN ?uT ?uk ?ud ?uu ?_; (case uB => k_asm); (case uF => k_asm); (case uX => k_asm); (case uN => k_asm);  (case uT => k_asm); (case uk => first | exact rfl | assumption); (case ud => ktr_room); (case uu => ktr_units)); rintro r9 news9 h9 tk9 F9 N9 ⟨D, k, t1, t2, rfl, hD, hs9⟩; (try dsimp only))
  have TX9 := TX.mono hs9
  (repeat ((fail_if_success (k_dflt (show wpAny _ _ (call (.ref 164) _) _ _ _))); (first | (k_unfold; (try dsimp only)) | (k_end; wrow_close) | walk1 | (dsimp only; walk1) | fail "no step"))); (try dsimp only [List.nil_append, List.cons_append])
  k_dflt (show wpAny _ _ (call (.ref 164) [.ref Tr, .int (i : Int) ti]) _ _ _)
  (k_dflt (refine' con_use (scope_of_con _ _ _ Tr dt R vs rows S TX9 i _ l EL.up EL.len EL.ns) ?uB ?uF ?uX ?uN ?uT ?uk ?ud ?uu ?_; (case uB => k_asm); (case uF => k_asm); (case uX => k_asm); (case uN => k_asm);  (case uT => k_asm); (case uk => first | exact rfl | assumption); (case ud => ktr_room); (case uu => ktr_units)); rintro r9 news9 h9 tk9 F9 N9 ⟨Ds, ns, rfl, hns, Z, hsz⟩; (try dsimp only))
  (repeat' (first | (k_unfold; (try dsimp only)) | (k_end; wrow_close) | walk1 | (dsimp only; walk1) | fail "no step"))
  (rename News _ _ _ _ => kN; rename Fr _ _ _ _ => kF; refine hret _ _ _ _ kF kN ?_)
  exact ⟨_, _, _, _, rfl, List.mem_cons_self, fun p hp => List.mem_cons_of_mem _ (hsz p (hs9 p hp))⟩
theorem exp_some (prog : Program) (w : World) (news : List (Addr × Obj)) (Tr dt R : Addr) (vs : List Value) (rows : List NRow) (S : Addr → List Int) (TX : TreeIs news Tr dt R vs rows S) (i : Nat) (ti : Tok) (r : NRow) (l : List Nat) (EL : Elem rows S i r l) (n px lo : Str) (t : Tok) (SP : Spl prog w n px lo) (h1 : (px == Str.ofString "") = false) (h2 : (px == Str.ofString "xml") = false) (u : Str) (hu0 : scopeF rows S l px = some u) :
    Con prog w 110 4000 186 [.ref Tr, .int (i : Int) ti, .str n t] news (fun v news' => Tup2 u lo news v news') := by
  unfold Con
  (intro p loose mean mg mb dp un gd cn cs ad ccd cl outer A₀ base h₀ L m s Q E B F X N T hk hdp hu hret; refine wpAny_call ?_; k_dflt ktr_enter; (refine env_let (t := fun e => execs _ e) ?_; intro ev Av); (with_reducible rename Fr _ _ _ (fun _ => _) => kF0; refine fr_let kF0 ?_; clear kF0; intro m0 kF0))
  (repeat ((fail_if_success (k_dflt (show wpAny _ _ (call (.ref 150) _) _ _ _))); (first | (k_unfold; (try dsimp only)) | (k_end; wrow_close) | walk1 | (dsimp only; walk1) | fail "no step"))); (try dsimp only [List.nil_append, List.cons_append])
  k_dflt (show wpAny _ _ (call (.ref 150) [.str n t]) _ _ _)
  (k_dflt (refine' con_use (SP _ _) ?uB ?uF ?uX ?uN ?uT ?uk ?ud ?uu ?_; (case uB => k_asm); (case uF => k_asm); (case uX => k_asm); (case uN => k_asm);  (case uT => k_asm); (case uk => first | exact rfl | assumption); (case ud => ktr_room); (case uu => ktr_units)); rintro r9 news9 h9 tk9 F9 N9 ⟨D, k, t1, t2, rfl, hD, hs9⟩; (try dsimp only))
  have TX9 := TX.mono hs9
  (repeat ((fail_if_success (k_dflt (show wpAny _ _ (call (.ref 164) _) _ _ _))); (first | (k_unfold; (try dsimp only)) | (k_end; wrow_close) | walk1 | (dsimp only; walk1) | fail "no step"))); (try dsimp only [List.nil_append, List.cons_append])
  k_dflt (show wpAny _ _ (call (.ref 164) [.ref Tr, .int (i : Int) ti]) _ _ _)
  (k_dflt (refine' con_use (scope_of_con _ _ _ Tr dt R vs rows S TX9 i _ l EL.up EL.len EL.ns) ?uB ?uF ?uX ?uN ?uT ?uk ?ud ?uu ?_; (case uB => k_asm); (case uF => k_asm); (case uX => k_asm); (case uN => k_asm);  (case uT => k_asm); (case uk => first | exact rfl | assumption); (case ud => ktr_room); (case uu => ktr_units)); rintro r9 news9 h9 tk9 F9 N9 ⟨Ds, ns, rfl, hns, Z, hsz⟩; (try dsimp only))
  (repeat ((fail_if_success (k_dflt (show wpAny _ _ (compareOp _ _ _) _ _ _))); (first | (k_unfold; (try dsimp only)) | (k_end; wrow_close) | walk1 | (dsimp only; walk1) | fail "no step")))
  iterate 3 (first | (k_unfold; (try dsimp only)) | (k_end; wrow_close) | walk1 | (dsimp only; walk1) | fail "no step")
  (repeat ((fail_if_success (k_dflt (show wpAny _ _ (compareOp _ _ _) _ _ _))); (first | (k_unfold; (try dsimp only)) | (k_end; wrow_close) | walk1 | (dsimp only; walk1) | fail "no step")))
  rename News _ _ _ _ => kN
  k_dflt (refine sc_notin' kN Z (b := true) ((congrArg Option.isSome hu0).trans rfl) ?_)
  (repeat ((fail_if_success (k_dflt (with_reducible show wpAny _ _ (subscriptTail _ _ _ _) _ _ _))); (first | (k_unfold; (try dsimp only)) | (k_end; wrow_close) | walk1 | (dsimp only; walk1) | fail "no step")))
  k_dflt (refine sc_get kN Z hu0 (fun tu => ?_))
  (repeat' (first | (k_unfold; (try dsimp only)) | (k_end; wrow_close) | walk1 | (dsimp only; walk1) | fail "no step"))
  (rename News _ _ _ _ => kN; rename Fr _ _ _ _ => kF; refine hret _ _ _ _ kF kN ?_)
  exact ⟨_, _, _, _, rfl, List.mem_cons_self, fun p hp => List.mem_cons_of_mem _ (hsz p (hs9 p hp))⟩
theorem exp_none (prog : Program) (w : World) (news : List (Addr × Obj)) (Tr dt R : Addr) (vs : List Value) (rows : List NRow) (S : Addr → List Int) (TX : TreeIs news Tr dt R vs rows S) (i : Nat) (ti : Tok) (r : NRow) (l : List Nat) (EL : Elem rows S i r l) (n px lo : Str) (t : Tok) (SP : Spl prog w n px lo) (h1 : (px == Str.ofString "") = false) (h2 : (px == Str.ofString "xml") = false) (hpl : px.length ≤ 100) (hu0 : scopeF rows S l px = none) :
    ConX prog w 110 4000 186 [.ref Tr, .int (i : Int) ti, .str n t] news := by
  unfold ConX
  (intro p loose mean mg mb dp un gd cn cs ad ccd cl outer A₀ base h₀ L m s Q E B F X N T hk hdp hu hret; refine wpAny_call ?_; k_dflt ktr_enter; (refine env_let (t := fun e => execs _ e) ?_; intro ev Av); (with_reducible rename Fr _ _ _ (fun _ => _) => kF0; refine fr_let kF0 ?_; clear kF0; intro m0 kF0))
  (repeat ((fail_if_success (k_dflt (show wpAny _ _ (call (.ref 150) _) _ _ _))); (first | (k_unfold; (try dsimp only)) | (k_end; wrow_close) | walk1 | (dsimp only; walk1) | fail "no step"))); (try dsimp only [List.nil_append, List.cons_append])
  k_dflt (show wpAny _ _ (call (.ref 150) [.str n t]) _ _ _)
  (k_dflt (refine' con_use (SP _ _) ?uB ?uF ?uX ?uN ?uT ?uk ?ud ?uu ?_; (case uB => k_asm); (case uF => k_asm); (case uX => k_asm); (case uN => k_asm);  (case uT => k_asm); (case uk => first | exact rfl | assumption); (case ud => ktr_room); (case uu => ktr_units)); rintro r9 news9 h9 tk9 F9 N9 ⟨D, k, t1, t2, rfl, hD, hs9⟩; (try dsimp only))
  have TX9 := TX.mono hs9
  (repeat ((fail_if_success (k_dflt (show wpAny _ _ (call (.ref 164) _) _ _ _))); (first | (k_unfold; (try dsimp only)) | (k_end; wrow_close) | walk1 | (dsimp only; walk1) | fail "no step"))); (try dsimp only [List.nil_append, List.cons_append])
  k_dflt (show wpAny _ _ (call (.ref 164) [.ref Tr, .int (i : Int) ti]) _ _ _)
  (k_dflt (refine' con_use (scope_of_con _ _ _ Tr dt R vs rows S TX9 i _ l EL.up EL.len EL.ns) ?uB ?uF ?uX ?uN ?uT ?uk ?ud ?uu ?_; (case uB => k_asm); (case uF => k_asm); (case uX => k_asm); (case uN => k_asm);  (case uT => k_asm); (case uk => first | exact rfl | assumption); (case ud => ktr_room); (case uu => ktr_units)); rintro r9 news9 h9 tk9 F9 N9 ⟨Ds, ns, rfl, hns, Z, hsz⟩; (try dsimp only))
  (repeat ((fail_if_success (k_dflt (show wpAny _ _ (compareOp _ _ _) _ _ _))); (first | (k_unfold; (try dsimp only)) | (k_end; wrow_close) | walk1 | (dsimp only; walk1) | fail "no step")))
  iterate 3 (first | (k_unfold; (try dsimp only)) | (k_end; wrow_close) | walk1 | (dsimp only; walk1) | fail "no step")
  (repeat ((fail_if_success (k_dflt (show wpAny _ _ (compareOp _ _ _) _ _ _))); (first | (k_unfold; (try dsimp only)) | (k_end; wrow_close) | walk1 | (dsimp only; walk1) | fail "no step")))
  rename News _ _ _ _ => kN
  k_dflt (refine sc_notin' kN Z (b := false) ((congrArg Option.isSome hu0).trans rfl) ?_)
  (repeat ((fail_if_success (k_dflt (with_reducible show wpAny _ _ (exec (.Raise _ _ _) _) _ _ _))); (first | (k_unfold; (try dsimp only)) | (k_end; wrow_close) | walk1 | (dsimp only; walk1) | fail "no step")))
  k_dflt (refine RaiseE (obj75 w) (by rfl) ?_)
  (repeat ((fail_if_success (k_dflt (with_reducible show wpAny _ _ (binaryOp _ _ _) _ _ _))); (first | (k_unfold; (try dsimp only)) | (k_end; wrow_close) | walk1 | (dsimp only; walk1) | fail "no step")))
  k_dflt (refine PyProof.Rows.add_str (fun t' tk => ?_) (Nat.le_trans (Nat.add_le_add (Nat.le_refl _) hpl) (by decide +kernel)))
  (first | (k_unfold; (try dsimp only)) | (k_end; wrow_close) | walk1 | (dsimp only; walk1) | fail "no step")
  k_dflt (refine PyProof.Rows.add_str (fun t' tk => ?_) (Nat.le_trans (Nat.add_le_add (Nat.le_trans (Nat.le_of_eq (Str.length_append _ _)) (Nat.add_le_add (Nat.le_refl _) hpl)) (Nat.le_refl _)) (by decide +kernel)))
  (repeat ((fail_if_success (k_dflt (show wpAny _ _ (call (.ref 75) _) _ _ _))); (first | (k_unfold; (try dsimp only)) | (k_end; wrow_close) | walk1 | (dsimp only; walk1) | fail "no step"))); (try dsimp only [List.nil_append, List.cons_append])
  (k_dflt (refine' con_use (fault_con _ _ _ _ _) ?uB ?uF ?uX ?uN ?uT ?uk ?ud ?uu ?_; (case uB => k_asm); (case uF => k_asm); (case uX => k_asm); (case uN => k_asm);  (case uT => k_asm); (case uk => first | exact rfl | assumption); (case ud => ktr_room); (case uu => ktr_units)); rintro r9 news9 h9 tk9 F9 N9 ⟨e, t8, dx, rfl, rfl, he9⟩; (try dsimp only))
  rename News _ _ _ _ => kN; rename Fr _ _ _ _ => kF
  rename Below _ _ _ _ => kB; rename Fr h₀ L _ _ => kFG; rename Frag.In _ _ => kX
  refine ⟨e, t8, some dx, rfl, kX.keeps kF.keep, kN.get List.mem_cons_self, ?_⟩
  exact leave_ownS kB kF kN (fun p hp => Nat.ne_of_lt (he9 p hp)) (fun h' R up => hret e h' _ _ _ kFG R up (fun p hp => hsz p (hs9 p hp)))
end
section
theorem slen {a b : Str} {p q : Nat} (ha : a.length ≤ p) (hb : b.length ≤ q) : (a ++ b).length ≤ p + q := Nat.le_trans (Nat.le_of_eq (Str.length_append _ _)) (Nat.add_le_add ha hb)
theorem sadd {a b : Str} {p q : Nat} (ha : a.length ≤ p) (hb : b.length ≤ q) (h : p + q ≤ 16777216) : a.length + b.length ≤ sizeLine := Nat.le_trans (Nat.add_le_add ha hb) (by rw [sizeLine_eq]; exact h)
theorem mode_none (prog : Program) (w : World) (news : List (Addr × Obj)) (Tr dt R : Addr) (vs : List Value) (rows : List NRow) (S : Addr → List Int) (TX : TreeIs news Tr dt R vs rows S) (i : Nat) (ti : Tok) (r : NRow) (l : List Nat) (EL : Elem rows S i r l) (hres : afind rows (Str.ofString "mode") (S r.a) = none) :
    Con prog w 120 5000 200 [.ref Tr, .int (i : Int) ti] news (fun v news' => v = .none ∧ ∀ p ∈ news, p ∈ news') := by
  unfold Con
  (intro p loose mean mg mb dp un gd cn cs ad ccd cl outer A₀ base h₀ L m s Q E B F X N T hk hdp hu hret; refine wpAny_call ?_; k_dflt ktr_enter; (refine env_let (t := fun e => execs _ e) ?_; intro ev Av); (with_reducible rename Fr _ _ _ (fun _ => _) => kF0; refine fr_let kF0 ?_; clear kF0; intro m0 kF0))
  (repeat ((fail_if_success (k_dflt (show wpAny _ _ (call (.ref 172) _) _ _ _))); (first | (k_unfold; (try dsimp only)) | (k_end; wrow_close) | walk1 | (dsimp only; walk1) | fail "no step"))); (try dsimp only [List.nil_append, List.cons_append])
  k_dflt (show wpAny _ _ (call (.ref 172) [.ref Tr, .int (i : Int) ti, .str _ _]) _ _ _)
  (k_dflt (refine' con_use (attr_of_con _ _ _ Tr dt R vs rows S TX i _ r EL.hi _ _ _ hres EL.ats) ?uB ?uF ?uX ?uN ?uT ?uk ?ud ?uu ?_; (case uB => k_asm); (case uF => k_asm); (case uX => k_asm); (case uN => k_asm);  (case uT => k_asm); (case uk => first | exact rfl | assumption); (case ud => ktr_room); (case uu => ktr_units)); rintro r9 news9 h9 tk9 F9 N9 ⟨hov, hs9⟩; (try dsimp only))
  rcases hov with ⟨u', t9, hu', rfl⟩ | ⟨-, rfl⟩
  · cases hu'
  (repeat' (first | (k_unfold; (try dsimp only)) | (k_end; wrow_close) | walk1 | (dsimp only; walk1) | fail "no step"))
  (rename News _ _ _ _ => kN; rename Fr _ _ _ _ => kF; refine hret _ _ _ _ kF kN ?_)
  exact ⟨rfl, hs9⟩
theorem mode_some (prog : Program) (w : World) (news : List (Addr × Obj)) (Tr dt R : Addr) (vs : List Value) (rows : List NRow) (S : Addr → List Int) (TX : TreeIs news Tr dt R vs rows S) (i : Nat) (ti : Tok) (r : NRow) (l : List Nat) (EL : Elem rows S i r l) (n x y : Str) (hres : afind rows (Str.ofString "mode") (S r.a) = some n)
    (EX : ∀ news ti t, TreeIs news Tr dt R vs rows S → Con prog w 110 4000 186 [.ref Tr, .int (i : Int) ti, .str n t] news (fun v news' => Tup2 x y news v news')) :
    Con prog w 120 5000 200 [.ref Tr, .int (i : Int) ti] news (fun v news' => Tup2 x y news v news') := by
  unfold Con
  (intro p loose mean mg mb dp un gd cn cs ad ccd cl outer A₀ base h₀ L m s Q E B F X N T hk hdp hu hret; refine wpAny_call ?_; k_dflt ktr_enter; (refine env_let (t := fun e => execs _ e) ?_; intro ev Av); (with_reducible rename Fr _ _ _ (fun _ => _) => kF0; refine fr_let kF0 ?_; clear kF0; intro m0 kF0))
  (repeat ((fail_if_success (k_dflt (show wpAny _ _ (call (.ref 172) _) _ _ _))); (first | (k_unfold; (try dsimp only)) | (k_end; wrow_close) | walk1 | (dsimp only; walk1) | fail "no step"))); (try dsimp only [List.nil_append, List.cons_append])
  k_dflt (show wpAny _ _ (call (.ref 172) [.ref Tr, .int (i : Int) ti, .str _ _]) _ _ _)
  (k_dflt (refine' con_use (attr_of_con _ _ _ Tr dt R vs rows S TX i _ r EL.hi _ _ _ hres EL.ats) ?uB ?uF ?uX ?uN ?uT ?uk ?ud ?uu ?_; (case uB => k_asm); (case uF => k_asm); (case uX => k_asm); (case uN => k_asm);  (case uT => k_asm); (case uk => first | exact rfl | assumption); (case ud => ktr_room); (case uu => ktr_units)); rintro r9 news9 h9 tk9 F9 N9 ⟨hov, hs9⟩; (try dsimp only))
  rcases hov with ⟨u', t9, hu', rfl⟩ | ⟨hu', -⟩
  case inr => cases hu'
  cases hu'
  have TX9 := TX.mono hs9
  (repeat ((fail_if_success (k_dflt (show wpAny _ _ (call (.ref 186) _) _ _ _))); (first | (k_unfold; (try dsimp only)) | (k_end; wrow_close) | walk1 | (dsimp only; walk1) | fail "no step"))); (try dsimp only [List.nil_append, List.cons_append])
  k_dflt (show wpAny _ _ (call (.ref 186) [.ref Tr, .int (i : Int) ti, .str n _]) _ _ _)
  (k_dflt (refine' con_use (EX _ _ _ TX9) ?uB ?uF ?uX ?uN ?uT ?uk ?ud ?uu ?_; (case uB => k_asm); (case uF => k_asm); (case uX => k_asm); (case uN => k_asm);  (case uT => k_asm); (case uk => first | exact rfl | assumption); (case ud => ktr_room); (case uu => ktr_units)); rintro r9 news9 h9 tk9 F9 N9 ⟨D, k, t1, t2, rfl, hD, hsz⟩; (try dsimp only))
  (repeat' (first | (k_unfold; (try dsimp only)) | (k_end; wrow_close) | walk1 | (dsimp only; walk1) | fail "no step"))
  (rename News _ _ _ _ => kN; rename Fr _ _ _ _ => kF; refine hret _ _ _ _ kF kN ?_)
  exact ⟨_, _, _, _, rfl, hD, fun p hp => hsz p (hs9 p hp)⟩
theorem mode_X (prog : Program) (w : World) (news : List (Addr × Obj)) (Tr dt R : Addr) (vs : List Value) (rows : List NRow) (S : Addr → List Int) (TX : TreeIs news Tr dt R vs rows S) (i : Nat) (ti : Tok) (r : NRow) (l : List Nat) (EL : Elem rows S i r l) (n : Str) (hres : afind rows (Str.ofString "mode") (S r.a) = some n)
    (EX : ∀ news ti t, TreeIs news Tr dt R vs rows S → ConX prog w 110 4000 186 [.ref Tr, .int (i : Int) ti, .str n t] news) :
    ConX prog w 120 5000 200 [.ref Tr, .int (i : Int) ti] news := by
  unfold ConX
  (intro p loose mean mg mb dp un gd cn cs ad ccd cl outer A₀ base h₀ L m s Q E B F X N T hk hdp hu hret; refine wpAny_call ?_; k_dflt ktr_enter; (refine env_let (t := fun e => execs _ e) ?_; intro ev Av); (with_reducible rename Fr _ _ _ (fun _ => _) => kF0; refine fr_let kF0 ?_; clear kF0; intro m0 kF0))
  (repeat ((fail_if_success (k_dflt (show wpAny _ _ (call (.ref 172) _) _ _ _))); (first | (k_unfold; (try dsimp only)) | (k_end; wrow_close) | walk1 | (dsimp only; walk1) | fail "no step"))); (try dsimp only [List.nil_append, List.cons_append])
  k_dflt (show wpAny _ _ (call (.ref 172) [.ref Tr, .int (i : Int) ti, .str _ _]) _ _ _)
  (k_dflt (refine' con_use (attr_of_con _ _ _ Tr dt R vs rows S TX i _ r EL.hi _ _ _ hres EL.ats) ?uB ?uF ?uX ?uN ?uT ?uk ?ud ?uu ?_; (case uB => k_asm); (case uF => k_asm); (case uX => k_asm); (case uN => k_asm);  (case uT => k_asm); (case uk => first | exact rfl | assumption); (case ud => ktr_room); (case uu => ktr_units)); rintro r9 news9 h9 tk9 F9 N9 ⟨hov, hs9⟩; (try dsimp only))
  rcases hov with ⟨u', t9, hu', rfl⟩ | ⟨hu', -⟩
  case inr => cases hu'
  cases hu'
  have TX9 := TX.mono hs9
  (repeat ((fail_if_success (k_dflt (show wpAny _ _ (call (.ref 186) _) _ _ _))); (first | (k_unfold; (try dsimp only)) | (k_end; wrow_close) | walk1 | (dsimp only; walk1) | fail "no step"))); (try dsimp only [List.nil_append, List.cons_append])
  k_dflt (show wpAny _ _ (call (.ref 186) [.ref Tr, .int (i : Int) ti, .str n _]) _ _ _)
  (k_dflt (refine' conX_use (EX _ _ _ TX9) ?uB ?uF ?uX ?uN ?uT ?uk ?ud ?uu ?_; (case uB => k_asm); (case uF => k_asm); (case uX => k_asm); (case uN => k_asm); (case uT => k_asm); (case uk => first | exact rfl | assumption); (case ud => ktr_room); (case uu => ktr_units)); rintro e9 h9 tk9 G9 news9x FG9 R9 up9 hs9x)
  rename Below _ _ _ _ => kB; rename Fr h₀ L _ _ => kFG
  exact leave_onX kB FG9 R9 up9 (fun h' R up => hret e9 h' _ _ _ kFG R up (fun p hp => hs9x p (hs9 p hp)))
theorem vname_missing (prog : Program) (w : World) (news : List (Addr × Obj)) (Tr dt R : Addr) (vs : List Value) (rows : List NRow) (S : Addr → List Int) (TX : TreeIs news Tr dt R vs rows S) (i : Nat) (ti : Tok) (r : NRow) (l : List Nat) (EL : Elem rows S i r l) (hres : afind rows (Str.ofString "name") (S r.a) = none) :
    ConX prog w 120 5000 193 [.ref Tr, .int (i : Int) ti] news := by
  unfold ConX
  (intro p loose mean mg mb dp un gd cn cs ad ccd cl outer A₀ base h₀ L m s Q E B F X N T hk hdp hu hret; refine wpAny_call ?_; k_dflt ktr_enter; (refine env_let (t := fun e => execs _ e) ?_; intro ev Av); (with_reducible rename Fr _ _ _ (fun _ => _) => kF0; refine fr_let kF0 ?_; clear kF0; intro m0 kF0))
  (repeat ((fail_if_success (k_dflt (show wpAny _ _ (call (.ref 179) _) _ _ _))); (first | (k_unfold; (try dsimp only)) | (k_end; wrow_close) | walk1 | (dsimp only; walk1) | fail "no step"))); (try dsimp only [List.nil_append, List.cons_append])
  k_dflt (show wpAny _ _ (call (.ref 179) [.ref Tr, .int (i : Int) ti, .str (Str.ofString "name") _]) _ _ _)
  (k_dflt (refine' conX_use (needed_none _ _ _ Tr dt R vs rows S TX i _ r EL.hi EL.nm _ _ (by decide +kernel) hres EL.ats) ?uB ?uF ?uX ?uN ?uT ?uk ?ud ?uu ?_; (case uB => k_asm); (case uF => k_asm); (case uX => k_asm); (case uN => k_asm); (case uT => k_asm); (case uk => first | exact rfl | assumption); (case ud => ktr_room); (case uu => ktr_units)); rintro e9 h9 tk9 G9 news9x FG9 R9 up9 hs9x)
  rename Below _ _ _ _ => kB; rename Fr h₀ L _ _ => kFG
  exact leave_onX kB FG9 R9 up9 (fun h' R up => hret e9 h' _ _ _ kFG R up hs9x)
theorem vname_plain (prog : Program) (w : World) (news : List (Addr × Obj)) (Tr dt R : Addr) (vs : List Value) (rows : List NRow) (S : Addr → List Int) (TX : TreeIs news Tr dt R vs rows S) (i : Nat) (ti : Tok) (r : NRow) (l : List Nat) (EL : Elem rows S i r l) (n : Str) (hres : afind rows (Str.ofString "name") (S r.a) = some n)
    (hcol : (Builtin.Str.occurrences n (Str.ofString ":") 0 n.length 1).isEmpty = true) :
    Con prog w 120 5000 193 [.ref Tr, .int (i : Int) ti] news (fun v news' => (∃ t, v = .str n t) ∧ ∀ p ∈ news, p ∈ news') := by
  unfold Con
  (intro p loose mean mg mb dp un gd cn cs ad ccd cl outer A₀ base h₀ L m s Q E B F X N T hk hdp hu hret; refine wpAny_call ?_; k_dflt ktr_enter; (refine env_let (t := fun e => execs _ e) ?_; intro ev Av); (with_reducible rename Fr _ _ _ (fun _ => _) => kF0; refine fr_let kF0 ?_; clear kF0; intro m0 kF0))
  (repeat ((fail_if_success (k_dflt (show wpAny _ _ (call (.ref 179) _) _ _ _))); (first | (k_unfold; (try dsimp only)) | (k_end; wrow_close) | walk1 | (dsimp only; walk1) | fail "no step"))); (try dsimp only [List.nil_append, List.cons_append])
  k_dflt (show wpAny _ _ (call (.ref 179) [.ref Tr, .int (i : Int) ti, .str (Str.ofString "name") _]) _ _ _)
  (k_dflt (refine' con_use (needed_some _ _ _ Tr dt R vs rows S TX i _ r EL.hi _ _ _ hres EL.ats) ?uB ?uF ?uX ?uN ?uT ?uk ?ud ?uu ?_; (case uB => k_asm); (case uF => k_asm); (case uX => k_asm); (case uN => k_asm);  (case uT => k_asm); (case uk => first | exact rfl | assumption); (case ud => ktr_room); (case uu => ktr_units)); rintro r9 news9 h9 tk9 F9 N9 ⟨⟨t9, rfl⟩, hs9⟩; (try dsimp only))
  (repeat ((fail_if_success (k_dflt (show wpAny _ _ (compareOp _ _ _) _ _ _))); (first | (k_unfold; (try dsimp only)) | (k_end; wrow_close) | walk1 | (dsimp only; walk1) | fail "no step")))
  iterate 3 (first | (k_unfold; (try dsimp only)) | (k_end; wrow_close) | walk1 | (dsimp only; walk1) | fail "no step")
  rw [if_neg (by rw [hcol]; decide)]
  (repeat' (first | (k_unfold; (try dsimp only)) | (k_end; wrow_close) | walk1 | (dsimp only; walk1) | fail "no step"))
  (rename News _ _ _ _ => kN; rename Fr _ _ _ _ => kF; refine hret _ _ _ _ kF kN ?_)
  exact ⟨⟨_, rfl⟩, hs9⟩
theorem vname_some (prog : Program) (w : World) (news : List (Addr × Obj)) (Tr dt R : Addr) (vs : List Value) (rows : List NRow) (S : Addr → List Int) (TX : TreeIs news Tr dt R vs rows S) (i : Nat) (ti : Tok) (r : NRow) (l : List Nat) (EL : Elem rows S i r l) (n x y : Str) (hres : afind rows (Str.ofString "name") (S r.a) = some n) (hcol : (Builtin.Str.occurrences n (Str.ofString ":") 0 n.length 1).isEmpty = false) (hx : x.length ≤ 100) (hy : y.length ≤ 100)
    (EX : ∀ news ti t, TreeIs news Tr dt R vs rows S → Con prog w 110 4000 186 [.ref Tr, .int (i : Int) ti, .str n t] news (fun v news' => Tup2 x y news v news')) :
    Con prog w 120 5000 193 [.ref Tr, .int (i : Int) ti] news (fun v news' => (∃ t, v = .str (Str.ofString "{" ++ x ++ Str.ofString "}" ++ y) t) ∧ ∀ p ∈ news, p ∈ news') := by
  unfold Con
  (intro p loose mean mg mb dp un gd cn cs ad ccd cl outer A₀ base h₀ L m s Q E B F X N T hk hdp hu hret; refine wpAny_call ?_; k_dflt ktr_enter; (refine env_let (t := fun e => execs _ e) ?_; intro ev Av); (with_reducible rename Fr _ _ _ (fun _ => _) => kF0; refine fr_let kF0 ?_; clear kF0; intro m0 kF0))
  (repeat ((fail_if_success (k_dflt (show wpAny _ _ (call (.ref 179) _) _ _ _))); (first | (k_unfold; (try dsimp only)) | (k_end; wrow_close) | walk1 | (dsimp only; walk1) | fail "no step"))); (try dsimp only [List.nil_append, List.cons_append])
  k_dflt (show wpAny _ _ (call (.ref 179) [.ref Tr, .int (i : Int) ti, .str (Str.ofString "name") _]) _ _ _)
  (k_dflt (refine' con_use (needed_some _ _ _ Tr dt R vs rows S TX i _ r EL.hi _ _ _ hres EL.ats) ?uB ?uF ?uX ?uN ?uT ?uk ?ud ?uu ?_; (case uB => k_asm); (case uF => k_asm); (case uX => k_asm); (case uN => k_asm);  (case uT => k_asm); (case uk => first | exact rfl | assumption); (case ud => ktr_room); (case uu => ktr_units)); rintro r9 news9 h9 tk9 F9 N9 ⟨⟨t9, rfl⟩, hs9⟩; (try dsimp only))
  have TX9 := TX.mono hs9
  (repeat ((fail_if_success (k_dflt (show wpAny _ _ (compareOp _ _ _) _ _ _))); (first | (k_unfold; (try dsimp only)) | (k_end; wrow_close) | walk1 | (dsimp only; walk1) | fail "no step")))
  iterate 3 (first | (k_unfold; (try dsimp only)) | (k_end; wrow_close) | walk1 | (dsimp only; walk1) | fail "no step")
  rw [if_pos (by rw [hcol]; decide)]
  (repeat ((fail_if_success (k_dflt (show wpAny _ _ (call (.ref 186) _) _ _ _))); (first | (k_unfold; (try dsimp only)) | (k_end; wrow_close) | walk1 | (dsimp only; walk1) | fail "no step"))); (try dsimp only [List.nil_append, List.cons_append])
  k_dflt (show wpAny _ _ (call (.ref 186) [.ref Tr, .int (i : Int) ti, .str n _]) _ _ _)
  (k_dflt (refine' con_use (EX _ _ _ TX9) ?uB ?uF ?uX ?uN ?uT ?uk ?ud ?uu ?_; (case uB => k_asm); (case uF => k_asm); (case uX => k_asm); (case uN => k_asm);  (case uT => k_asm); (case uk => first | exact rfl | assumption); (case ud => ktr_room); (case uu => ktr_units)); rintro r9 news9 h9 tk9 F9 N9 ⟨D, k, t1, t2, rfl, hD, hsz⟩; (try dsimp only))
  (repeat ((fail_if_success (k_dflt (with_reducible show wpAny _ _ (binaryOp _ _ _) _ _ _))); (first | (k_unfold; (try dsimp only)) | (k_end; wrow_close) | walk1 | (dsimp only; walk1) | fail "no step")))
  have e1 : (Str.ofString "{").length ≤ 1 := by decide +kernel
  have e2 : (Str.ofString "}").length ≤ 1 := by decide +kernel
  k_dflt (refine PyProof.Rows.add_str (fun t' tk => ?_) (sadd e1 hx (by decide)))
  (repeat ((fail_if_success (k_dflt (with_reducible show wpAny _ _ (binaryOp _ _ _) _ _ _))); (first | (k_unfold; (try dsimp only)) | (k_end; wrow_close) | walk1 | (dsimp only; walk1) | fail "no step")))
  k_dflt (refine PyProof.Rows.add_str (fun t' tk => ?_) (sadd (slen e1 hx) e2 (by decide)))
  (repeat ((fail_if_success (k_dflt (with_reducible show wpAny _ _ (binaryOp _ _ _) _ _ _))); (first | (k_unfold; (try dsimp only)) | (k_end; wrow_close) | walk1 | (dsimp only; walk1) | fail "no step")))
  k_dflt (refine PyProof.Rows.add_str (fun t' tk => ?_) (sadd (slen (slen e1 hx) e2) hy (by decide)))
  (repeat' (first | (k_unfold; (try dsimp only)) | (k_end; wrow_close) | walk1 | (dsimp only; walk1) | fail "no step"))
  (rename News _ _ _ _ => kN; rename Fr _ _ _ _ => kF; refine hret _ _ _ _ kF kN ?_)
  exact ⟨⟨_, rfl⟩, fun p hp => hsz p (hs9 p hp)⟩
theorem vname_X (prog : Program) (w : World) (news : List (Addr × Obj)) (Tr dt R : Addr) (vs : List Value) (rows : List NRow) (S : Addr → List Int) (TX : TreeIs news Tr dt R vs rows S) (i : Nat) (ti : Tok) (r : NRow) (l : List Nat) (EL : Elem rows S i r l) (n : Str) (hres : afind rows (Str.ofString "name") (S r.a) = some n) (hcol : (Builtin.Str.occurrences n (Str.ofString ":") 0 n.length 1).isEmpty = false)
    (EX : ∀ news ti t, TreeIs news Tr dt R vs rows S → ConX prog w 110 4000 186 [.ref Tr, .int (i : Int) ti, .str n t] news) :
    ConX prog w 120 5000 193 [.ref Tr, .int (i : Int) ti] news := by
  unfold ConX
  (intro p loose mean mg mb dp un gd cn cs ad ccd cl outer A₀ base h₀ L m s Q E B F X N T hk hdp hu hret; refine wpAny_call ?_; k_dflt ktr_enter; (refine env_let (t := fun e => execs _ e) ?_; intro ev Av); (with_reducible rename Fr _ _ _ (fun _ => _) => kF0; refine fr_let kF0 ?_; clear kF0; intro m0 kF0))
  (repeat ((fail_if_success (k_dflt (show wpAny _ _ (call (.ref 179) _) _ _ _))); (first | (k_unfold; (try dsimp only)) | (k_end; wrow_close) | walk1 | (dsimp only; walk1) | fail "no step"))); (try dsimp only [List.nil_append, List.cons_append])
  k_dflt (show wpAny _ _ (call (.ref 179) [.ref Tr, .int (i : Int) ti, .str (Str.ofString "name") _]) _ _ _)
  (k_dflt (refine' con_use (needed_some _ _ _ Tr dt R vs rows S TX i _ r EL.hi _ _ _ hres EL.ats) ?uB ?uF ?uX ?uN ?uT ?uk ?ud ?uu ?_; (case uB => k_asm); (case uF => k_asm); (case uX => k_asm); (case uN => k_asm);  (case uT => k_asm); (case uk => first | exact rfl | assumption); (case ud => ktr_room); (case uu => ktr_units)); rintro r9 news9 h9 tk9 F9 N9 ⟨⟨t9, rfl⟩, hs9⟩; (try dsimp only))
  have TX9 := TX.mono hs9
  (repeat ((fail_if_success (k_dflt (show wpAny _ _ (compareOp _ _ _) _ _ _))); (first | (k_unfold; (try dsimp only)) | (k_end; wrow_close) | walk1 | (dsimp only; walk1) | fail "no step")))
  iterate 3 (first | (k_unfold; (try dsimp only)) | (k_end; wrow_close) | walk1 | (dsimp only; walk1) | fail "no step")
  rw [if_pos (by rw [hcol]; decide)]
  (repeat ((fail_if_success (k_dflt (show wpAny _ _ (call (.ref 186) _) _ _ _))); (first | (k_unfold; (try dsimp only)) | (k_end; wrow_close) | walk1 | (dsimp only; walk1) | fail "no step"))); (try dsimp only [List.nil_append, List.cons_append])
  k_dflt (show wpAny _ _ (call (.ref 186) [.ref Tr, .int (i : Int) ti, .str n _]) _ _ _)
  (k_dflt (refine' conX_use (EX _ _ _ TX9) ?uB ?uF ?uX ?uN ?uT ?uk ?ud ?uu ?_; (case uB => k_asm); (case uF => k_asm); (case uX => k_asm); (case uN => k_asm); (case uT => k_asm); (case uk => first | exact rfl | assumption); (case ud => ktr_room); (case uu => ktr_units)); rintro e9 h9 tk9 G9 news9x FG9 R9 up9 hs9x)
  rename Below _ _ _ _ => kB; rename Fr h₀ L _ _ => kFG
  exact leave_onX kB FG9 R9 up9 (fun h' R up => hret e9 h' _ _ _ kFG R up (fun p hp => hs9x p (hs9 p hp)))
end
section
theorem lexp_plain (prog : Program) (w : World) (news : List (Addr × Obj)) (tx : Str) (hlen : tx.length ≤ 60) (e1 : (Txt.partition tx (Str.ofString ":")).1 = tx) (e2 : (Txt.partition tx (Str.ofString ":")).2.1 = Str.ofString "") (e3 : (Txt.partition tx (Str.ofString ":")).2.2 = Str.ofString "") (t : Tok) (D : Addr) :
    Con prog w 20 400 495 [.str tx t, .ref D] news (fun v news' => Tup2 (Str.ofString "") tx news v news') := by
  unfold Con
  (intro p loose mean mg mb dp un gd cn cs ad ccd cl outer A₀ base h₀ L m s Q E B F X N T hk hdp hu hret; refine wpAny_call ?_; k_dflt ktr_enter; (refine env_let (t := fun e => execs _ e) ?_; intro ev Av); (with_reducible rename Fr _ _ _ (fun _ => _) => kF0; refine fr_let kF0 ?_; clear kF0; intro m0 kF0))
  (repeat ((fail_if_success (k_dflt (with_reducible show wpAny _ _ (call (.builtin _) _) _ _ _))); (first | (k_unfold; (try dsimp only)) | (k_end; wrow_close) | walk1 | (dsimp only; walk1) | fail "no step")))
  rename News _ _ _ _ => kN; rename Fr _ _ _ _ => kF
  k_dflt (refine' PySem.W.KXpa.partition kF kN ?hy e1 e2 e3 ?hz ?_; (case hy => rfl); (case hz => rw [sizeLine_eq]; omega))
  clear kF kN
  intro D1 ta tb tc h1 k1 F1 N1 l1
  (repeat ((fail_if_success (k_dflt (with_reducible show wpAny _ _ (assign (Expr.Tuple _ _ _) _ _) _ _ _))); (first | (k_unfold; (try dsimp only)) | (k_end; wrow_close) | walk1 | (dsimp only; walk1) | fail "no step")))
  k_dflt (refine' unpackN_ ?F ?N ?T ?k1 ?k2 ?k3 ?_; (case F => k_asm); (case N => k_asm); (case T => refine News.isTup (by k_asm) List.mem_cons_self); (case k1 => exact rfl); (case k2 => exact rfl); (case k3 => exact rfl))
  intro h' F' N'
  (repeat' (first | (k_unfold; (try dsimp only)) | (k_end; wrow_close) | walk1 | (dsimp only; walk1) | fail "no step"))
  (rename News _ _ _ _ => kN; rename Fr _ _ _ _ => kF; refine hret _ _ _ _ kF kN ?_)
  exact ⟨_, _, _, _, rfl, List.mem_cons_self, fun p hp => List.mem_cons_of_mem _ (List.mem_cons_of_mem _ hp)⟩
theorem lexp_some (prog : Program) (w : World) (news : List (Addr × Obj)) (tx px lo : Str) (hlen : tx.length ≤ 60) (e1 : (Txt.partition tx (Str.ofString ":")).1 = px) (e2 : (Txt.partition tx (Str.ofString ":")).2.1 = Str.ofString ":") (e3 : (Txt.partition tx (Str.ofString ":")).2.2 = lo) (t : Tok) (D : Addr) (f : Str → Option Str) (nn : Nat) (Z : ScopeD prog w news D f nn) (u : Str) (hf : f px = some u) :
    Con prog w 20 400 495 [.str tx t, .ref D] news (fun v news' => Tup2 u lo news v news') := by
  unfold Con
  (intro p loose mean mg mb dp un gd cn cs ad ccd cl outer A₀ base h₀ L m s Q E B F X N T hk hdp hu hret; refine wpAny_call ?_; k_dflt ktr_enter; (refine env_let (t := fun e => execs _ e) ?_; intro ev Av); (with_reducible rename Fr _ _ _ (fun _ => _) => kF0; refine fr_let kF0 ?_; clear kF0; intro m0 kF0))
  (repeat ((fail_if_success (k_dflt (with_reducible show wpAny _ _ (call (.builtin _) _) _ _ _))); (first | (k_unfold; (try dsimp only)) | (k_end; wrow_close) | walk1 | (dsimp only; walk1) | fail "no step")))
  rename News _ _ _ _ => kN; rename Fr _ _ _ _ => kF
  k_dflt (refine' PySem.W.KXpa.partition kF kN ?hy e1 e2 e3 ?hz ?_; (case hy => rfl); (case hz => rw [sizeLine_eq]; omega))
  clear kF kN
  intro D1 ta tb tc h1 k1 F1 N1 l1
  (repeat ((fail_if_success (k_dflt (with_reducible show wpAny _ _ (assign (Expr.Tuple _ _ _) _ _) _ _ _))); (first | (k_unfold; (try dsimp only)) | (k_end; wrow_close) | walk1 | (dsimp only; walk1) | fail "no step")))
  k_dflt (refine' unpackN_ ?F ?N ?T ?k1 ?k2 ?k3 ?_; (case F => k_asm); (case N => k_asm); (case T => refine News.isTup (by k_asm) List.mem_cons_self); (case k1 => exact rfl); (case k2 => exact rfl); (case k3 => exact rfl))
  intro h' F' N'
  (repeat ((fail_if_success (k_dflt (with_reducible show wpAny _ _ (compareOp .In _ _) _ _ _))); (first | (k_unfold; (try dsimp only)) | (k_end; wrow_close) | walk1 | (dsimp only; walk1) | fail "no step")))
  rename News _ _ _ _ => kN
  k_dflt (refine sc_in' (k := px) kN (Z.mono (fun o ho => List.mem_cons_of_mem _ ho)) (b := true) (by rw [hf]; rfl) ?_)
  (repeat ((fail_if_success (k_dflt (with_reducible show wpAny _ _ (subscriptTail _ _ _ _) _ _ _))); (first | (k_unfold; (try dsimp only)) | (k_end; wrow_close) | walk1 | (dsimp only; walk1) | fail "no step")))
  k_dflt (refine sc_get (k := px) kN (Z.mono (fun o ho => List.mem_cons_of_mem _ ho)) hf (fun tu => ?_))
  (repeat' (first | (k_unfold; (try dsimp only)) | (k_end; wrow_close) | walk1 | (dsimp only; walk1) | fail "no step"))
  (rename News _ _ _ _ => kN; rename Fr _ _ _ _ => kF; refine hret _ _ _ _ kF kN ?_)
  exact ⟨_, _, _, _, rfl, List.mem_cons_self, fun p hp => List.mem_cons_of_mem _ (List.mem_cons_of_mem _ hp)⟩
theorem lexp_none (prog : Program) (w : World) (news : List (Addr × Obj)) (tx px lo : Str) (hlen : tx.length ≤ 60) (e1 : (Txt.partition tx (Str.ofString ":")).1 = px) (e2 : (Txt.partition tx (Str.ofString ":")).2.1 = Str.ofString ":") (e3 : (Txt.partition tx (Str.ofString ":")).2.2 = lo) (t : Tok) (D : Addr) (f : Str → Option Str) (nn : Nat) (Z : ScopeD prog w news D f nn) (hf : f px = none) :
    Con prog w 20 400 495 [.str tx t, .ref D] news (fun v news' => (∃ t, v = .str (Str.ofString "refused") t) ∧ ∀ p ∈ news, p ∈ news') := by
  unfold Con
  (intro p loose mean mg mb dp un gd cn cs ad ccd cl outer A₀ base h₀ L m s Q E B F X N T hk hdp hu hret; refine wpAny_call ?_; k_dflt ktr_enter; (refine env_let (t := fun e => execs _ e) ?_; intro ev Av); (with_reducible rename Fr _ _ _ (fun _ => _) => kF0; refine fr_let kF0 ?_; clear kF0; intro m0 kF0))
  (repeat ((fail_if_success (k_dflt (with_reducible show wpAny _ _ (call (.builtin _) _) _ _ _))); (first | (k_unfold; (try dsimp only)) | (k_end; wrow_close) | walk1 | (dsimp only; walk1) | fail "no step")))
  rename News _ _ _ _ => kN; rename Fr _ _ _ _ => kF
  k_dflt (refine' PySem.W.KXpa.partition kF kN ?hy e1 e2 e3 ?hz ?_; (case hy => rfl); (case hz => rw [sizeLine_eq]; omega))
  clear kF kN
  intro D1 ta tb tc h1 k1 F1 N1 l1
  (repeat ((fail_if_success (k_dflt (with_reducible show wpAny _ _ (assign (Expr.Tuple _ _ _) _ _) _ _ _))); (first | (k_unfold; (try dsimp only)) | (k_end; wrow_close) | walk1 | (dsimp only; walk1) | fail "no step")))
  k_dflt (refine' unpackN_ ?F ?N ?T ?k1 ?k2 ?k3 ?_; (case F => k_asm); (case N => k_asm); (case T => refine News.isTup (by k_asm) List.mem_cons_self); (case k1 => exact rfl); (case k2 => exact rfl); (case k3 => exact rfl))
  intro h' F' N'
  (repeat ((fail_if_success (k_dflt (with_reducible show wpAny _ _ (compareOp .In _ _) _ _ _))); (first | (k_unfold; (try dsimp only)) | (k_end; wrow_close) | walk1 | (dsimp only; walk1) | fail "no step")))
  rename News _ _ _ _ => kN
  k_dflt (refine sc_in' (k := px) kN (Z.mono (fun o ho => List.mem_cons_of_mem _ ho)) (b := false) (by rw [hf]; rfl) ?_)
  (repeat' (first | (k_unfold; (try dsimp only)) | (k_end; wrow_close) | walk1 | (dsimp only; walk1) | fail "no step"))
  (rename News _ _ _ _ => kN; rename Fr _ _ _ _ => kF; refine hret _ _ _ _ kF kN ?_)
  exact ⟨⟨_, rfl⟩, fun p hp => List.mem_cons_of_mem _ hp⟩
theorem lexp_a (prog : Program) (w : World) (news : List (Addr × Obj)) (t : Tok) (D : Addr) :
    Con prog w 20 400 495 [.str (Str.ofString "a") t, .ref D] news (fun v news' => Tup2 (Str.ofString "") (Str.ofString "a") news v news') := lexp_plain prog w news _ (by decide +kernel) (by decide +kernel) (by decide +kernel) (by decide +kernel) t D
theorem lexp_p_a_s (prog : Program) (w : World) (news : List (Addr × Obj)) (t : Tok) (D : Addr) (f : Str → Option Str) (nn : Nat) (Z : ScopeD prog w news D f nn) (u : Str) (hf : f (Str.ofString "p") = some u) :
    Con prog w 20 400 495 [.str (Str.ofString "p:a") t, .ref D] news (fun v news' => Tup2 u (Str.ofString "a") news v news') := lexp_some prog w news _ _ _ (by decide +kernel) (by decide +kernel) (by decide +kernel) (by decide +kernel) t D f nn Z u hf
theorem lexp_p_a_n (prog : Program) (w : World) (news : List (Addr × Obj)) (t : Tok) (D : Addr) (f : Str → Option Str) (nn : Nat) (Z : ScopeD prog w news D f nn) (hf : f (Str.ofString "p") = none) :
    Con prog w 20 400 495 [.str (Str.ofString "p:a") t, .ref D] news (fun v news' => (∃ t, v = .str (Str.ofString "refused") t) ∧ ∀ p ∈ news, p ∈ news') := lexp_none prog w news _ (Str.ofString "p") (Str.ofString "a") (by decide +kernel) (by decide +kernel) (by decide +kernel) (by decide +kernel) t D f nn Z hf
theorem lexp_q_b_s (prog : Program) (w : World) (news : List (Addr × Obj)) (t : Tok) (D : Addr) (f : Str → Option Str) (nn : Nat) (Z : ScopeD prog w news D f nn) (u : Str) (hf : f (Str.ofString "q") = some u) :
    Con prog w 20 400 495 [.str (Str.ofString "q:b") t, .ref D] news (fun v news' => Tup2 u (Str.ofString "b") news v news') := lexp_some prog w news _ _ _ (by decide +kernel) (by decide +kernel) (by decide +kernel) (by decide +kernel) t D f nn Z u hf
theorem lexp_q_b_n (prog : Program) (w : World) (news : List (Addr × Obj)) (t : Tok) (D : Addr) (f : Str → Option Str) (nn : Nat) (Z : ScopeD prog w news D f nn) (hf : f (Str.ofString "q") = none) :
    Con prog w 20 400 495 [.str (Str.ofString "q:b") t, .ref D] news (fun v news' => (∃ t, v = .str (Str.ofString "refused") t) ∧ ∀ p ∈ news, p ∈ news') := lexp_none prog w news _ (Str.ofString "q") (Str.ofString "b") (by decide +kernel) (by decide +kernel) (by decide +kernel) (by decide +kernel) t D f nn Z hf
theorem lexp_xml_id_s (prog : Program) (w : World) (news : List (Addr × Obj)) (t : Tok) (D : Addr) (f : Str → Option Str) (nn : Nat) (Z : ScopeD prog w news D f nn) (u : Str) (hf : f (Str.ofString "xml") = some u) :
    Con prog w 20 400 495 [.str (Str.ofString "xml:id") t, .ref D] news (fun v news' => Tup2 u (Str.ofString "id") news v news') := lexp_some prog w news _ _ _ (by decide +kernel) (by decide +kernel) (by decide +kernel) (by decide +kernel) t D f nn Z u hf
theorem lexp_xml_id_n (prog : Program) (w : World) (news : List (Addr × Obj)) (t : Tok) (D : Addr) (f : Str → Option Str) (nn : Nat) (Z : ScopeD prog w news D f nn) (hf : f (Str.ofString "xml") = none) :
    Con prog w 20 400 495 [.str (Str.ofString "xml:id") t, .ref D] news (fun v news' => (∃ t, v = .str (Str.ofString "refused") t) ∧ ∀ p ∈ news, p ∈ news') := lexp_none prog w news _ (Str.ofString "xml") (Str.ofString "id") (by decide +kernel) (by decide +kernel) (by decide +kernel) (by decide +kernel) t D f nn Z hf
theorem lexp_z_a_s (prog : Program) (w : World) (news : List (Addr × Obj)) (t : Tok) (D : Addr) (f : Str → Option Str) (nn : Nat) (Z : ScopeD prog w news D f nn) (u : Str) (hf : f (Str.ofString "z") = some u) :
    Con prog w 20 400 495 [.str (Str.ofString "z:a") t, .ref D] news (fun v news' => Tup2 u (Str.ofString "a") news v news') := lexp_some prog w news _ _ _ (by decide +kernel) (by decide +kernel) (by decide +kernel) (by decide +kernel) t D f nn Z u hf
theorem lexp_z_a_n (prog : Program) (w : World) (news : List (Addr × Obj)) (t : Tok) (D : Addr) (f : Str → Option Str) (nn : Nat) (Z : ScopeD prog w news D f nn) (hf : f (Str.ofString "z") = none) :
    Con prog w 20 400 495 [.str (Str.ofString "z:a") t, .ref D] news (fun v news' => (∃ t, v = .str (Str.ofString "refused") t) ∧ ∀ p ∈ news, p ∈ news') := lexp_none prog w news _ (Str.ofString "z") (Str.ofString "a") (by decide +kernel) (by decide +kernel) (by decide +kernel) (by decide +kernel) t D f nn Z hf
theorem lexp_b_1 (prog : Program) (w : World) (news : List (Addr × Obj)) (t : Tok) (D : Addr) :
    Con prog w 20 400 495 [.str (Str.ofString "b-1") t, .ref D] news (fun v news' => Tup2 (Str.ofString "") (Str.ofString "b-1") news v news') := lexp_plain prog w news _ (by decide +kernel) (by decide +kernel) (by decide +kernel) (by decide +kernel) t D
end
section
section
variable {prog : Program} {w : World} {A A₀ : Around} {s : Shared} {K : Frag} {L : Addr} {h₀ base : Heap} {m mg mb : Str → Option Value} {news : List (Addr × Obj)} {p : Program} {loose : List Str} {mean : ExcName → Option Value}
theorem enterT {env : Env} {outer : List Env} {R : Result → Shared → Prop} {name qual : Str} {params : Arguments} {body : List Stmt} {scope : Scope} {dV kV doc pm cdv ct oc : Value} {an od : Option Addr} {osl : Array (Option Value)} {f : Addr} {args : Args} {binds : List (Str × Value)}
    (B : Below A₀ base outer h₀) (F : Fr h₀ L s.heap m) (X₀ : K.In h₀) (N : News h₀ L s.heap news) (T : Top p loose mean mg mb h₀) (hA : A.frames = some (env :: outer)) (hf : env.frame = some L) (hke : env.scope.kind = .function)
    (ho : K.lookup f = some ⟨oc, od, .func (fnOf name qual params body scope dV kV doc pm an cdv ct), osl⟩) (hcd : codeIn K cdv qual = true) (hroom : A.depth < recursionLimit)
    (hbind : BindsTo s (fnOf name qual params body scope dV kV doc pm an cdv ct) args binds) (hloc : ∀ y ∈ binds, scope.names.lookup y.1 = some .local)
    (h : ∀ g L' h₁, Fr h₀ L g m → Fr g L' h₁ (fun y => binds.reverse.lookup y) → News g L' h₁ news → Below A base (env :: outer) g → K.In g → Top p loose mean mg mb g →
      wpAny (model prog w) (A.deeper (envOf qual scope L' f cdv)) (execs body (envOf qual scope L' f cdv))
        (fun fl s' => R (.ok (.ret (match fl with | .ret v => v | _ => .none))) s')
        (fun e s' => wpAny (model prog w) (A.deeper (envOf qual scope L' f cdv)) (leaving (envOf qual scope L' f cdv) e) (fun _ s'' => R (.error e) s'') (fun e' s'' => R (.error e') s'') s')
        { s with heap := h₁, toks := s.toks + binds.length })
    (hco : scope.isCoroutine = false) (hgen : scope.isGenerator = false) (hk : scope.kind = .function)
    (hcell : ∀ x ∈ scope.names, x.2 ≠ .cell) : codeAny (model prog w) A (.call (.ref f) args) R s := by
  obtain ⟨FG, BG, st, -⟩ := groundX (R := R) B F N hA hf hke
  refine codeAny_call_def (fd := fnOf name qual params body scope dV kV doc pm an cdv ct) (body := body) (binds := binds) hroom ((X₀.keeps F.keep) _ _ ho) rfl (T.nolimit.keeps F.keep) (codeRec_of (X₀.keeps F.keep) hcd) rfl hbind hcell hloc (fun h₁ hns hk₁ => ?_) hco hgen hk
  exact h _ s.heap.objs.size h₁ FG ⟨hns, fun b o e => hk₁ b o (of_hideAll _ e), Nat.le_of_eq (hideAll_size _ _)⟩
    (fun p hp => ⟨hk₁ _ _ (N p hp).1, Nat.ne_of_lt (Heap.lt_size (N p hp).1), hideAll_none _ (List.mem_map_of_mem hp)⟩) BG (X₀.keeps st) (T.keeps st)
end
noncomputable def ConT (prog : Program) (w : World) (d u : Nat) (f : Addr) (args : List Value) (news : List (Addr × Obj)) (Ret : Value → List (Addr × Obj) → Prop) : Prop :=
  ∀ (p : Program) (loose : List Str) (mean : ExcName → Option Value) (mg mb : Str → Option Value)
    (dp un : Nat) (gd : Option (List Code)) (cn : Str) (cs : Scope) (a : Addr) (ccd : Value) (cl : List (Str × Addr)) (outer : List Env) (A₀ : Around) (base h₀ : Heap) (L : Addr) (m : Str → Option Value) (s : Shared)
    (Q E : Value → Shared → Prop),
    Below A₀ base outer h₀ → Fr h₀ L s.heap m → (hd.heap_39 w.params).In h₀ → News h₀ L s.heap news → Top p loose mean mg mb h₀ → cs.kind = .function → dp + d < recursionLimit → un + u < cLine →
    (hd.heap_39 w.params).In base → Top p loose mean mg mb base →
    (∀ r h₀' news' h' tk', KtsTurn (outer.filterMap (·.frame)) h₀ h₀' → Fr h₀' L h' m → News h₀' L h' news' → Below A₀ base outer h₀' → (hd.heap_39 w.params).In h₀' → Top p loose mean mg mb h₀' → Ret r news' → Q r { s with heap := h', toks := tk' }) →
    wpAny (model prog w) (ktrTop dp un gd cn cs L a ccd cl outer) (call (.ref f) args) Q E s
theorem turn_back {A₀ : Around} {base h₀ g g' h : Heap} {outer : List Env} {L L' : Addr} {m m' : Str → Option Value} {news' : List (Addr × Obj)} {fs : List Addr} (B : Below A₀ base outer h₀) (F : Fr h₀ L g m) (T : KtsTurn fs g g') (hfs : ∀ b ∈ fs, b = L ∨ b ∈ outer.filterMap (·.frame)) (F' : Fr g' L' h m') (N' : News g' L' h news') :
    ∃ h₀', KtsTurn (outer.filterMap (·.frame)) h₀ h₀' ∧ Fr h₀' L h m ∧ News h₀' L h news' ∧ Below A₀ base outer h₀' := by
  obtain ⟨h₀', T₁, F₁⟩ := fr_turn F T hfs (fun b hb => by obtain ⟨_, o, ho, _⟩ := B.frames.mem hb; exact ⟨o, ho⟩)
  refine ⟨h₀', T₁, ⟨F₁.ns.keeps F'.keep, fun b o e => F'.keep b o (F₁.keep b o e), F₁.above⟩, fun p hp => ⟨(N' p hp).1, fun q => ?_, ?_⟩, ⟨B.stack, fun b o e => T₁.other b o (B.stays b o e) (fun hm => by
    rw [(B.frames.mem hm).1] at e
    cases e), B.frames.of_keeps fun b o e _ => by
    obtain ⟨sl', hs'⟩ := T₁.up e
    exact ⟨_, hs', rfl⟩⟩⟩
  · obtain ⟨o, es, ep, ho, _⟩ := F₁.ns
    have := (N' p hp).2.2
    rw [q, ho] at this
    cases this
  · cases q : h₀'.get? p.1 with
    | none => rfl
    | some o =>
      have := (N' p hp).2.2
      rw [F₁.keep _ _ q] at this
      cases this
theorem told_con (prog : Program) (w : World) (news : List (Addr × Obj)) (d u : Nat) (hd9 : d + 10 < 200) (hu9 : u + 200 < 10000) (cf : Addr) (Ret : Value → List (Addr × Obj) → Prop) {name qual : Str} {params : Arguments} {body : Expr} {scope : Scope} {cl9 : List (Str × Addr)} {pm ctv : Value} {c' : Addr}
    (hcf : (cf, kla_obj name qual params body scope cl9 pm c' ctv) ∈ news) (C : Con prog w d u cf [] news Ret) :
    Con prog w (d + 10) (u + 200) 488 [.ref cf] news Ret := by
  unfold Con
  (intro p loose mean mg mb dp un gd cn cs ad ccd cl outer A₀ base h₀ L m s Q E B F X N T hk hdp hu hret; refine wpAny_call ?_; k_dflt ktr_enter; (refine env_let (t := fun e => execs _ e) ?_; intro ev Av); (with_reducible rename Fr _ _ _ (fun _ => _) => kF0; refine fr_let kF0 ?_; clear kF0; intro m0 kF0))
  iterate 7 (first | (k_unfold; (try dsimp only)) | (k_end; wrow_close) | walk1 | (dsimp only; walk1) | fail "no step")
  k_dflt (refine' callWith_F0 ?k1 ?_; (case k1 => exact FnAt.of (by k_asm) hcf))
  (try dsimp only [List.nil_append, List.cons_append])
  (k_dflt (refine' con_use C ?uB ?uF ?uX ?uN ?uT ?uk ?ud ?uu ?_; (case uB => k_asm); (case uF => k_asm); (case uX => k_asm); (case uN => k_asm);  (case uT => k_asm); (case uk => first | exact rfl | assumption); (case ud => ktr_room); (case uu => ktr_units)); rintro r9 news9 h9 tk9 F9 N9 hR9; (try dsimp only))
  (repeat' (first | (k_unfold; (try dsimp only)) | (k_end; wrow_close) | walk1 | (dsimp only; walk1) | fail "no step"))
  (rename News _ _ _ _ => kN; rename Fr _ _ _ _ => kF; refine hret _ _ _ _ kF kN ?_)
  exact hR9
theorem told_X (prog : Program) (w : World) (news : List (Addr × Obj)) (d u : Nat) (hd9 : d + 10 < 200) (hu9 : u + 200 < 10000) (cf : Addr) {name qual : Str} {params : Arguments} {body : Expr} {scope : Scope} {cl9 : List (Str × Addr)} {pm ctv : Value} {c' : Addr}
    (hcf : (cf, kla_obj name qual params body scope cl9 pm c' ctv) ∈ news) (C : ConX prog w d u cf [] news) :
    ConT prog w (d + 10) (u + 200) 488 [.ref cf] news (fun v news' => (∃ t, v = .str (Str.ofString "refused") t) ∧ ∀ p ∈ news, p ∈ news') := by
  unfold ConT
  intro p loose mean mg mb dp un gd cn cs ad ccd cl outer A₀ base h₀ L m s Q E B F X N T hk hdp hu XB TB hret
  refine wpAny_call ?_
  k_dflt (refine' enterT ?k1 ?k2 ?k3 ?k4 ?k5 ?kA ?kF ?kK ?k6 ?k7 ?k8 ?k9 ?kB ?_ ?c2 ?c3 ?c4 ?c5; (case kA => exact rfl); (case kF => exact rfl); (case kK => assumption); (case k1 => k_asm); (case k2 => k_asm); (case k3 => k_asm); (case k4 => k_asm); (case k5 => k_asm); (case k6 => k_is); (case k7 => k_is); (case k8 => ktr_room); (case k9 => exact BindsTo.of_eq rfl); (case c5 => decide); (case kB => exact locs rfl); (case c2 => exact rfl); (case c3 => exact rfl); (case c4 => exact rfl))
  intro g' L' h' FG' F' N' B' X' T'
  (try dsimp only); (try k_fold)
  iterate 7 (first | (k_unfold; (try dsimp only)) | (k_end; wrow_close) | walk1 | (dsimp only; walk1) | fail "no step")
  k_dflt (refine' callWith_F0 ?k1 ?_; (case k1 => exact FnAt.of (by k_asm) hcf))
  (try dsimp only [List.nil_append, List.cons_append])
  (k_dflt (refine' conX_use C ?uB ?uF ?uX ?uN ?uT ?uk ?ud ?uu ?_; (case uB => k_asm); (case uF => k_asm); (case uX => k_asm); (case uN => k_asm); (case uT => k_asm); (case uk => first | exact rfl | assumption); (case ud => ktr_room); (case uu => ktr_units)); rintro e9 h9 tk9 G9 news9x FG9 R9 up9 hs9x)
  refine caught_own R9 FG9 B' up9 XB TB ?ex ?q ?k
  case ex => k_is
  case q => kernel_rfl
  case k =>
    intro h8 g8 T8 F8 N8 B8 X8 P8
    iterate 4 (first | (k_unfold; (try dsimp only)) | (k_end; wrow_close) | walk1 | (dsimp only; walk1) | fail "no step")
    obtain ⟨h0', T1, F1, N1, B1⟩ := turn_back B FG' T8 (fun b hb => kts_mem (name := cn) (scope := cs) (a := ad) (cd := ccd) hb) F8 N8
    exact hret _ h0' _ _ _ T1 F1 N1 B1 (XB.keeps B1.stays) (TB.keeps B1.stays) ⟨⟨_, rfl⟩, hs9x⟩
end
section
theorem triples_snoc {a b : Int} {t u : Tok} {x : Value} (l : List Value) (h : TriplesOk l) : TriplesOk (l ++ [.int a t, .int b u, x]) := by
  fun_induction TriplesOk l with
  | case1 => simp [TriplesOk]
  | case2 _ _ _ _ _ _ ih => simpa [TriplesOk] using ih h
  | case3 => exact absurd h (by simp)
section
variable {M : Model} {A : Around} {E : Value → Shared → Prop} {s : Shared} {h₀ : Heap} {L c P : Addr} {m mg mb : Str → Option Value} {news : List (Addr × Obj)}
  {p : Program} {loose : List Str} {mean : ExcName → Option Value} {name qual : Str} {params : Arguments} {body : Expr} {scope : Scope} {ps : Array Value} {pos : Pos} {firstLine : Nat} {clos : List (Str × Addr)} {env : Env}
/-- the table of the code objects that a def has made, and those code objects -/
noncomputable def TabHas (news : List (Addr × Obj)) (P : Addr) (qual : Str) (pos : Pos) (ps : Array Value) : Prop :=
  codeAmong pos ps.toList = none ∨ ∃ c' oc vs t, codeAmong pos ps.toList = some (.ref c') ∧ (c', oc) ∈ news ∧ oc.data = .fields vs ∧ vs[1]? = some (.str qual t) ∧ c' ≠ P
theorem mk_lam {Q : Value → Shared → Prop} (F : Fr h₀ L s.heap m) (N : News h₀ L s.heap news) (T : Top p loose mean mg mb h₀) (C : CodeHd h₀ c P) (hge : env.globals = mainGlobals) (hcd : env.code = .ref c) (hm : (P, tabObj ps) ∈ news) (ht : TriplesOk ps.toList)
    (hin : TabHas news P qual pos ps) (hcl : closureFor scope env = pure clos)
    (h : ∀ f c' oc vs t ctv pm ps' nws h' tk, Fr h₀ L h' m → News h₀ L h' nws → (f, kla_obj name qual params body scope clos pm c' ctv) ∈ nws → (c', oc) ∈ nws → oc.data = .fields vs → vs[1]? = some (.str qual t) → c' ≠ P → (P, tabObj ps') ∈ nws → TriplesOk ps'.toList →
      codeAmong pos ps'.toList = some (.ref c') → (ps' = ps ∨ ps' = ps ++ #[rawInt pos.line, rawInt pos.col, .ref c']) → (∀ q ∈ news, q.1 ≠ P → q ∈ nws) → (∀ q ∈ news, q.1 < f) → (codeAmong pos ps.toList = some (.ref c') ∨ ∀ q ∈ news, q.1 < c') → Q (.ref f) { s with heap := h', toks := tk }) :
    wpAny M A (makeFunction name qual params (.expr body) scope env [] [] [] pos firstLine) Q E s := by
  have hmP := N _ hm
  have hgs := T.g.keeps F.keep
  obtain ⟨bm, ob, b1, b2, b3, b4, b5, b6⟩ := T.bmain
  have hgP : mainGlobals ≠ P := fun q => by
    obtain ⟨o, es, ep, e, hd, _⟩ := hgs
    rw [q, hmP.1] at e; cases e; cases hd
  have hbP : bm ≠ P := fun q => by
    have e := F.keep _ _ b3
    rw [q, hmP.1] at e; cases e; cases b4
  have hbG : bm ≠ mainGlobals := fun q => by
    obtain ⟨o, es, ep, e, hd, _⟩ := T.g
    rw [q, e] at b3; cases b3; rw [hd] at b6; cases b6
  have hLs : L < s.heap.objs.size := F.ns.lt
  have fresh : ∀ b, L < b → h₀.get? b = none := fun b hb => Heap.get?_none_of_le (Nat.le_trans F.above (Nat.le_of_lt hb))
  rcases hin with hn | ⟨c', oc, vs, t, hf, hoc, hd, hv, hcP⟩
  · refine kla_makeFunction (mg := mg) hcl hge hgs hcd (C.keeps F.keep) hmP.1 ht hn hgP ⟨bm, ob, b1, b2, hbG, hbP, F.keep _ _ b3, b4, b5, b6⟩ fun c' ctv h' tk hx hge hlt hrec htb => ?_
    obtain ⟨c₂, oc, vs, t, e2, hoc, hd, hv⟩ := hrec
    cases e2
    have hLc : L < c' := Nat.lt_of_lt_of_le hLs hge
    have old : ∀ b o, h₀.get? b = some o → h'.get? b = some o := fun b o e => hx b o (fun q => by rw [q, hmP.2.2] at e; cases e) (F.keep b o e)
    have hnc : ∀ q ∈ news, q.1 < c' := fun q hq => Nat.lt_of_lt_of_le (Heap.lt_size (N q hq).1) hge
    refine h h'.objs.size c' oc vs t ctv _ (ps ++ #[rawInt pos.line, rawInt pos.col, .ref c']) ((h'.objs.size, kla_obj name qual params body scope clos ((mg "__name__").getD .none) c' ctv) :: (c', oc) :: (P, tabObj (ps ++ #[rawInt pos.line, rawInt pos.col, .ref c'])) :: news.filter fun q => q.1 != P) _ tk
      ⟨(F.ns.extBut hx hmP.2.1.symm).push _, fun b o e => Heap.get?_push_of_some _ (old b o e), F.above⟩ (fun q hq => ?_) List.mem_cons_self (List.mem_cons_of_mem _ List.mem_cons_self) hd hv (Nat.ne_of_gt (hnc _ hm)) (List.mem_cons_of_mem _ (List.mem_cons_of_mem _ List.mem_cons_self))
      ?_ ?_ (.inr rfl) (fun q hq hne => List.mem_cons_of_mem _ (List.mem_cons_of_mem _ (List.mem_cons_of_mem _ (List.mem_filter.mpr ⟨hq, by simpa using hne⟩)))) (fun q hq => Nat.lt_trans (hnc q hq) hlt) (.inr hnc)
    · rcases List.mem_cons.mp hq with rfl | hq
      · exact ⟨Heap.get?_push_size _ rfl, Nat.ne_of_gt (Nat.lt_trans hLc hlt), fresh _ (Nat.lt_trans hLc hlt)⟩
      · rcases List.mem_cons.mp hq with rfl | hq
        · exact ⟨Heap.get?_push_of_some _ hoc, Nat.ne_of_gt hLc, fresh _ hLc⟩
        · rcases List.mem_cons.mp hq with rfl | hq
          · exact ⟨Heap.get?_push_of_some _ htb, hmP.2⟩
          · obtain ⟨hq, hne⟩ := List.mem_filter.mp hq
            have n := N q hq
            exact ⟨Heap.get?_push_of_some _ (hx _ _ (by simpa using hne) n.1), n.2⟩
    · rw [Array.toList_append]
      exact triples_snoc _ ht
    · rw [Array.toList_append]
      exact codeAmong_snoc _ ht hn
  · refine kla_makeFunctionHit (mg := mg) hcl hge hgs hcd (C.keeps F.keep) hmP.1 ht hf ⟨bm, ob, b1, b2, hbG, hbP, F.keep _ _ b3, b4, b5, b6⟩ fun ctv h' tk hk hsz => ?_
    have hLs : L < h'.objs.size := Nat.lt_of_lt_of_le F.ns.lt hsz
    refine h h'.objs.size c' oc vs t ctv _ ps ((h'.objs.size, kla_obj name qual params body scope clos ((mg "__name__").getD .none) c' ctv) :: news) _ tk ⟨(F.ns.keeps hk).push _, fun b o e => Heap.get?_push_of_some _ (hk b o (F.keep b o e)), F.above⟩ (fun q hq => ?_) List.mem_cons_self
      (List.mem_cons_of_mem _ hoc) hd hv hcP (List.mem_cons_of_mem _ hm) ht hf (.inl rfl) (fun q hq _ => List.mem_cons_of_mem _ hq) (fun q hq => Nat.lt_of_lt_of_le (Heap.lt_size (N q hq).1) hsz) (.inl hf)
    rcases List.mem_cons.mp hq with rfl | hq
    · exact ⟨Heap.get?_push_size _ rfl, Nat.ne_of_gt hLs, fresh _ hLs⟩
    · exact ⟨Heap.get?_push_of_some _ (hk _ _ (N q hq).1), (N q hq).2⟩
end
end
section
noncomputable abbrev lamSc (names : List (Str × NameKind)) : Scope := { kind := .function, names := names, isGenerator := false, isCoroutine := false }
noncomputable abbrev noArgs : Arguments := { posonlyargs := [], args := [], vararg := none, kwonlyargs := [], kw_defaults := [], kwarg := none, defaults := [] }
theorem lamv_con (prog : Program) (w : World) (news : List (Addr × Obj)) (f c' ct ce Tr : Addr) (i : Nat) (ti : Tok) (pm ctv : Value) (name qual : Str) (p1 p2 p3 p4 : Pos) (oc o1 o2 : Obj) (vs : Array Value) (t : Tok) (d u : Nat) (Ret : Value → List (Addr × Obj) → Prop)
    (hf : (f, kla_obj name qual noArgs (.Call (.Name (Str.ofString "variable_name") p1) [.Name (Str.ofString "tree") p2, .Name (Str.ofString "element") p3] [] p4) (lamSc [(Str.ofString "element", .free), (Str.ofString "tree", .free), (Str.ofString "variable_name", .globalImplicit)]) [(Str.ofString "tree", ct), (Str.ofString "element", ce)] pm c' ctv) ∈ news)
    (hc : (c', oc) ∈ news) (hd9 : oc.data = .fields vs) (hv9 : vs[1]? = some (.str qual t)) (h1 : (ct, o1) ∈ news) (d1 : o1.data = .cell (some (.ref Tr))) (h2 : (ce, o2) ∈ news) (d2 : o2.data = .cell (some (.int (i : Int) ti))) (hdz : d < 200) (huz : u < 10000)
    (C : Con prog w d u 193 [.ref Tr, .int (i : Int) ti] news Ret) : Con prog w (d + 10) (u + 200) f [] news Ret := by
  unfold Con
  intro p loose mean mg mb dp un gd cn cs ad ccd cl outer A₀ base h₀ L m s Q E B F X N T hk hdp hu hret
  refine wpAny_call ?_
  k_dflt (refine' kla_code ?k1 ?k2 ?k3 ?k4 ?k5 ?kA ?kF ?kK ?k6 ?k7 ?k8 ?k9 ?kB ?_ ?c2 ?c3 ?c4 ?c5; (case kA => exact rfl); (case kF => exact rfl); (case kK => assumption); (case k1 => k_asm); (case k2 => k_asm); (case k3 => k_asm); (case k4 => k_asm); (case k5 => k_asm); (case k6 => exact hf); (case k7 => exact codeRec_news (by k_asm) hc hd9 hv9); (case k8 => ktr_room); (case k9 => exact rfl); (case c5 => decide); (case kB => exact locs rfl); (case c2 => exact rfl); (case c3 => exact rfl); (case c4 => exact rfl); k_whole)
  intro g' L' h' FG' F' N' B' X' T'
  (try dsimp only); (try k_fold)
  (repeat ((fail_if_success (k_dflt (show wpAny _ _ (call (.ref 193) _) _ _ _))); (first | (k_unfold; (try dsimp only)) | (k_end; wrow_close) | walk1 | (dsimp only; walk1) | fail "no step"))); (try dsimp only [List.nil_append, List.cons_append])
  (k_dflt (refine' con_use C ?uB ?uF ?uX ?uN ?uT ?uk ?ud ?uu ?_; (case uB => k_asm); (case uF => k_asm); (case uX => k_asm); (case uN => k_asm);  (case uT => k_asm); (case uk => first | exact rfl | assumption); (case ud => ktr_room); (case uu => ktr_units)); rintro r9 news9 h9 tk9 F9 N9 hR9; (try dsimp only))
  (repeat' (first | (k_unfold; (try dsimp only)) | (k_end; wrow_close) | walk1 | (dsimp only; walk1) | fail "no step"))
  (rename News _ _ _ _ => kN; rename Fr _ _ _ _ => kF; refine hret _ _ _ _ kF kN ?_)
  exact hR9
theorem lamv_X (prog : Program) (w : World) (news : List (Addr × Obj)) (f c' ct ce Tr : Addr) (i : Nat) (ti : Tok) (pm ctv : Value) (name qual : Str) (p1 p2 p3 p4 : Pos) (oc o1 o2 : Obj) (vs : Array Value) (t : Tok) (d u : Nat)
    (hf : (f, kla_obj name qual noArgs (.Call (.Name (Str.ofString "variable_name") p1) [.Name (Str.ofString "tree") p2, .Name (Str.ofString "element") p3] [] p4) (lamSc [(Str.ofString "element", .free), (Str.ofString "tree", .free), (Str.ofString "variable_name", .globalImplicit)]) [(Str.ofString "tree", ct), (Str.ofString "element", ce)] pm c' ctv) ∈ news)
    (hc : (c', oc) ∈ news) (hd9 : oc.data = .fields vs) (hv9 : vs[1]? = some (.str qual t)) (h1 : (ct, o1) ∈ news) (d1 : o1.data = .cell (some (.ref Tr))) (h2 : (ce, o2) ∈ news) (d2 : o2.data = .cell (some (.int (i : Int) ti))) (hdz : d < 200) (huz : u < 10000)
    (C : ConX prog w d u 193 [.ref Tr, .int (i : Int) ti] news) : ConX prog w (d + 10) (u + 200) f [] news := by
  unfold ConX
  intro p loose mean mg mb dp un gd cn cs ad ccd cl outer A₀ base h₀ L m s Q E B F X N T hk hdp hu hret
  refine wpAny_call ?_
  k_dflt (refine' kla_code ?k1 ?k2 ?k3 ?k4 ?k5 ?kA ?kF ?kK ?k6 ?k7 ?k8 ?k9 ?kB ?_ ?c2 ?c3 ?c4 ?c5; (case kA => exact rfl); (case kF => exact rfl); (case kK => assumption); (case k1 => k_asm); (case k2 => k_asm); (case k3 => k_asm); (case k4 => k_asm); (case k5 => k_asm); (case k6 => exact hf); (case k7 => exact codeRec_news (by k_asm) hc hd9 hv9); (case k8 => ktr_room); (case k9 => exact rfl); (case c5 => decide); (case kB => exact locs rfl); (case c2 => exact rfl); (case c3 => exact rfl); (case c4 => exact rfl); k_whole)
  intro g' L' h' FG' F' N' B' X' T'
  (try dsimp only); (try k_fold)
  (repeat ((fail_if_success (k_dflt (show wpAny _ _ (call (.ref 193) _) _ _ _))); (first | (k_unfold; (try dsimp only)) | (k_end; wrow_close) | walk1 | (dsimp only; walk1) | fail "no step"))); (try dsimp only [List.nil_append, List.cons_append])
  (k_dflt (refine' conX_use C ?uB ?uF ?uX ?uN ?uT ?uk ?ud ?uu ?_; (case uB => k_asm); (case uF => k_asm); (case uX => k_asm); (case uN => k_asm); (case uT => k_asm); (case uk => first | exact rfl | assumption); (case ud => ktr_room); (case uu => ktr_units)); rintro e9 h9 tk9 G9 news9x FG9 R9 up9 hs9x)
  exact leave_onX B' FG9 R9 up9 (fun h' R up => hret e9 h' _ _ _ FG' R up hs9x)
theorem lamm_con (prog : Program) (w : World) (news : List (Addr × Obj)) (f c' ct ce Tr : Addr) (i : Nat) (ti : Tok) (pm ctv : Value) (name qual : Str) (p1 p2 p3 p4 : Pos) (oc o1 o2 : Obj) (vs : Array Value) (t : Tok) (d u : Nat) (Ret : Value → List (Addr × Obj) → Prop)
    (hf : (f, kla_obj name qual noArgs (.Call (.Name (Str.ofString "mode_of") p1) [.Name (Str.ofString "tree") p2, .Name (Str.ofString "element") p3] [] p4) (lamSc [(Str.ofString "element", .free), (Str.ofString "tree", .free), (Str.ofString "mode_of", .globalImplicit)]) [(Str.ofString "tree", ct), (Str.ofString "element", ce)] pm c' ctv) ∈ news)
    (hc : (c', oc) ∈ news) (hd9 : oc.data = .fields vs) (hv9 : vs[1]? = some (.str qual t)) (h1 : (ct, o1) ∈ news) (d1 : o1.data = .cell (some (.ref Tr))) (h2 : (ce, o2) ∈ news) (d2 : o2.data = .cell (some (.int (i : Int) ti))) (hdz : d < 200) (huz : u < 10000)
    (C : Con prog w d u 200 [.ref Tr, .int (i : Int) ti] news Ret) : Con prog w (d + 10) (u + 200) f [] news Ret := by
  unfold Con
  intro p loose mean mg mb dp un gd cn cs ad ccd cl outer A₀ base h₀ L m s Q E B F X N T hk hdp hu hret
  refine wpAny_call ?_
  k_dflt (refine' kla_code ?k1 ?k2 ?k3 ?k4 ?k5 ?kA ?kF ?kK ?k6 ?k7 ?k8 ?k9 ?kB ?_ ?c2 ?c3 ?c4 ?c5; (case kA => exact rfl); (case kF => exact rfl); (case kK => assumption); (case k1 => k_asm); (case k2 => k_asm); (case k3 => k_asm); (case k4 => k_asm); (case k5 => k_asm); (case k6 => exact hf); (case k7 => exact codeRec_news (by k_asm) hc hd9 hv9); (case k8 => ktr_room); (case k9 => exact rfl); (case c5 => decide); (case kB => exact locs rfl); (case c2 => exact rfl); (case c3 => exact rfl); (case c4 => exact rfl); k_whole)
  intro g' L' h' FG' F' N' B' X' T'
  (try dsimp only); (try k_fold)
  (repeat ((fail_if_success (k_dflt (show wpAny _ _ (call (.ref 200) _) _ _ _))); (first | (k_unfold; (try dsimp only)) | (k_end; wrow_close) | walk1 | (dsimp only; walk1) | fail "no step"))); (try dsimp only [List.nil_append, List.cons_append])
  (k_dflt (refine' con_use C ?uB ?uF ?uX ?uN ?uT ?uk ?ud ?uu ?_; (case uB => k_asm); (case uF => k_asm); (case uX => k_asm); (case uN => k_asm);  (case uT => k_asm); (case uk => first | exact rfl | assumption); (case ud => ktr_room); (case uu => ktr_units)); rintro r9 news9 h9 tk9 F9 N9 hR9; (try dsimp only))
  (repeat' (first | (k_unfold; (try dsimp only)) | (k_end; wrow_close) | walk1 | (dsimp only; walk1) | fail "no step"))
  (rename News _ _ _ _ => kN; rename Fr _ _ _ _ => kF; refine hret _ _ _ _ kF kN ?_)
  exact hR9
theorem lamm_X (prog : Program) (w : World) (news : List (Addr × Obj)) (f c' ct ce Tr : Addr) (i : Nat) (ti : Tok) (pm ctv : Value) (name qual : Str) (p1 p2 p3 p4 : Pos) (oc o1 o2 : Obj) (vs : Array Value) (t : Tok) (d u : Nat)
    (hf : (f, kla_obj name qual noArgs (.Call (.Name (Str.ofString "mode_of") p1) [.Name (Str.ofString "tree") p2, .Name (Str.ofString "element") p3] [] p4) (lamSc [(Str.ofString "element", .free), (Str.ofString "tree", .free), (Str.ofString "mode_of", .globalImplicit)]) [(Str.ofString "tree", ct), (Str.ofString "element", ce)] pm c' ctv) ∈ news)
    (hc : (c', oc) ∈ news) (hd9 : oc.data = .fields vs) (hv9 : vs[1]? = some (.str qual t)) (h1 : (ct, o1) ∈ news) (d1 : o1.data = .cell (some (.ref Tr))) (h2 : (ce, o2) ∈ news) (d2 : o2.data = .cell (some (.int (i : Int) ti))) (hdz : d < 200) (huz : u < 10000)
    (C : ConX prog w d u 200 [.ref Tr, .int (i : Int) ti] news) : ConX prog w (d + 10) (u + 200) f [] news := by
  unfold ConX
  intro p loose mean mg mb dp un gd cn cs ad ccd cl outer A₀ base h₀ L m s Q E B F X N T hk hdp hu hret
  refine wpAny_call ?_
  k_dflt (refine' kla_code ?k1 ?k2 ?k3 ?k4 ?k5 ?kA ?kF ?kK ?k6 ?k7 ?k8 ?k9 ?kB ?_ ?c2 ?c3 ?c4 ?c5; (case kA => exact rfl); (case kF => exact rfl); (case kK => assumption); (case k1 => k_asm); (case k2 => k_asm); (case k3 => k_asm); (case k4 => k_asm); (case k5 => k_asm); (case k6 => exact hf); (case k7 => exact codeRec_news (by k_asm) hc hd9 hv9); (case k8 => ktr_room); (case k9 => exact rfl); (case c5 => decide); (case kB => exact locs rfl); (case c2 => exact rfl); (case c3 => exact rfl); (case c4 => exact rfl); k_whole)
  intro g' L' h' FG' F' N' B' X' T'
  (try dsimp only); (try k_fold)
  (repeat ((fail_if_success (k_dflt (show wpAny _ _ (call (.ref 200) _) _ _ _))); (first | (k_unfold; (try dsimp only)) | (k_end; wrow_close) | walk1 | (dsimp only; walk1) | fail "no step"))); (try dsimp only [List.nil_append, List.cons_append])
  (k_dflt (refine' conX_use C ?uB ?uF ?uX ?uN ?uT ?uk ?ud ?uu ?_; (case uB => k_asm); (case uF => k_asm); (case uX => k_asm); (case uN => k_asm); (case uT => k_asm); (case uk => first | exact rfl | assumption); (case ud => ktr_room); (case uu => ktr_units)); rintro e9 h9 tk9 G9 news9x FG9 R9 up9 hs9x)
  exact leave_onX B' FG9 R9 up9 (fun h' R up => hret e9 h' _ _ _ FG' R up hs9x)
theorem lame_con (prog : Program) (w : World) (news : List (Addr × Obj)) (f c' ct ce Tr : Addr) (i : Nat) (ti : Tok) (pm ctv : Value) (name qual : Str) (p1 p2 p3 p4 : Pos) (oc o1 o2 : Obj) (vs : Array Value) (t : Tok) (d u : Nat) (Ret : Value → List (Addr × Obj) → Prop) (co : Addr) (o3 : Obj) (p5 : Pos) (one : Str) (t1 : Tok) (h3 : (co, o3) ∈ news) (d3 : o3.data = .cell (some (.str one t1)))
    (hf : (f, kla_obj name qual noArgs (.Call (.Name (Str.ofString "expanded") p1) [.Name (Str.ofString "tree") p2, .Name (Str.ofString "element") p3, .Name (Str.ofString "one") p5] [] p4) (lamSc [(Str.ofString "element", .free), (Str.ofString "one", .free), (Str.ofString "tree", .free), (Str.ofString "expanded", .globalImplicit)]) [(Str.ofString "tree", ct), (Str.ofString "one", co), (Str.ofString "element", ce)] pm c' ctv) ∈ news)
    (hc : (c', oc) ∈ news) (hd9 : oc.data = .fields vs) (hv9 : vs[1]? = some (.str qual t)) (h1 : (ct, o1) ∈ news) (d1 : o1.data = .cell (some (.ref Tr))) (h2 : (ce, o2) ∈ news) (d2 : o2.data = .cell (some (.int (i : Int) ti))) (hdz : d < 200) (huz : u < 10000)
    (C : Con prog w d u 186 [.ref Tr, .int (i : Int) ti, .str one t1] news Ret) : Con prog w (d + 10) (u + 200) f [] news Ret := by
  unfold Con
  intro p loose mean mg mb dp un gd cn cs ad ccd cl outer A₀ base h₀ L m s Q E B F X N T hk hdp hu hret
  refine wpAny_call ?_
  k_dflt (refine' kla_code ?k1 ?k2 ?k3 ?k4 ?k5 ?kA ?kF ?kK ?k6 ?k7 ?k8 ?k9 ?kB ?_ ?c2 ?c3 ?c4 ?c5; (case kA => exact rfl); (case kF => exact rfl); (case kK => assumption); (case k1 => k_asm); (case k2 => k_asm); (case k3 => k_asm); (case k4 => k_asm); (case k5 => k_asm); (case k6 => exact hf); (case k7 => exact codeRec_news (by k_asm) hc hd9 hv9); (case k8 => ktr_room); (case k9 => exact rfl); (case c5 => decide); (case kB => exact locs rfl); (case c2 => exact rfl); (case c3 => exact rfl); (case c4 => exact rfl); k_whole)
  intro g' L' h' FG' F' N' B' X' T'
  (try dsimp only); (try k_fold)
  (repeat ((fail_if_success (k_dflt (show wpAny _ _ (call (.ref 186) _) _ _ _))); (first | (k_unfold; (try dsimp only)) | (k_end; wrow_close) | walk1 | (dsimp only; walk1) | fail "no step"))); (try dsimp only [List.nil_append, List.cons_append])
  (k_dflt (refine' con_use C ?uB ?uF ?uX ?uN ?uT ?uk ?ud ?uu ?_; (case uB => k_asm); (case uF => k_asm); (case uX => k_asm); (case uN => k_asm);  (case uT => k_asm); (case uk => first | exact rfl | assumption); (case ud => ktr_room); (case uu => ktr_units)); rintro r9 news9 h9 tk9 F9 N9 hR9; (try dsimp only))
  (repeat' (first | (k_unfold; (try dsimp only)) | (k_end; wrow_close) | walk1 | (dsimp only; walk1) | fail "no step"))
  (rename News _ _ _ _ => kN; rename Fr _ _ _ _ => kF; refine hret _ _ _ _ kF kN ?_)
  exact hR9
theorem lame_X (prog : Program) (w : World) (news : List (Addr × Obj)) (f c' ct ce Tr : Addr) (i : Nat) (ti : Tok) (pm ctv : Value) (name qual : Str) (p1 p2 p3 p4 : Pos) (oc o1 o2 : Obj) (vs : Array Value) (t : Tok) (d u : Nat)  (co : Addr) (o3 : Obj) (p5 : Pos) (one : Str) (t1 : Tok) (h3 : (co, o3) ∈ news) (d3 : o3.data = .cell (some (.str one t1)))
    (hf : (f, kla_obj name qual noArgs (.Call (.Name (Str.ofString "expanded") p1) [.Name (Str.ofString "tree") p2, .Name (Str.ofString "element") p3, .Name (Str.ofString "one") p5] [] p4) (lamSc [(Str.ofString "element", .free), (Str.ofString "one", .free), (Str.ofString "tree", .free), (Str.ofString "expanded", .globalImplicit)]) [(Str.ofString "tree", ct), (Str.ofString "one", co), (Str.ofString "element", ce)] pm c' ctv) ∈ news)
    (hc : (c', oc) ∈ news) (hd9 : oc.data = .fields vs) (hv9 : vs[1]? = some (.str qual t)) (h1 : (ct, o1) ∈ news) (d1 : o1.data = .cell (some (.ref Tr))) (h2 : (ce, o2) ∈ news) (d2 : o2.data = .cell (some (.int (i : Int) ti))) (hdz : d < 200) (huz : u < 10000)
    (C : ConX prog w d u 186 [.ref Tr, .int (i : Int) ti, .str one t1] news) : ConX prog w (d + 10) (u + 200) f [] news := by
  unfold ConX
  intro p loose mean mg mb dp un gd cn cs ad ccd cl outer A₀ base h₀ L m s Q E B F X N T hk hdp hu hret
  refine wpAny_call ?_
  k_dflt (refine' kla_code ?k1 ?k2 ?k3 ?k4 ?k5 ?kA ?kF ?kK ?k6 ?k7 ?k8 ?k9 ?kB ?_ ?c2 ?c3 ?c4 ?c5; (case kA => exact rfl); (case kF => exact rfl); (case kK => assumption); (case k1 => k_asm); (case k2 => k_asm); (case k3 => k_asm); (case k4 => k_asm); (case k5 => k_asm); (case k6 => exact hf); (case k7 => exact codeRec_news (by k_asm) hc hd9 hv9); (case k8 => ktr_room); (case k9 => exact rfl); (case c5 => decide); (case kB => exact locs rfl); (case c2 => exact rfl); (case c3 => exact rfl); (case c4 => exact rfl); k_whole)
  intro g' L' h' FG' F' N' B' X' T'
  (try dsimp only); (try k_fold)
  (repeat ((fail_if_success (k_dflt (show wpAny _ _ (call (.ref 186) _) _ _ _))); (first | (k_unfold; (try dsimp only)) | (k_end; wrow_close) | walk1 | (dsimp only; walk1) | fail "no step"))); (try dsimp only [List.nil_append, List.cons_append])
  (k_dflt (refine' conX_use C ?uB ?uF ?uX ?uN ?uT ?uk ?ud ?uu ?_; (case uB => k_asm); (case uF => k_asm); (case uX => k_asm); (case uN => k_asm); (case uT => k_asm); (case uk => first | exact rfl | assumption); (case ud => ktr_room); (case uu => ktr_units)); rintro e9 h9 tk9 G9 news9x FG9 R9 up9 hs9x)
  exact leave_onX B' FG9 R9 up9 (fun h' R up => hret e9 h' _ _ _ FG' R up hs9x)
end
section
structure SrcIs (news : List (Addr × Obj)) (src : Addr) : Prop where
  ex : ∃ a b ta tb n, (src, lob [.int a ta, .int b tb] n) ∈ news ∧ 0 ≤ a ∧ 0 ≤ b ∧ b < 2147483647
theorem SrcIs.mono {n1 n2 : List (Addr × Obj)} {src : Addr} (h : ∀ o, (src, o) ∈ n1 → (src, o) ∈ n2) (Z : SrcIs n1 src) : SrcIs n2 src :=
  by obtain ⟨a, b, ta, tb, n, e, r⟩ := Z.ex; exact ⟨a, b, ta, tb, n, h _ e, r⟩
theorem take_src (prog : Program) (w : World) (news : List (Addr × Obj)) (src : Addr) (Z : SrcIs news src) (top : Int) (tt : Tok) (h3 : 0 < top) (h4 : top < 100) :
    Con prog w 1 8 467 [.ref src, .int top tt] news (fun r news' => ∃ x t, r = .int x t ∧ 0 ≤ x ∧ x < top ∧ SrcIs news' src ∧ ∀ p ∈ news, p.1 ≠ src → p ∈ news') := by
  intro p loose mean mg mb dp un gd cn cs ad ccd cl outer A₀ base h₀ L m s Q E B F X N T hk hdp hu hret
  obtain ⟨a, b, ta, tb, n, e, h0, h1, h2⟩ := Z.ex
  obtain ⟨rest, N1, hne, hup, -⟩ := News.focus N e
  refine take_con prog w rest src a b top ta tb tt n hne h0 h1 h2 h3 h4 p loose mean mg mb dp un gd cn cs ad ccd cl outer A₀ base h₀ L m s Q E B F X N1 T hk hdp hu ?_
  rintro r news' h' tk' F' N' ⟨x, t, a', ta', b', tb', n', rfl, hx0, hx1, ha, hb, hb2, rfl⟩
  exact hret _ _ _ _ F' N' ⟨x, t, rfl, hx0, hx1, ⟨a', b', ta', tb', n', List.mem_cons_self, ha, hb, hb2⟩, fun p hp hq => List.mem_cons_of_mem _ (hup p hp hq)⟩
theorem one_con (prog : Program) (w : World) (news : List (Addr × Obj)) (src : Addr) (Z : SrcIs news src) (Th : Addr) (vs : List Value) (k : Nat) (hT : (Th, lob vs k) ∈ news) (hne : Th ≠ src) (h3 : 0 < vs.length) (h4 : vs.length < 60) (hv : ∀ v ∈ vs, handedIn v = true) :
    Con prog w 10 200 474 [.ref src, .ref Th] news (fun r news' => r ∈ vs ∧ SrcIs news' src ∧ ∀ p ∈ news, p.1 ≠ src → p ∈ news') := by
  unfold Con
  (intro p loose mean mg mb dp un gd cn cs ad ccd cl outer A₀ base h₀ L m s Q E B F X N T hk hdp hu hret; refine wpAny_call ?_; k_dflt ktr_enter; (refine env_let (t := fun e => execs _ e) ?_; intro ev Av); (with_reducible rename Fr _ _ _ (fun _ => _) => kF0; refine fr_let kF0 ?_; clear kF0; intro m0 kF0))
  (repeat ((fail_if_success (k_dflt (with_reducible show wpAny _ _ (call (.builtin "len") _) _ _ _))); (first | (k_unfold; (try dsimp only)) | (k_end; wrow_close) | walk1 | (dsimp only; walk1) | fail "no step")))
  rename News _ _ _ _ => kN
  k_dflt (refine' ls_len kN hT ?k3 ?_; (case k3 => exact Nat.lt_trans h4 (by decide)))
  (repeat ((fail_if_success (k_dflt (show wpAny _ _ (call (.ref 467) _) _ _ _))); (first | (k_unfold; (try dsimp only)) | (k_end; wrow_close) | walk1 | (dsimp only; walk1) | fail "no step"))); (try dsimp only [List.nil_append, List.cons_append])
  k_dflt (show wpAny _ _ (call (.ref 467) [.ref src, .int _ _]) _ _ _)
  (k_dflt (refine' con_use (take_src _ _ _ src Z _ _ (by omega) (by omega)) ?uB ?uF ?uX ?uN ?uT ?uk ?ud ?uu ?_; (case uB => k_asm); (case uF => k_asm); (case uX => k_asm); (case uN => k_asm);  (case uT => k_asm); (case uk => first | exact rfl | assumption); (case ud => ktr_room); (case uu => ktr_units)); rintro r9 news9 h9 tk9 F9 N9 ⟨x, t, rfl, hx0, hx1, Z9, hs9⟩; (try dsimp only))
  (repeat ((fail_if_success (k_dflt (with_reducible show wpAny _ _ (subscriptTail _ _ _ _) _ _ _))); (first | (k_unfold; (try dsimp only)) | (k_end; wrow_close) | walk1 | (dsimp only; walk1) | fail "no step")))
  rename News _ _ _ _ => kN
  obtain ⟨v, hv9⟩ : ∃ v, vs[x.toNat]? = some v := ⟨_, List.getElem?_eq_getElem (by omega)⟩
  have hvm := List.mem_of_getElem? hv9
  have hh := hv v hvm
  k_dflt (refine ls_sub (vs := vs) (x := v) kN (hs9 _ hT hne) hx0 (by omega) hv9 ?_)
  (repeat' (first | (k_unfold; (try dsimp only)) | (k_end; wrow_close) | walk1 | (dsimp only; walk1) | fail "no step"))
  (rename News _ _ _ _ => kN; rename Fr _ _ _ _ => kF; refine hret _ _ _ _ kF kN ?_)
  exact ⟨hvm, Z9, hs9⟩
end
section
section
variable {prog : Program} {w : World} {A A₀ : Around} {s : Shared} {K : Frag} {L : Addr} {h₀ base : Heap} {m mg mb : Str → Option Value} {news : List (Addr × Obj)} {p : Program} {loose : List Str} {mean : ExcName → Option Value}
theorem enterTC {env : Env} {outer : List Env} {R : Result → Shared → Prop} {name qual : Str} {params : Arguments} {body : List Stmt} {scope : Scope} {dV kV doc pm cdv ct oc : Value} {an od : Option Addr} {osl : Array (Option Value)} {f : Addr} {args : Args} {binds : List (Str × Value)}
    (B : Below A₀ base outer h₀) (F : Fr h₀ L s.heap m) (X₀ : K.In h₀) (N : News h₀ L s.heap news) (T : Top p loose mean mg mb h₀) (hA : A.frames = some (env :: outer)) (hf : env.frame = some L) (hke : env.scope.kind = .function)
    (ho : K.lookup f = some ⟨oc, od, .func (fnOf name qual params body scope dV kV doc pm an cdv ct), osl⟩) (hcd : codeIn K cdv qual = true) (hroom : A.depth < recursionLimit)
    (hbind : BindsTo s (fnOf name qual params body scope dV kV doc pm an cdv ct) args binds) (hkind : (binds.all fun y => scope.names.lookup y.1 == some .local || scope.names.lookup y.1 == some .cell) = true)
    (hnd : ((cellsFrom 0 scope.names []).map (·.1)).Nodup)
    (h : ∀ g L' h₁ tk cells, Fr h₀ L g m → Fr g L' h₁ (bindL (envOfC qual scope L' f cdv).kindOf binds fun _ => none) → News g L' h₁ (cells ++ news) →
      CellsAre (bindC (envOfC qual scope L' f cdv).kindOf binds fun _ => none) (cellsFrom (L' + 1) scope.names []) cells → Below A base (env :: outer) g → K.In g → Top p loose mean mg mb g → (∀ p ∈ news, p.1 < L') → (∀ b o, s.heap.get? b = some o → b ∉ news.map (·.1) → g.get? b = some o) →
      wpAny (model prog w) (A.deeper (envOfC qual scope L' f cdv)) (execs body (envOfC qual scope L' f cdv))
        (fun fl s' => R (.ok (.ret (match fl with | .ret v => v | _ => .none))) s')
        (fun e s' => wpAny (model prog w) (A.deeper (envOfC qual scope L' f cdv)) (leaving (envOfC qual scope L' f cdv) e) (fun _ s'' => R (.error e) s'') (fun e' s'' => R (.error e') s'') s')
        { s with heap := h₁, toks := tk })
    (hco : scope.isCoroutine = false) (hgen : scope.isGenerator = false) (hk : scope.kind = .function) : codeAny (model prog w) A (.call (.ref f) args) R s := by
  obtain ⟨FG, BG, st, -⟩ := groundX (R := R) B F N hA hf hke
  refine codeAny_call_function (fd := fnOf name qual params body scope dV kV doc pm an cdv ct) hroom ((X₀.keeps F.keep) _ _ ho) rfl hco hgen rfl (codeRec_of (X₀.keeps F.keep) hcd) (hbind _ _ _ _ ?_)
  refine wpAny_newFunctionEnv_cells hk (kindsX hkind _) fun env' he s' x => ?_
  subst he
  refine ⟨(T.nolimit.keeps F.keep).keeps x.toInCall.keep, codeAny_func ?_⟩
  obtain ⟨h₁, tk, rfl, _⟩ := x.done
  have hk₁ := x.toInCall.keep
  obtain ⟨cells, NC, Y⟩ := Cl.news (h₀ := s.heap) (Nat.le_refl _) fun n c hm => ⟨x.cell n c (lookup_of_mem_nodup (cellsFrom_names scope.names 0 (s.heap.objs.size + 1) [] [] rfl ▸ hnd) hm), x.above n c hm⟩
  refine h _ s.heap.objs.size h₁ tk cells FG ⟨x.toInCall.ns, fun b o e => hk₁ b o (of_hideAll _ e), Nat.le_of_eq (hideAll_size _ _)⟩ (fun p hp => ?_) Y BG (X₀.keeps st) (T.keeps st) (fun p hp => Heap.lt_size (N p hp).1) (fun b o e n => hideAll_get _ e n)
  rcases List.mem_append.mp hp with hp | hp
  · refine ⟨(NC p hp).1, (NC p hp).2.1, ?_⟩
    cases q : (hideAll s.heap (news.map (·.1))).get? p.1 with
    | none => rfl
    | some o => have := of_hideAll _ q; rw [(NC p hp).2.2] at this; cases this
  · exact ⟨hk₁ _ _ (N p hp).1, Nat.ne_of_lt (Heap.lt_size (N p hp).1), hideAll_none _ (List.mem_map_of_mem hp)⟩
end
end
section
theorem TreeIs.dat {n1 n2 : List (Addr × Obj)} {T dt R : Addr} {vs : List Value} {rows : List NRow} {S : Addr → List Int} (hs : ∀ p ∈ n1, (∀ vs, p.2.data ≠ .fields vs) → p ∈ n2) (X : TreeIs n1 T dt R vs rows S) : TreeIs n2 T dt R vs rows S where
  inst := hs _ X.inst (fun _ q => by cases q)
  dict := by obtain ⟨h, tk, e⟩ := X.dict; exact ⟨h, tk, hs _ e (fun _ q => by cases q)⟩
  lst := by obtain ⟨n, e⟩ := X.lst; exact ⟨n, hs _ e (fun _ q => by cases q)⟩
  len := X.len
  small := X.small
  row := fun i r e => by obtain ⟨v, a, x, d, f, t, u, b, c, d'⟩ := X.row i r e; exact ⟨v, a, x, d, f, t, u, b, hs _ c (fun _ q => by cases q), hs _ d' (fun _ q => by cases q)⟩
  sub := fun r hr D hD => by obtain ⟨ys, k, a, b, c⟩ := X.sub r hr D hD; exact ⟨ys, k, hs _ a (fun _ q => by cases q), b, c⟩
  nd := X.nd
theorem ScopeD.dat {prog : Program} {w : World} {n1 n2 : List (Addr × Obj)} {D : Addr} {f : Str → Option Str} {n : Nat} (hs : ∀ p ∈ n1, (∀ vs, p.2.data ≠ .fields vs) → p ∈ n2) (Z : ScopeD prog w n1 D f n) : ScopeD prog w n2 D f n :=
  ⟨Z.lo, by obtain ⟨o, kvs, DD, a, b, c⟩ := Z.ex; exact ⟨o, kvs, DD, hs _ a (fun vs q => by obtain ⟨es, ep, -, hd, -⟩ := b; rw [hd] at q; cases q), b, c⟩⟩
theorem SrcIs.dat {n1 n2 : List (Addr × Obj)} {src : Addr} (hs : ∀ p ∈ n1, (∀ vs, p.2.data ≠ .fields vs) → p ∈ n2) (Z : SrcIs n1 src) : SrcIs n2 src :=
  by obtain ⟨a, b, ta, tb, n, e, r⟩ := Z.ex; exact ⟨a, b, ta, tb, n, hs _ e (fun _ q => by cases q), r⟩
noncomputable abbrev six (t : Nat → Tok) : List Value := [.str (Str.ofString "a") (t 0), .str (Str.ofString "p:a") (t 1), .str (Str.ofString "q:b") (t 2), .str (Str.ofString "xml:id") (t 3), .str (Str.ofString "z:a") (t 4), .str (Str.ofString "b-1") (t 5)]
/-- what _law_names_right knows of its ledger, once the tree has its attributes -/
structure NF (prog : Program) (w : World) (src Tr dt R Ds Nm Lq : Addr) (vs : List Value) (rows : List NRow) (S : Addr → List Int) (i : Nat) (ti : Tok) (r : NRow) (l : List Nat) (n : Nat) (nt : Nat → Tok) (nk : Nat) (ps : Array Value) (nws : List (Addr × Obj)) : Prop where
  TX : TreeIs nws Tr dt R vs rows S
  EL : Elem rows S i r l
  Z : ScopeD prog w nws Ds (scopeF rows S l) n
  SZ : SrcIs nws src
  hn : n ≤ 1000
  nm : (Nm, lob (six nt) nk) ∈ nws
  ct : ∃ o, (Lq + 1, o) ∈ nws ∧ o.data = .cell (some (.ref Tr))
  ce : ∃ o, (Lq + 1 + 1, o) ∈ nws ∧ o.data = .cell (some (.int (i : Int) ti))
  cs : ∃ o, (Lq + 1 + 1 + 1, o) ∈ nws ∧ o.data = .cell (some (.ref Ds))
  tb : (497, tabObj ps) ∈ nws
theorem NF.tab {prog : Program} {w : World} {src Tr dt R Ds Nm Lq : Addr} {vs : List Value} {rows : List NRow} {S : Addr → List Int} {i : Nat} {ti : Tok} {r : NRow} {l : List Nat} {n : Nat} {nt : Nat → Tok} {nk : Nat} {ps ps' : Array Value} {n1 n2 : List (Addr × Obj)}
    (hs : ∀ p ∈ n1, (∀ vs, p.2.data ≠ .fields vs) → p ∈ n2) (ht : (497, tabObj ps') ∈ n2) (X : NF prog w src Tr dt R Ds Nm Lq vs rows S i ti r l n nt nk ps n1) : NF prog w src Tr dt R Ds Nm Lq vs rows S i ti r l n nt nk ps' n2 where
  TX := X.TX.dat hs
  EL := X.EL
  Z := X.Z.dat hs
  SZ := X.SZ.dat hs
  hn := X.hn
  nm := hs _ X.nm (fun _ q => by cases q)
  ct := by obtain ⟨o, a, b⟩ := X.ct; exact ⟨o, hs _ a (fun _ q => by rw [b] at q; cases q), b⟩
  ce := by obtain ⟨o, a, b⟩ := X.ce; exact ⟨o, hs _ a (fun _ q => by rw [b] at q; cases q), b⟩
  cs := by obtain ⟨o, a, b⟩ := X.cs; exact ⟨o, hs _ a (fun _ q => by rw [b] at q; cases q), b⟩
  tb := ht
theorem NF.mono {prog : Program} {w : World} {src Tr dt R Ds Nm Lq : Addr} {vs : List Value} {rows : List NRow} {S : Addr → List Int} {i : Nat} {ti : Tok} {r : NRow} {l : List Nat} {n : Nat} {nt : Nat → Tok} {nk : Nat} {ps : Array Value} {n1 n2 : List (Addr × Obj)}
    (hs : ∀ p ∈ n1, p ∈ n2) (X : NF prog w src Tr dt R Ds Nm Lq vs rows S i ti r l n nt nk ps n1) : NF prog w src Tr dt R Ds Nm Lq vs rows S i ti r l n nt nk ps n2 := X.tab (fun p hp _ => hs p hp) (hs _ X.tb)
/-- what a ledger keeps when only the table at P changes -/
theorem keep_dat {h₀ h : Heap} {L P : Addr} {ps : Array Value} {n1 n2 : List (Addr × Obj)} (N : News h₀ L h n1) (hp : (P, tabObj ps) ∈ n1) (hs : ∀ p ∈ n1, p.1 ≠ P → p ∈ n2) : ∀ p ∈ n1, (∀ vs, p.2.data ≠ .fields vs) → p ∈ n2 := fun p hm hd => hs p hm fun q => by
  obtain ⟨a, o⟩ := p
  dsimp only at q hd
  subst q
  exact hd ps (congrArg Obj.data (Option.some.inj ((N.get hm).symm.trans (N.get hp))))
end
section
theorem body_of {K : Frag} {f : Addr} {y : Obj} {P : Prop} {oc : Value} {od : Option Addr} {name qual : Str} {params : Arguments} {body : List Stmt} {scope : Scope} {dV kV doc pm cdv ct : Value} {an : Option Addr} {osl : Array (Option Value)}
  (h1 : K.lookup f = some ⟨oc, od, .func (fnOf name qual params body scope dV kV doc pm an cdv ct), osl⟩) (h2 : K.lookup f = some y) (k : (⟨oc, od, .func (fnOf name qual params body scope dV kV doc pm an cdv ct), osl⟩ : Obj) = y → P) : P := k (Option.some.inj (h1.symm.trans h2))
noncomputable def TabL (ps : Array Value) (lns : List Nat) : Prop := TriplesOk ps.toList ∧ ∀ pos : Pos, pos.line ∉ lns → codeAmong pos ps.toList = none
theorem codeAmong_other {pos : Pos} {a b : Int} {t u : Tok} {c : Value} (l : List Value) (h : TriplesOk l) (hn : codeAmong pos l = none) (ha : a ≠ (pos.line : Int)) : codeAmong pos (l ++ [.int a t, .int b u, c]) = none := by
  fun_induction TriplesOk l with
  | case1 => simp [codeAmong, ha]
  | case2 _ _ _ _ _ _ ih =>
    simp only [List.cons_append, codeAmong] at hn ⊢
    split at hn
    · cases hn
    · rename_i hq
      rw [if_neg hq]
      exact ih h hn
  | case3 => exact absurd h (by simp)
theorem TabL.nil : TabL #[] [] := ⟨True.intro, fun _ _ => rfl⟩
theorem TabL.snoc {ps ps' : Array Value} {lns : List Nat} {pos : Pos} {c : Value} (h : TabL ps lns) (e : ps' = ps ∨ ps' = ps ++ #[rawInt pos.line, rawInt pos.col, c]) (ht : TriplesOk ps'.toList) : TabL ps' (pos.line :: lns) := by
  refine ⟨ht, fun q hq => ?_⟩
  rw [List.mem_cons, not_or] at hq
  rcases e with rfl | rfl
  · exact h.2 q hq.2
  · rw [Array.toList_append]
    exact codeAmong_other _ h.1 (h.2 q hq.2) (fun z => hq.1 (by exact_mod_cast z.symm))
theorem s5_ret (prog : Program) (w : World) {oc9 : Value} {od : Option Addr} {name qual : Str} {params : Arguments} {s1 s2 s3 s4 s5 s6 s7 s8 s9 : Stmt} {scope : Scope} {dV kV doc pm9 cdv ct9 : Value} {an : Option Addr} {osl : Array (Option Value)}
  (hb : (hd.heap_39 w.params).lookup 500 = some ⟨oc9, od, .func (fnOf name qual params [s1, s2, s3, s4, s5, s6, s7, s8, s9] scope dV kV doc pm9 an cdv ct9), osl⟩)
    (p : Program) (loose : List Str) (mean : ExcName → Option Value) (mg mb : Str → Option Value)
    (dp un : Nat) (gd : Option (List Code)) (cn : Str) (cs : Scope) (ad : Addr) (ccd : Value) (cl : List (Str × Addr)) (base g : Heap) (L Lq : Addr) (m : Str → Option Value) (s : Shared)
    (Q : Flow → Shared → Prop) (E : Value → Shared → Prop) (nws : List (Addr × Obj))
    (B : Below (ktrTop dp un gd cn cs L ad ccd cl []) base [envX cn cs L ad ccd cl] g) (F : Fr g Lq s.heap m) (X : (hd.heap_39 w.params).In g) (N : News g Lq s.heap nws) (T : Top p loose mean mg mb g) (hdp : dp + 400 < recursionLimit) (hu : un + 9000 < cLine)
    (XB : (hd.heap_39 w.params).In base) (TB : Top p loose mean mg mb base) (CH : CodeHd g 499 497)
    (src Tr dt R Ds Nm : Addr) (vs : List Value) (rows : List NRow) (S : Addr → List Int) (i : Nat) (ti : Tok) (r : NRow) (l : List Nat) (n : Nat) (nt : Nat → Tok) (nk : Nat) (ps : Array Value)
    (ZZ : NF prog w src Tr dt R Ds Nm Lq vs rows S i ti r l n nt nk ps nws) (TL : TabL ps []) (Ret : Value → Prop)
    (C : ∀ n1, TreeIs n1 Tr dt R vs rows S → Con prog w 120 5000 193 [.ref Tr, .int (i : Int) ti] n1 (fun v n2 => Ret v ∧ ∀ p ∈ n1, p ∈ n2))
    (k : ∀ h' tk' v n2 ps', Ret v → Fr g Lq h' (fun y => if y = Str.ofString "told" then some v else m y) → News g Lq h' n2 → TabL ps' [291] → NF prog w src Tr dt R Ds Nm Lq vs rows S i ti r l n nt nk ps' n2 → (∀ q ∈ nws, q.1 ≠ 497 → q ∈ n2) → Q .next { s with heap := h', toks := tk' }) :
    wpAny (model prog w) ((ktrTop dp un gd cn cs L ad ccd cl []).deeper (envOfC qual scope Lq 500 cdv)) (exec s5 (envOfC qual scope Lq 500 cdv)) Q E s := by
  apply body9 hb
  case hl => k_is
  clear hb; intro _
  (first | (refine env_let (t := fun e => execs _ e) ?_; intro ev Av) | (refine env_let (t := fun e => exec _ e) ?_; intro ev Av))
  have hline : (291 : Nat) ∉ ([] : List Nat) := by decide
  iterate 3 (first | (k_unfold; (try dsimp only)) | (k_end; wrow_close) | walk1 | (dsimp only; walk1) | fail "no step")
  k_dflt (refine' callWith_K ?k1 ?k2 ?_; (case k1 => k_asm); (case k2 => k_is); k_whole)
  iterate 1 (first | (k_unfold; (try dsimp only)) | (k_end; wrow_close) | walk1 | (dsimp only; walk1) | fail "no step")
  k_dflt (refine' kla_eval ?d0 ?_; (case d0 => exact rfl))
  k_dflt (refine' mk_lam F N T CH ?ge ?cd ZZ.tb ?t ?n ?cl ?_; (case ge => exact rfl); (case cd => exact rfl); (case t => exact TL.1); (case n => exact Or.inl (TL.2 _ hline)); (case cl => exact rfl))
  intro f9 c9 o9 v9 t9 ctv9 pm9 ps' nws' h9 tk9 F9 N9 hf9 hc9 hd9 hv9 hcP9 htb9 hto9 hca9 hps9 hsub9 hlt9 hfr9
  have Z9 := ZZ.tab (keep_dat N ZZ.tb hsub9) htb9
  have TL9 := TL.snoc hps9 hto9
  obtain ⟨oct, hct, dct⟩ := Z9.ct
  obtain ⟨oce, hce, dce⟩ := Z9.ce
  have CL := lamv_con prog w nws' f9 c9 (Lq + 1) (Lq + 1 + 1) Tr i ti pm9 ctv9 _ _ _ _ _ _ o9 oct oce v9 t9 120 5000 _ hf9 hc9 hd9 hv9 hct dct hce dce (by decide) (by decide) (C _ Z9.TX)
  (repeat ((fail_if_success (k_dflt (show wpAny _ _ (call (.ref 488) _) _ _ _))); (first | (k_unfold; (try dsimp only)) | (k_end; wrow_close) | walk1 | (dsimp only; walk1) | fail "no step"))); (try dsimp only [List.nil_append, List.cons_append])
  (k_dflt (refine' con_use (told_con _ _ _ 130 5200 (by decide) (by decide) f9 _ hf9 CL) ?uB ?uF ?uX ?uN ?uT ?uk ?ud ?uu ?_; (case uB => k_asm); (case uF => k_asm); (case uX => k_asm); (case uN => k_asm);  (case uT => k_asm); (case uk => first | exact rfl | assumption); (case ud => ktr_room); (case uu => ktr_units)); rintro r9 news9 h9 tk9 F9 N9 ⟨hR, hs9⟩; (try dsimp only))
  (repeat' (first | (k_unfold; (try dsimp only)) | (k_end; wrow_close) | walk1 | (dsimp only; walk1) | fail "no step"))
  rename News _ _ _ _ => kN; rename Fr _ _ _ _ => kF
  exact k _ _ _ _ ps' hR kF kN TL9 (Z9.mono hs9) (fun q hq hne => hs9 _ (hsub9 q hq hne))
theorem conT_use {prog : Program} {w : World} {d u : Nat} {f : Addr} {args : List Value} {news : List (Addr × Obj)} {Ret : Value → List (Addr × Obj) → Prop} {p : Program} {loose : List Str} {mean : ExcName → Option Value} {mg mb : Str → Option Value}
    {dp un : Nat} {gd : Option (List Code)} {cn : Str} {cs : Scope} {a : Addr} {ccd : Value} {cl : List (Str × Addr)} {outer : List Env} {A₀ : Around} {base h₀ : Heap} {L : Addr} {m : Str → Option Value} {s : Shared}
    {Q E : Value → Shared → Prop} (C : ConT prog w d u f args news Ret)
    (B : Below A₀ base outer h₀) (F : Fr h₀ L s.heap m) (X : (hd.heap_39 w.params).In h₀) (N : News h₀ L s.heap news) (T : Top p loose mean mg mb h₀) (hk : cs.kind = .function) (hd : dp + d < recursionLimit) (hu : un + u < cLine)
    (XB : (Mine.hd.heap_39 w.params).In base) (TB : Top p loose mean mg mb base)
    (ret : ∀ r h₀' news' h' tk', KtsTurn (outer.filterMap (·.frame)) h₀ h₀' → Fr h₀' L h' m → News h₀' L h' news' → Below A₀ base outer h₀' → (Mine.hd.heap_39 w.params).In h₀' → Top p loose mean mg mb h₀' → Ret r news' → Q r { s with heap := h', toks := tk' }) :
    wpAny (model prog w) (ktrTop dp un gd cn cs L a ccd cl outer) (call (.ref f) args) Q E s :=
  C p loose mean mg mb dp un gd cn cs a ccd cl outer A₀ base h₀ L m s Q E B F X N T hk hd hu XB TB ret
theorem s5_X (prog : Program) (w : World) {oc9 : Value} {od : Option Addr} {name qual : Str} {params : Arguments} {s1 s2 s3 s4 s5 s6 s7 s8 s9 : Stmt} {scope : Scope} {dV kV doc pm9 cdv ct9 : Value} {an : Option Addr} {osl : Array (Option Value)}
  (hb : (hd.heap_39 w.params).lookup 500 = some ⟨oc9, od, .func (fnOf name qual params [s1, s2, s3, s4, s5, s6, s7, s8, s9] scope dV kV doc pm9 an cdv ct9), osl⟩)
    (p : Program) (loose : List Str) (mean : ExcName → Option Value) (mg mb : Str → Option Value)
    (dp un : Nat) (gd : Option (List Code)) (cn : Str) (cs : Scope) (ad : Addr) (ccd : Value) (cl : List (Str × Addr)) (base g : Heap) (L Lq : Addr) (m : Str → Option Value) (s : Shared)
    (Q : Flow → Shared → Prop) (E : Value → Shared → Prop) (nws : List (Addr × Obj))
    (B : Below (ktrTop dp un gd cn cs L ad ccd cl []) base [envX cn cs L ad ccd cl] g) (F : Fr g Lq s.heap m) (X : (hd.heap_39 w.params).In g) (N : News g Lq s.heap nws) (T : Top p loose mean mg mb g) (hdp : dp + 400 < recursionLimit) (hu : un + 9000 < cLine)
    (XB : (hd.heap_39 w.params).In base) (TB : Top p loose mean mg mb base) (CH : CodeHd g 499 497)
    (src Tr dt R Ds Nm : Addr) (vs : List Value) (rows : List NRow) (S : Addr → List Int) (i : Nat) (ti : Tok) (r : NRow) (l : List Nat) (n : Nat) (nt : Nat → Tok) (nk : Nat) (ps : Array Value)
    (ZZ : NF prog w src Tr dt R Ds Nm Lq vs rows S i ti r l n nt nk ps nws) (TL : TabL ps [])
    (C : ∀ n1, TreeIs n1 Tr dt R vs rows S → ConX prog w 120 5000 193 [.ref Tr, .int (i : Int) ti] n1)
    (k : ∀ g' h' tk' t n2 ps', KtsTurn ([envX cn cs L ad ccd cl].filterMap (·.frame)) g g' → Below (ktrTop dp un gd cn cs L ad ccd cl []) base [envX cn cs L ad ccd cl] g' → (Mine.hd.heap_39 w.params).In g' → Top p loose mean mg mb g' → Fr g' Lq h' (fun y => if y = Str.ofString "told" then some (.str (Str.ofString "refused") t) else m y) → News g' Lq h' n2 → TabL ps' [291] → NF prog w src Tr dt R Ds Nm Lq vs rows S i ti r l n nt nk ps' n2 → (∀ q ∈ nws, q.1 ≠ 497 → q ∈ n2) → Q .next { s with heap := h', toks := tk' }) :
    wpAny (model prog w) ((ktrTop dp un gd cn cs L ad ccd cl []).deeper (envOfC qual scope Lq 500 cdv)) (exec s5 (envOfC qual scope Lq 500 cdv)) Q E s := by
  apply body9 hb
  case hl => k_is
  clear hb; intro _
  (first | (refine env_let (t := fun e => execs _ e) ?_; intro ev Av) | (refine env_let (t := fun e => exec _ e) ?_; intro ev Av))
  have hline : (291 : Nat) ∉ ([] : List Nat) := by decide
  iterate 3 (first | (k_unfold; (try dsimp only)) | (k_end; wrow_close) | walk1 | (dsimp only; walk1) | fail "no step")
  k_dflt (refine' callWith_K ?k1 ?k2 ?_; (case k1 => k_asm); (case k2 => k_is); k_whole)
  iterate 1 (first | (k_unfold; (try dsimp only)) | (k_end; wrow_close) | walk1 | (dsimp only; walk1) | fail "no step")
  k_dflt (refine' kla_eval ?d0 ?_; (case d0 => exact rfl))
  k_dflt (refine' mk_lam F N T CH ?ge ?cd ZZ.tb ?t ?n ?cl ?_; (case ge => exact rfl); (case cd => exact rfl); (case t => exact TL.1); (case n => exact Or.inl (TL.2 _ hline)); (case cl => exact rfl))
  intro f9 c9 o9 v9 t9 ctv9 pm9 ps' nws' h9 tk9 F9 N9 hf9 hc9 hd9 hv9 hcP9 htb9 hto9 hca9 hps9 hsub9 hlt9 hfr9
  have Z9 := ZZ.tab (keep_dat N ZZ.tb hsub9) htb9
  have TL9 := TL.snoc hps9 hto9
  obtain ⟨oct, hct, dct⟩ := Z9.ct
  obtain ⟨oce, hce, dce⟩ := Z9.ce
  have CL := lamv_X prog w nws' f9 c9 (Lq + 1) (Lq + 1 + 1) Tr i ti pm9 ctv9 _ _ _ _ _ _ o9 oct oce v9 t9 120 5000 hf9 hc9 hd9 hv9 hct dct hce dce (by decide) (by decide) (C _ Z9.TX)
  (repeat ((fail_if_success (k_dflt (show wpAny _ _ (call (.ref 488) _) _ _ _))); (first | (k_unfold; (try dsimp only)) | (k_end; wrow_close) | walk1 | (dsimp only; walk1) | fail "no step"))); (try dsimp only [List.nil_append, List.cons_append])
  k_dflt (refine' conT_use (told_X _ _ _ 130 5200 (by decide) (by decide) f9 hf9 CL) ?uB ?uF ?uX ?uN ?uT ?uk ?ud ?uu XB TB ?_; (case uB => k_asm); (case uF => k_asm); (case uX => k_asm); (case uN => k_asm); (case uT => k_asm); (case uk => first | exact rfl | assumption); (case ud => ktr_room); (case uu => ktr_units))
  clear F N F9 N9
  rintro r8 g8 n8 h8 tk8 T8 F8 N8 B8 X8 P8 ⟨⟨t8, rfl⟩, hs8⟩
  clear B X T
  (repeat' (first | (k_unfold; (try dsimp only)) | (k_end; wrow_close) | walk1 | (dsimp only; walk1) | fail "no step"))
  rename News _ _ _ _ => kN; rename Fr _ _ _ _ => kF
  exact k g8 _ _ _ _ ps' T8 B8 X8 P8 kF kN TL9 (Z9.mono hs8) (fun q hq hne => hs8 _ (hsub9 q hq hne))
end
section
theorem s4_none (prog : Program) (w : World) {oc9 : Value} {od : Option Addr} {name qual : Str} {params : Arguments} {s1 s2 s3 s4 s5 s6 s7 s8 s9 : Stmt} {scope : Scope} {dV kV doc pm9 cdv ct9 : Value} {an : Option Addr} {osl : Array (Option Value)}
  (hb : (hd.heap_39 w.params).lookup 500 = some ⟨oc9, od, .func (fnOf name qual params [s1, s2, s3, s4, s5, s6, s7, s8, s9] scope dV kV doc pm9 an cdv ct9), osl⟩)
    (p : Program) (loose : List Str) (mean : ExcName → Option Value) (mg mb : Str → Option Value)
    (dp un : Nat) (gd : Option (List Code)) (cn : Str) (cs : Scope) (ad : Addr) (ccd : Value) (cl : List (Str × Addr)) (base g : Heap) (L Lq : Addr) (m : Str → Option Value) (s : Shared)
    (Q : Flow → Shared → Prop) (E : Value → Shared → Prop) (nws : List (Addr × Obj))
    (B : Below (ktrTop dp un gd cn cs L ad ccd cl []) base [envX cn cs L ad ccd cl] g) (F : Fr g Lq s.heap m) (X : (hd.heap_39 w.params).In g) (N : News g Lq s.heap nws) (T : Top p loose mean mg mb g) (hdp : dp + 400 < recursionLimit) (hu : un + 9000 < cLine)
    (XB : (hd.heap_39 w.params).In base) (TB : Top p loose mean mg mb base) (CH : CodeHd g 499 497)
    (src Tr dt R Ds Nm : Addr) (vs : List Value) (rows : List NRow) (S : Addr → List Int) (i : Nat) (ti : Tok) (r : NRow) (l : List Nat) (n : Nat) (nt : Nat → Tok) (nk : Nat) (ps : Array Value)
    (ZZ : NF prog w src Tr dt R Ds Nm Lq vs rows S i ti r l n nt nk ps nws) (hnm : m (Str.ofString "name") = some .none)
    (k : ∀ h' tk' t, Fr g Lq h' (fun y => if y = Str.ofString "due" then some (.str (Str.ofString "refused") t) else m y) → News g Lq h' nws → Q .next { s with heap := h', toks := tk' }) :
    wpAny (model prog w) ((ktrTop dp un gd cn cs L ad ccd cl []).deeper (envOfC qual scope Lq 500 cdv)) (exec s4 (envOfC qual scope Lq 500 cdv)) Q E s := by
  apply body9 hb
  case hl => k_is
  clear hb; intro _
  (first | (refine env_let (t := fun e => execs _ e) ?_; intro ev Av) | (refine env_let (t := fun e => exec _ e) ?_; intro ev Av))
  (repeat' (first | (k_unfold; (try dsimp only)) | (k_end; wrow_close) | walk1 | (dsimp only; walk1) | fail "no step"))
  rename News _ _ _ _ => kN; rename Fr _ _ _ _ => kF
  exact k _ _ _ kF kN
theorem s4_some (prog : Program) (w : World) {oc9 : Value} {od : Option Addr} {name qual : Str} {params : Arguments} {s1 s2 s3 s4 s5 s6 s7 s8 s9 : Stmt} {scope : Scope} {dV kV doc pm9 cdv ct9 : Value} {an : Option Addr} {osl : Array (Option Value)}
  (hb : (hd.heap_39 w.params).lookup 500 = some ⟨oc9, od, .func (fnOf name qual params [s1, s2, s3, s4, s5, s6, s7, s8, s9] scope dV kV doc pm9 an cdv ct9), osl⟩)
    (p : Program) (loose : List Str) (mean : ExcName → Option Value) (mg mb : Str → Option Value)
    (dp un : Nat) (gd : Option (List Code)) (cn : Str) (cs : Scope) (ad : Addr) (ccd : Value) (cl : List (Str × Addr)) (base g : Heap) (L Lq : Addr) (m : Str → Option Value) (s : Shared)
    (Q : Flow → Shared → Prop) (E : Value → Shared → Prop) (nws : List (Addr × Obj))
    (B : Below (ktrTop dp un gd cn cs L ad ccd cl []) base [envX cn cs L ad ccd cl] g) (F : Fr g Lq s.heap m) (X : (hd.heap_39 w.params).In g) (N : News g Lq s.heap nws) (T : Top p loose mean mg mb g) (hdp : dp + 400 < recursionLimit) (hu : un + 9000 < cLine)
    (XB : (hd.heap_39 w.params).In base) (TB : Top p loose mean mg mb base) (CH : CodeHd g 499 497)
    (src Tr dt R Ds Nm : Addr) (vs : List Value) (rows : List NRow) (S : Addr → List Int) (i : Nat) (ti : Tok) (r : NRow) (l : List Nat) (n : Nat) (nt : Nat → Tok) (nk : Nat) (ps : Array Value)
    (ZZ : NF prog w src Tr dt R Ds Nm Lq vs rows S i ti r l n nt nk ps nws) (nv : Str) (tn : Tok) (hnm : m (Str.ofString "name") = some (.str nv tn)) (Ret : Value → List (Addr × Obj) → Prop)
    (C : ∀ n1, ScopeD prog w n1 Ds (scopeF rows S l) n → Con prog w 20 400 495 [.str nv tn, .ref Ds] n1 (fun v n2 => Ret v n2 ∧ ∀ p ∈ n1, p ∈ n2))
    (k : ∀ h' tk' v n2, Ret v n2 → (∀ p ∈ nws, p ∈ n2) → Fr g Lq h' (fun y => if y = Str.ofString "due" then some v else m y) → News g Lq h' n2 → Q .next { s with heap := h', toks := tk' }) :
    wpAny (model prog w) ((ktrTop dp un gd cn cs L ad ccd cl []).deeper (envOfC qual scope Lq 500 cdv)) (exec s4 (envOfC qual scope Lq 500 cdv)) Q E s := by
  apply body9 hb
  case hl => k_is
  clear hb; intro _
  (first | (refine env_let (t := fun e => execs _ e) ?_; intro ev Av) | (refine env_let (t := fun e => exec _ e) ?_; intro ev Av))
  obtain ⟨ocs, hcs, dcs⟩ := ZZ.cs
  (repeat ((fail_if_success (k_dflt (show wpAny _ _ (call (.ref 495) _) _ _ _))); (first | (k_unfold; (try dsimp only)) | (k_end; wrow_close) | walk1 | (dsimp only; walk1) | fail "no step"))); (try dsimp only [List.nil_append, List.cons_append])
  (k_dflt (refine' con_use (C _ ZZ.Z) ?uB ?uF ?uX ?uN ?uT ?uk ?ud ?uu ?_; (case uB => k_asm); (case uF => k_asm); (case uX => k_asm); (case uN => k_asm);  (case uT => k_asm); (case uk => first | exact rfl | assumption); (case ud => ktr_room); (case uu => ktr_units)); rintro r9 news9 h9 tk9 F9 N9 ⟨hR, hs9⟩; (try dsimp only))
  (repeat' (first | (k_unfold; (try dsimp only)) | (k_end; wrow_close) | walk1 | (dsimp only; walk1) | fail "no step"))
  rename News _ _ _ _ => kN; rename Fr _ _ _ _ => kF
  exact k _ _ _ _ hR hs9 kF kN
end
section
theorem s6_none (prog : Program) (w : World) {oc9 : Value} {od : Option Addr} {name qual : Str} {params : Arguments} {s1 s2 s3 s4 s5 s6 s7 s8 s9 : Stmt} {scope : Scope} {dV kV doc pm9 cdv ct9 : Value} {an : Option Addr} {osl : Array (Option Value)}
  (hb : (hd.heap_39 w.params).lookup 500 = some ⟨oc9, od, .func (fnOf name qual params [s1, s2, s3, s4, s5, s6, s7, s8, s9] scope dV kV doc pm9 an cdv ct9), osl⟩)
    (p : Program) (loose : List Str) (mean : ExcName → Option Value) (mg mb : Str → Option Value)
    (dp un : Nat) (gd : Option (List Code)) (cn : Str) (cs : Scope) (ad : Addr) (ccd : Value) (cl : List (Str × Addr)) (base g : Heap) (L Lq : Addr) (m : Str → Option Value) (s : Shared)
    (Q : Flow → Shared → Prop) (E : Value → Shared → Prop) (nws : List (Addr × Obj))
    (B : Below (ktrTop dp un gd cn cs L ad ccd cl []) base [envX cn cs L ad ccd cl] g) (F : Fr g Lq s.heap m) (X : (hd.heap_39 w.params).In g) (N : News g Lq s.heap nws) (T : Top p loose mean mg mb g) (hdp : dp + 400 < recursionLimit) (hu : un + 9000 < cLine)
    (XB : (hd.heap_39 w.params).In base) (TB : Top p loose mean mg mb base) (CH : CodeHd g 499 497) (hnm : m (Str.ofString "name") = some .none)
    (k : ∀ h' tk', Fr g Lq h' m → News g Lq h' nws → Q .next { s with heap := h', toks := tk' }) :
    wpAny (model prog w) ((ktrTop dp un gd cn cs L ad ccd cl []).deeper (envOfC qual scope Lq 500 cdv)) (exec s6 (envOfC qual scope Lq 500 cdv)) Q E s := by
  apply body9 hb
  case hl => k_is
  clear hb; intro _
  (first | (refine env_let (t := fun e => execs _ e) ?_; intro ev Av) | (refine env_let (t := fun e => exec _ e) ?_; intro ev Av))
  (repeat' (first | (k_unfold; (try dsimp only)) | (k_end; wrow_close) | walk1 | (dsimp only; walk1) | fail "no step"))
  rename News _ _ _ _ => kN; rename Fr _ _ _ _ => kF
  exact k _ _ kF kN
theorem s6_plain (prog : Program) (w : World) {oc9 : Value} {od : Option Addr} {name qual : Str} {params : Arguments} {s1 s2 s3 s4 s5 s6 s7 s8 s9 : Stmt} {scope : Scope} {dV kV doc pm9 cdv ct9 : Value} {an : Option Addr} {osl : Array (Option Value)}
  (hb : (hd.heap_39 w.params).lookup 500 = some ⟨oc9, od, .func (fnOf name qual params [s1, s2, s3, s4, s5, s6, s7, s8, s9] scope dV kV doc pm9 an cdv ct9), osl⟩)
    (p : Program) (loose : List Str) (mean : ExcName → Option Value) (mg mb : Str → Option Value)
    (dp un : Nat) (gd : Option (List Code)) (cn : Str) (cs : Scope) (ad : Addr) (ccd : Value) (cl : List (Str × Addr)) (base g : Heap) (L Lq : Addr) (m : Str → Option Value) (s : Shared)
    (Q : Flow → Shared → Prop) (E : Value → Shared → Prop) (nws : List (Addr × Obj))
    (B : Below (ktrTop dp un gd cn cs L ad ccd cl []) base [envX cn cs L ad ccd cl] g) (F : Fr g Lq s.heap m) (X : (hd.heap_39 w.params).In g) (N : News g Lq s.heap nws) (T : Top p loose mean mg mb g) (hdp : dp + 400 < recursionLimit) (hu : un + 9000 < cLine)
    (XB : (hd.heap_39 w.params).In base) (TB : Top p loose mean mg mb base) (CH : CodeHd g 499 497) (nv : Str) (tn : Tok) (hnm : m (Str.ofString "name") = some (.str nv tn)) (hcol : (Builtin.Str.occurrences nv (Str.ofString ":") 0 nv.length 1).isEmpty = true)
    (k : ∀ h' tk', Fr g Lq h' (fun y => if y = Str.ofString "due" then some (.str nv tn) else m y) → News g Lq h' nws → Q .next { s with heap := h', toks := tk' }) :
    wpAny (model prog w) ((ktrTop dp un gd cn cs L ad ccd cl []).deeper (envOfC qual scope Lq 500 cdv)) (exec s6 (envOfC qual scope Lq 500 cdv)) Q E s := by
  apply body9 hb
  case hl => k_is
  clear hb; intro _
  (first | (refine env_let (t := fun e => execs _ e) ?_; intro ev Av) | (refine env_let (t := fun e => exec _ e) ?_; intro ev Av))
  (repeat' (first | (k_unfold; (try dsimp only)) | (k_end; wrow_close) | walk1 | (dsimp only; walk1) | fail "no step"))
  rename News _ _ _ _ => kN; rename Fr _ _ _ _ => kF
  exact k _ _ kF kN
theorem s6_some (prog : Program) (w : World) {oc9 : Value} {od : Option Addr} {name qual : Str} {params : Arguments} {s1 s2 s3 s4 s5 s6 s7 s8 s9 : Stmt} {scope : Scope} {dV kV doc pm9 cdv ct9 : Value} {an : Option Addr} {osl : Array (Option Value)}
  (hb : (hd.heap_39 w.params).lookup 500 = some ⟨oc9, od, .func (fnOf name qual params [s1, s2, s3, s4, s5, s6, s7, s8, s9] scope dV kV doc pm9 an cdv ct9), osl⟩)
    (p : Program) (loose : List Str) (mean : ExcName → Option Value) (mg mb : Str → Option Value)
    (dp un : Nat) (gd : Option (List Code)) (cn : Str) (cs : Scope) (ad : Addr) (ccd : Value) (cl : List (Str × Addr)) (base g : Heap) (L Lq : Addr) (m : Str → Option Value) (s : Shared)
    (Q : Flow → Shared → Prop) (E : Value → Shared → Prop) (nws : List (Addr × Obj))
    (B : Below (ktrTop dp un gd cn cs L ad ccd cl []) base [envX cn cs L ad ccd cl] g) (F : Fr g Lq s.heap m) (X : (hd.heap_39 w.params).In g) (N : News g Lq s.heap nws) (T : Top p loose mean mg mb g) (hdp : dp + 400 < recursionLimit) (hu : un + 9000 < cLine)
    (XB : (hd.heap_39 w.params).In base) (TB : Top p loose mean mg mb base) (CH : CodeHd g 499 497) (nv : Str) (tn : Tok) (hnm : m (Str.ofString "name") = some (.str nv tn)) (hcol : (Builtin.Str.occurrences nv (Str.ofString ":") 0 nv.length 1).isEmpty = false) (Dd : Addr) (x y : Str) (t1 t2 : Tok) (kd : Nat) (hdue : m (Str.ofString "due") = some (.ref Dd)) (hDd : (Dd, tob [.str x t1, .str y t2] kd) ∈ nws) (hx : x.length ≤ 100) (hy : y.length ≤ 100) (hxo : PyData.strOk x = true) (hyo : PyData.strOk y = true)
    (k : ∀ h' tk' t, Fr g Lq h' (fun z => if z = Str.ofString "due" then some (.str (Str.ofString "{" ++ x ++ Str.ofString "}" ++ y) t) else m z) → News g Lq h' nws → Q .next { s with heap := h', toks := tk' }) :
    wpAny (model prog w) ((ktrTop dp un gd cn cs L ad ccd cl []).deeper (envOfC qual scope Lq 500 cdv)) (exec s6 (envOfC qual scope Lq 500 cdv)) Q E s := by
  apply body9 hb
  case hl => k_is
  clear hb; intro _
  (first | (refine env_let (t := fun e => execs _ e) ?_; intro ev Av) | (refine env_let (t := fun e => exec _ e) ?_; intro ev Av))
  (repeat ((fail_if_success (k_dflt (with_reducible show wpAny _ _ (compareOp .NotEq _ _) _ _ _))); (first | (k_unfold; (try dsimp only)) | (k_end; wrow_close) | walk1 | (dsimp only; walk1) | fail "no step")))
  rename News _ _ _ _ => kN
  k_dflt (refine' dat_neT kN (DatIn.tuple hDd (.cons (.str x t1) (.cons (.str y t2) .nil))) (DatIn.str _ _) ?hd ?he ?hu ?q ?_; (case hd => simp only [kqdOk, List.all_cons, List.all_nil, hxo, hyo, Bool.and_self]); (case he => simp only [kqdOk]; decide +kernel); (case hu => ktr_units); (case q => intro q; cases q))
  (repeat' (first | (k_unfold; (try dsimp only)) | (k_end; wrow_close) | walk1 | (dsimp only; walk1) | fail "no step"))
  rename News _ _ _ _ => kN; rename Fr _ _ _ _ => kF
  exact k _ _ _ kF kN
theorem strOk_app {a b : Str} (ha : PyData.strOk a = true) (hb : PyData.strOk b = true) : PyData.strOk (a ++ b) = true := by
  unfold PyData.strOk at *
  rw [Str.cps_append, Array.all_append, ha, hb]; rfl
theorem s6_ref (prog : Program) (w : World) {oc9 : Value} {od : Option Addr} {name qual : Str} {params : Arguments} {s1 s2 s3 s4 s5 s6 s7 s8 s9 : Stmt} {scope : Scope} {dV kV doc pm9 cdv ct9 : Value} {an : Option Addr} {osl : Array (Option Value)}
  (hb : (hd.heap_39 w.params).lookup 500 = some ⟨oc9, od, .func (fnOf name qual params [s1, s2, s3, s4, s5, s6, s7, s8, s9] scope dV kV doc pm9 an cdv ct9), osl⟩)
    (p : Program) (loose : List Str) (mean : ExcName → Option Value) (mg mb : Str → Option Value)
    (dp un : Nat) (gd : Option (List Code)) (cn : Str) (cs : Scope) (ad : Addr) (ccd : Value) (cl : List (Str × Addr)) (base g : Heap) (L Lq : Addr) (m : Str → Option Value) (s : Shared)
    (Q : Flow → Shared → Prop) (E : Value → Shared → Prop) (nws : List (Addr × Obj))
    (B : Below (ktrTop dp un gd cn cs L ad ccd cl []) base [envX cn cs L ad ccd cl] g) (F : Fr g Lq s.heap m) (X : (hd.heap_39 w.params).In g) (N : News g Lq s.heap nws) (T : Top p loose mean mg mb g) (hdp : dp + 400 < recursionLimit) (hu : un + 9000 < cLine)
    (XB : (hd.heap_39 w.params).In base) (TB : Top p loose mean mg mb base) (CH : CodeHd g 499 497) (nv : Str) (tn : Tok) (hnm : m (Str.ofString "name") = some (.str nv tn)) (hcol : (Builtin.Str.occurrences nv (Str.ofString ":") 0 nv.length 1).isEmpty = false) (td : Tok) (hdue : m (Str.ofString "due") = some (.str (Str.ofString "refused") td))
    (k : ∀ h' tk', Fr g Lq h' m → News g Lq h' nws → Q .next { s with heap := h', toks := tk' }) :
    wpAny (model prog w) ((ktrTop dp un gd cn cs L ad ccd cl []).deeper (envOfC qual scope Lq 500 cdv)) (exec s6 (envOfC qual scope Lq 500 cdv)) Q E s := by
  apply body9 hb
  case hl => k_is
  clear hb; intro _
  (first | (refine env_let (t := fun e => execs _ e) ?_; intro ev Av) | (refine env_let (t := fun e => exec _ e) ?_; intro ev Av))
  (repeat' (first | (k_unfold; (try dsimp only)) | (k_end; wrow_close) | walk1 | (dsimp only; walk1) | fail "no step"))
  rename News _ _ _ _ => kN; rename Fr _ _ _ _ => kF
  exact k _ _ kF kN
end
section
theorem s7_none (prog : Program) (w : World) {oc9 : Value} {od : Option Addr} {name qual : Str} {params : Arguments} {s1 s2 s3 s4 s5 s6 s7 s8 s9 : Stmt} {scope : Scope} {dV kV doc pm9 cdv ct9 : Value} {an : Option Addr} {osl : Array (Option Value)}
  (hb : (hd.heap_39 w.params).lookup 500 = some ⟨oc9, od, .func (fnOf name qual params [s1, s2, s3, s4, s5, s6, s7, s8, s9] scope dV kV doc pm9 an cdv ct9), osl⟩)
    (p : Program) (loose : List Str) (mean : ExcName → Option Value) (mg mb : Str → Option Value)
    (dp un : Nat) (gd : Option (List Code)) (cn : Str) (cs : Scope) (ad : Addr) (ccd : Value) (cl : List (Str × Addr)) (base g : Heap) (L Lq : Addr) (m : Str → Option Value) (s : Shared)
    (Q : Flow → Shared → Prop) (E : Value → Shared → Prop) (nws : List (Addr × Obj))
    (B : Below (ktrTop dp un gd cn cs L ad ccd cl []) base [envX cn cs L ad ccd cl] g) (F : Fr g Lq s.heap m) (X : (hd.heap_39 w.params).In g) (N : News g Lq s.heap nws) (T : Top p loose mean mg mb g) (hdp : dp + 400 < recursionLimit) (hu : un + 9000 < cLine)
    (XB : (hd.heap_39 w.params).In base) (TB : Top p loose mean mg mb base) (CH : CodeHd g 499 497)
    (hnm : m (Str.ofString "mode") = some .none)
    (k : ∀ h' tk', Fr g Lq h' (fun y => if y = Str.ofString "mode_due" then some .none else m y) → News g Lq h' nws → Q .next { s with heap := h', toks := tk' }) :
    wpAny (model prog w) ((ktrTop dp un gd cn cs L ad ccd cl []).deeper (envOfC qual scope Lq 500 cdv)) (exec s7 (envOfC qual scope Lq 500 cdv)) Q E s := by
  apply body9 hb
  case hl => k_is
  clear hb; intro _
  (first | (refine env_let (t := fun e => execs _ e) ?_; intro ev Av) | (refine env_let (t := fun e => exec _ e) ?_; intro ev Av))
  (repeat' (first | (k_unfold; (try dsimp only)) | (k_end; wrow_close) | walk1 | (dsimp only; walk1) | fail "no step"))
  rename News _ _ _ _ => kN; rename Fr _ _ _ _ => kF
  exact k _ _ kF kN
theorem s7_some (prog : Program) (w : World) {oc9 : Value} {od : Option Addr} {name qual : Str} {params : Arguments} {s1 s2 s3 s4 s5 s6 s7 s8 s9 : Stmt} {scope : Scope} {dV kV doc pm9 cdv ct9 : Value} {an : Option Addr} {osl : Array (Option Value)}
  (hb : (hd.heap_39 w.params).lookup 500 = some ⟨oc9, od, .func (fnOf name qual params [s1, s2, s3, s4, s5, s6, s7, s8, s9] scope dV kV doc pm9 an cdv ct9), osl⟩)
    (p : Program) (loose : List Str) (mean : ExcName → Option Value) (mg mb : Str → Option Value)
    (dp un : Nat) (gd : Option (List Code)) (cn : Str) (cs : Scope) (ad : Addr) (ccd : Value) (cl : List (Str × Addr)) (base g : Heap) (L Lq : Addr) (m : Str → Option Value) (s : Shared)
    (Q : Flow → Shared → Prop) (E : Value → Shared → Prop) (nws : List (Addr × Obj))
    (B : Below (ktrTop dp un gd cn cs L ad ccd cl []) base [envX cn cs L ad ccd cl] g) (F : Fr g Lq s.heap m) (X : (hd.heap_39 w.params).In g) (N : News g Lq s.heap nws) (T : Top p loose mean mg mb g) (hdp : dp + 400 < recursionLimit) (hu : un + 9000 < cLine)
    (XB : (hd.heap_39 w.params).In base) (TB : Top p loose mean mg mb base) (CH : CodeHd g 499 497)
    (src Tr dt R Ds Nm : Addr) (vs : List Value) (rows : List NRow) (S : Addr → List Int) (i : Nat) (ti : Tok) (r : NRow) (l : List Nat) (n : Nat) (nt : Nat → Tok) (nk : Nat) (ps : Array Value)
    (ZZ : NF prog w src Tr dt R Ds Nm Lq vs rows S i ti r l n nt nk ps nws) (nv : Str) (tn : Tok) (hnm : m (Str.ofString "mode") = some (.str nv tn)) (Ret : Value → List (Addr × Obj) → Prop)
    (C : ∀ n1, ScopeD prog w n1 Ds (scopeF rows S l) n → Con prog w 20 400 495 [.str nv tn, .ref Ds] n1 (fun v n2 => Ret v n2 ∧ ∀ p ∈ n1, p ∈ n2))
    (k : ∀ h' tk' v n2, Ret v n2 → (∀ p ∈ nws, p ∈ n2) → Fr g Lq h' (fun y => if y = Str.ofString "mode_due" then some v else m y) → News g Lq h' n2 → Q .next { s with heap := h', toks := tk' }) :
    wpAny (model prog w) ((ktrTop dp un gd cn cs L ad ccd cl []).deeper (envOfC qual scope Lq 500 cdv)) (exec s7 (envOfC qual scope Lq 500 cdv)) Q E s := by
  apply body9 hb
  case hl => k_is
  clear hb; intro _
  (first | (refine env_let (t := fun e => execs _ e) ?_; intro ev Av) | (refine env_let (t := fun e => exec _ e) ?_; intro ev Av))
  obtain ⟨ocs, hcs, dcs⟩ := ZZ.cs
  (repeat ((fail_if_success (k_dflt (show wpAny _ _ (call (.ref 495) _) _ _ _))); (first | (k_unfold; (try dsimp only)) | (k_end; wrow_close) | walk1 | (dsimp only; walk1) | fail "no step"))); (try dsimp only [List.nil_append, List.cons_append])
  (k_dflt (refine' con_use (C _ ZZ.Z) ?uB ?uF ?uX ?uN ?uT ?uk ?ud ?uu ?_; (case uB => k_asm); (case uF => k_asm); (case uX => k_asm); (case uN => k_asm);  (case uT => k_asm); (case uk => first | exact rfl | assumption); (case ud => ktr_room); (case uu => ktr_units)); rintro r9 news9 h9 tk9 F9 N9 ⟨hR, hs9⟩; (try dsimp only))
  (repeat' (first | (k_unfold; (try dsimp only)) | (k_end; wrow_close) | walk1 | (dsimp only; walk1) | fail "no step"))
  rename News _ _ _ _ => kN; rename Fr _ _ _ _ => kF
  exact k _ _ _ _ hR hs9 kF kN
theorem s8_ret (prog : Program) (w : World) {oc9 : Value} {od : Option Addr} {name qual : Str} {params : Arguments} {s1 s2 s3 s4 s5 s6 s7 s8 s9 : Stmt} {scope : Scope} {dV kV doc pm9 cdv ct9 : Value} {an : Option Addr} {osl : Array (Option Value)}
  (hb : (hd.heap_39 w.params).lookup 500 = some ⟨oc9, od, .func (fnOf name qual params [s1, s2, s3, s4, s5, s6, s7, s8, s9] scope dV kV doc pm9 an cdv ct9), osl⟩)
    (p : Program) (loose : List Str) (mean : ExcName → Option Value) (mg mb : Str → Option Value)
    (dp un : Nat) (gd : Option (List Code)) (cn : Str) (cs : Scope) (ad : Addr) (ccd : Value) (cl : List (Str × Addr)) (base g : Heap) (L Lq : Addr) (m : Str → Option Value) (s : Shared)
    (Q : Flow → Shared → Prop) (E : Value → Shared → Prop) (nws : List (Addr × Obj))
    (B : Below (ktrTop dp un gd cn cs L ad ccd cl []) base [envX cn cs L ad ccd cl] g) (F : Fr g Lq s.heap m) (X : (hd.heap_39 w.params).In g) (N : News g Lq s.heap nws) (T : Top p loose mean mg mb g) (hdp : dp + 400 < recursionLimit) (hu : un + 9000 < cLine)
    (XB : (hd.heap_39 w.params).In base) (TB : Top p loose mean mg mb base) (CH : CodeHd g 499 497)
    (src Tr dt R Ds Nm : Addr) (vs : List Value) (rows : List NRow) (S : Addr → List Int) (i : Nat) (ti : Tok) (r : NRow) (l : List Nat) (n : Nat) (nt : Nat → Tok) (nk : Nat) (ps : Array Value)
    (ZZ : NF prog w src Tr dt R Ds Nm Lq vs rows S i ti r l n nt nk ps nws) (TL : TabL ps [291]) (U : Str) (ta tb : Tok) (hto : m (Str.ofString "told") = some (.str U ta)) (hdu : m (Str.ofString "due") = some (.str U tb)) (hU : PyData.strOk U = true) (md : Value) (d : Dat) (hdk : kqdOk 8 d = true) (hmd : m (Str.ofString "mode_due") = some md) (Dmd : ∀ n1, (∀ p ∈ nws, (∀ vs, p.2.data ≠ .fields vs) → p ∈ n1) → DatIn n1 md d)
    (C : ∀ n1, TreeIs n1 Tr dt R vs rows S → Con prog w 120 5000 200 [.ref Tr, .int (i : Int) ti] n1 (fun v n2 => DatIn n2 v d ∧ ∀ p ∈ n1, p ∈ n2))
    (k : ∀ h' tk' n2 ps', Fr g Lq h' m → News g Lq h' n2 → TabL ps' [297, 291] → NF prog w src Tr dt R Ds Nm Lq vs rows S i ti r l n nt nk ps' n2 → Q .next { s with heap := h', toks := tk' }) :
    wpAny (model prog w) ((ktrTop dp un gd cn cs L ad ccd cl []).deeper (envOfC qual scope Lq 500 cdv)) (exec s8 (envOfC qual scope Lq 500 cdv)) Q E s := by
  apply body9 hb
  case hl => k_is
  clear hb; intro _
  (first | (refine env_let (t := fun e => execs _ e) ?_; intro ev Av) | (refine env_let (t := fun e => exec _ e) ?_; intro ev Av))
  have hline : (297 : Nat) ∉ ([291] : List Nat) := by decide
  (repeat ((fail_if_success (k_dflt (with_reducible show wpAny _ _ (compareOp .NotEq _ _) _ _ _))); (first | (k_unfold; (try dsimp only)) | (k_end; wrow_close) | walk1 | (dsimp only; walk1) | fail "no step")))
  k_dflt (refine' dat_neF N (DatIn.str _ _) (DatIn.str _ _) ?hd ?he ?hu rfl ?_; (case hd => simp only [kqdOk]; exact hU); (case he => simp only [kqdOk]; exact hU); (case hu => ktr_units))
  (repeat ((fail_if_success (k_dflt (with_reducible show wpAny _ _ (callWith _ _ _ _ _) _ _ _))); (first | (k_unfold; (try dsimp only)) | (k_end; wrow_close) | walk1 | (dsimp only; walk1) | fail "no step")))
  k_dflt (refine' callWith_K ?k1 ?k2 ?_; (case k1 => k_asm); (case k2 => k_is); k_whole)
  iterate 1 (first | (k_unfold; (try dsimp only)) | (k_end; wrow_close) | walk1 | (dsimp only; walk1) | fail "no step")
  k_dflt (refine' kla_eval ?d0 ?_; (case d0 => exact rfl))
  k_dflt (refine' mk_lam (by k_asm) N T CH ?ge ?cd ZZ.tb ?t ?n ?cl ?_; (case ge => exact rfl); (case cd => exact rfl); (case t => exact TL.1); (case n => exact Or.inl (TL.2 _ hline)); (case cl => exact rfl))
  intro f9 c9 o9 v9 t9 ctv9 pm9 ps' nws' h9 tk9 F9 N9 hf9 hc9 hd9 hv9 hcP9 htb9 hto9 hca9 hps9 hsub9 hlt9 hfr9
  have Z9 := ZZ.tab (keep_dat N ZZ.tb hsub9) htb9
  have TL9 := TL.snoc hps9 hto9
  obtain ⟨oct, hct, dct⟩ := Z9.ct
  obtain ⟨oce, hce, dce⟩ := Z9.ce
  have CL := lamm_con prog w nws' f9 c9 (Lq + 1) (Lq + 1 + 1) Tr i ti pm9 ctv9 _ _ _ _ _ _ o9 oct oce v9 t9 120 5000 _ hf9 hc9 hd9 hv9 hct dct hce dce (by decide) (by decide) (C _ Z9.TX)
  (repeat ((fail_if_success (k_dflt (show wpAny _ _ (call (.ref 488) _) _ _ _))); (first | (k_unfold; (try dsimp only)) | (k_end; wrow_close) | walk1 | (dsimp only; walk1) | fail "no step"))); (try dsimp only [List.nil_append, List.cons_append])
  (k_dflt (refine' con_use (told_con _ _ _ 130 5200 (by decide) (by decide) f9 _ hf9 CL) ?uB ?uF ?uX ?uN ?uT ?uk ?ud ?uu ?_; (case uB => k_asm); (case uF => k_asm); (case uX => k_asm); (case uN => k_asm);  (case uT => k_asm); (case uk => first | exact rfl | assumption); (case ud => ktr_room); (case uu => ktr_units)); rintro r9 news9 h9 tk9 F9 N9 ⟨hR, hs9⟩; (try dsimp only))
  (repeat ((fail_if_success (k_dflt (with_reducible show wpAny _ _ (compareOp .NotEq _ _) _ _ _))); (first | (k_unfold; (try dsimp only)) | (k_end; wrow_close) | walk1 | (dsimp only; walk1) | fail "no step")))
  rename News _ _ _ _ => kN
  k_dflt (refine' dat_neF kN hR (Dmd _ (fun p hp hq => hs9 p (keep_dat N ZZ.tb hsub9 p hp hq))) hdk hdk ?hu rfl ?_; (case hu => ktr_units))
  (repeat' (first | (k_unfold; (try dsimp only)) | (k_end; wrow_close) | walk1 | (dsimp only; walk1) | fail "no step"))
  rename News _ _ _ _ => kN; rename Fr _ _ _ _ => kF
  exact k _ _ _ ps' kF kN TL9 (Z9.mono hs9)
theorem s8_X (prog : Program) (w : World) {oc9 : Value} {od : Option Addr} {name qual : Str} {params : Arguments} {s1 s2 s3 s4 s5 s6 s7 s8 s9 : Stmt} {scope : Scope} {dV kV doc pm9 cdv ct9 : Value} {an : Option Addr} {osl : Array (Option Value)}
  (hb : (hd.heap_39 w.params).lookup 500 = some ⟨oc9, od, .func (fnOf name qual params [s1, s2, s3, s4, s5, s6, s7, s8, s9] scope dV kV doc pm9 an cdv ct9), osl⟩)
    (p : Program) (loose : List Str) (mean : ExcName → Option Value) (mg mb : Str → Option Value)
    (dp un : Nat) (gd : Option (List Code)) (cn : Str) (cs : Scope) (ad : Addr) (ccd : Value) (cl : List (Str × Addr)) (base g : Heap) (L Lq : Addr) (m : Str → Option Value) (s : Shared)
    (Q : Flow → Shared → Prop) (E : Value → Shared → Prop) (nws : List (Addr × Obj))
    (B : Below (ktrTop dp un gd cn cs L ad ccd cl []) base [envX cn cs L ad ccd cl] g) (F : Fr g Lq s.heap m) (X : (hd.heap_39 w.params).In g) (N : News g Lq s.heap nws) (T : Top p loose mean mg mb g) (hdp : dp + 400 < recursionLimit) (hu : un + 9000 < cLine)
    (XB : (hd.heap_39 w.params).In base) (TB : Top p loose mean mg mb base) (CH : CodeHd g 499 497)
    (src Tr dt R Ds Nm : Addr) (vs : List Value) (rows : List NRow) (S : Addr → List Int) (i : Nat) (ti : Tok) (r : NRow) (l : List Nat) (n : Nat) (nt : Nat → Tok) (nk : Nat) (ps : Array Value)
    (ZZ : NF prog w src Tr dt R Ds Nm Lq vs rows S i ti r l n nt nk ps nws) (TL : TabL ps [291]) (U : Str) (ta tb : Tok) (hto : m (Str.ofString "told") = some (.str U ta)) (hdu : m (Str.ofString "due") = some (.str U tb)) (hU : PyData.strOk U = true) (md : Value) (d : Dat) (hdk : kqdOk 8 d = true) (hmd : m (Str.ofString "mode_due") = some md) (Dmd : ∀ n1, (∀ p ∈ nws, (∀ vs, p.2.data ≠ .fields vs) → p ∈ n1) → DatIn n1 md d) (hdd : d = Dat.str (Str.ofString "refused"))
    (C : ∀ n1, TreeIs n1 Tr dt R vs rows S → ConX prog w 120 5000 200 [.ref Tr, .int (i : Int) ti] n1)
    (k : ∀ g' h' tk' n2 ps', KtsTurn ([envX cn cs L ad ccd cl].filterMap (·.frame)) g g' → Below (ktrTop dp un gd cn cs L ad ccd cl []) base [envX cn cs L ad ccd cl] g' → (Mine.hd.heap_39 w.params).In g' → Top p loose mean mg mb g' → Fr g' Lq h' m → News g' Lq h' n2 → TabL ps' [297, 291] → NF prog w src Tr dt R Ds Nm Lq vs rows S i ti r l n nt nk ps' n2 → Q .next { s with heap := h', toks := tk' }) :
    wpAny (model prog w) ((ktrTop dp un gd cn cs L ad ccd cl []).deeper (envOfC qual scope Lq 500 cdv)) (exec s8 (envOfC qual scope Lq 500 cdv)) Q E s := by
  apply body9 hb
  case hl => k_is
  clear hb; intro _
  (first | (refine env_let (t := fun e => execs _ e) ?_; intro ev Av) | (refine env_let (t := fun e => exec _ e) ?_; intro ev Av))
  have hline : (297 : Nat) ∉ ([291] : List Nat) := by decide
  (repeat ((fail_if_success (k_dflt (with_reducible show wpAny _ _ (compareOp .NotEq _ _) _ _ _))); (first | (k_unfold; (try dsimp only)) | (k_end; wrow_close) | walk1 | (dsimp only; walk1) | fail "no step")))
  k_dflt (refine' dat_neF N (DatIn.str _ _) (DatIn.str _ _) ?hd ?he ?hu rfl ?_; (case hd => simp only [kqdOk]; exact hU); (case he => simp only [kqdOk]; exact hU); (case hu => ktr_units))
  (repeat ((fail_if_success (k_dflt (with_reducible show wpAny _ _ (callWith _ _ _ _ _) _ _ _))); (first | (k_unfold; (try dsimp only)) | (k_end; wrow_close) | walk1 | (dsimp only; walk1) | fail "no step")))
  k_dflt (refine' callWith_K ?k1 ?k2 ?_; (case k1 => k_asm); (case k2 => k_is); k_whole)
  iterate 1 (first | (k_unfold; (try dsimp only)) | (k_end; wrow_close) | walk1 | (dsimp only; walk1) | fail "no step")
  k_dflt (refine' kla_eval ?d0 ?_; (case d0 => exact rfl))
  k_dflt (refine' mk_lam (by k_asm) N T CH ?ge ?cd ZZ.tb ?t ?n ?cl ?_; (case ge => exact rfl); (case cd => exact rfl); (case t => exact TL.1); (case n => exact Or.inl (TL.2 _ hline)); (case cl => exact rfl))
  intro f9 c9 o9 v9 t9 ctv9 pm9 ps' nws' h9 tk9 F9 N9 hf9 hc9 hd9 hv9 hcP9 htb9 hto9 hca9 hps9 hsub9 hlt9 hfr9
  have Z9 := ZZ.tab (keep_dat N ZZ.tb hsub9) htb9
  have TL9 := TL.snoc hps9 hto9
  obtain ⟨oct, hct, dct⟩ := Z9.ct
  obtain ⟨oce, hce, dce⟩ := Z9.ce
  have CL := lamm_X prog w nws' f9 c9 (Lq + 1) (Lq + 1 + 1) Tr i ti pm9 ctv9 _ _ _ _ _ _ o9 oct oce v9 t9 120 5000 hf9 hc9 hd9 hv9 hct dct hce dce (by decide) (by decide) (C _ Z9.TX)
  (repeat ((fail_if_success (k_dflt (show wpAny _ _ (call (.ref 488) _) _ _ _))); (first | (k_unfold; (try dsimp only)) | (k_end; wrow_close) | walk1 | (dsimp only; walk1) | fail "no step"))); (try dsimp only [List.nil_append, List.cons_append])
  k_dflt (refine' conT_use (told_X _ _ _ 130 5200 (by decide) (by decide) f9 hf9 CL) ?uB ?uF ?uX ?uN ?uT ?uk ?ud ?uu XB TB ?_; (case uB => k_asm); (case uF => k_asm); (case uX => k_asm); (case uN => k_asm); (case uT => k_asm); (case uk => first | exact rfl | assumption); (case ud => ktr_room); (case uu => ktr_units))
  rintro r8 g8 n8 h8 tk8 T8 F8 N8 B8 X8 P8 ⟨⟨t8, rfl⟩, hs8⟩
  have Dm := Dmd _ (fun p hp hq => hs8 p (keep_dat N ZZ.tb hsub9 p hp hq))
  (try clear F); (try clear kF); clear N F9 N9 B X T Dmd
  (repeat ((fail_if_success (k_dflt (with_reducible show wpAny _ _ (compareOp .NotEq _ _) _ _ _))); (first | (k_unfold; (try dsimp only)) | (k_end; wrow_close) | walk1 | (dsimp only; walk1) | fail "no step")))
  rename News _ _ _ _ => kN
  k_dflt (refine' dat_neF kN (DatIn.str _ _) Dm (by rw [← hdd]; exact hdk) hdk ?hu hdd.symm ?_; (case hu => ktr_units))
  (repeat' (first | (k_unfold; (try dsimp only)) | (k_end; wrow_close) | walk1 | (dsimp only; walk1) | fail "no step"))
  rename News _ _ _ _ => kN; rename Fr _ _ _ _ => kF
  exact k g8 _ _ _ ps' T8 B8 X8 P8 kF kN TL9 (Z9.mono hs8)
end
section
theorem s1_con (prog : Program) (w : World) {oc9 : Value} {od : Option Addr} {name qual : Str} {params : Arguments} {s1 s2 s3 s4 s5 s6 s7 s8 s9 : Stmt} {scope : Scope} {dV kV doc pm9 cdv ct9 : Value} {an : Option Addr} {osl : Array (Option Value)}
  (hb : (hd.heap_39 w.params).lookup 500 = some ⟨oc9, od, .func (fnOf name qual params [s1, s2, s3, s4, s5, s6, s7, s8, s9] scope dV kV doc pm9 an cdv ct9), osl⟩)
    (p : Program) (loose : List Str) (mean : ExcName → Option Value) (mg mb : Str → Option Value)
    (dp un : Nat) (gd : Option (List Code)) (cn : Str) (cs : Scope) (ad : Addr) (ccd : Value) (cl : List (Str × Addr)) (base g : Heap) (L Lq : Addr) (m : Str → Option Value) (s : Shared)
    (Q : Flow → Shared → Prop) (E : Value → Shared → Prop) (nws : List (Addr × Obj))
    (B : Below (ktrTop dp un gd cn cs L ad ccd cl []) base [envX cn cs L ad ccd cl] g) (F : Fr g Lq s.heap m) (X : (hd.heap_39 w.params).In g) (N : News g Lq s.heap nws) (T : Top p loose mean mg mb g) (hdp : dp + 400 < recursionLimit) (hu : un + 9000 < cLine)
    (XB : (hd.heap_39 w.params).In base) (TB : Top p loose mean mg mb base) (CH : CodeHd g 499 497)
    (k : ∀ h' tk' Nm nt nk, (∀ p ∈ nws, p.1 < Nm) → Fr g Lq h' (fun y => if y = Str.ofString "names" then some (.ref Nm) else m y) → News g Lq h' ((Nm, lob (six nt) nk) :: nws) → Q .next { s with heap := h', toks := tk' }) :
    wpAny (model prog w) ((ktrTop dp un gd cn cs L ad ccd cl []).deeper (envOfC qual scope Lq 500 cdv)) (exec s1 (envOfC qual scope Lq 500 cdv)) Q E s := by
  apply body9 hb
  case hl => k_is
  clear hb; intro _
  (first | (refine env_let (t := fun e => execs _ e) ?_; intro ev Av) | (refine env_let (t := fun e => exec _ e) ?_; intro ev Av))
  (repeat' (first | (k_unfold; (try dsimp only)) | (k_end; wrow_close) | walk1 | (dsimp only; walk1) | fail "no step"))
  rename News _ _ _ _ => kN; rename Fr _ _ _ _ => kF
  exact k _ _ _ (fun | 0 => _ | 1 => _ | 2 => _ | 3 => _ | 4 => _ | _ => _) _ ‹∀ p ∈ nws, p.1 < _› kF kN
/-- only the list at src changes -/
theorem NF.src {prog : Program} {w : World} {h₀ h : Heap} {L : Addr} {src Tr dt R Ds Nm Lq : Addr} {vs : List Value} {rows : List NRow} {S : Addr → List Int} {i : Nat} {ti : Tok} {r : NRow} {l : List Nat} {n : Nat} {nt : Nat → Tok} {nk : Nat} {ps : Array Value} {n1 n2 : List (Addr × Obj)}
    (N : News h₀ L h n1) (hs : ∀ p ∈ n1, p.1 ≠ src → p ∈ n2) (hR : R ≠ src) (hsub : ∀ q ∈ rows, ∀ D ∈ [q.c, q.a, q.n], D ≠ src) (hNm : Nm ≠ src) (h2 : SrcIs n2 src)
    (X : NF prog w src Tr dt R Ds Nm Lq vs rows S i ti r l n nt nk ps n1) : NF prog w src Tr dt R Ds Nm Lq vs rows S i ti r l n nt nk ps n2 := by
  obtain ⟨a, b, ta, tb, sn, hsm, -⟩ := X.SZ.ex
  have up : ∀ p ∈ n1, (∀ vs n, p.2.data ≠ .seq vs n) → p ∈ n2 := fun p hp hd => hs p hp fun q => by
    obtain ⟨x, o⟩ := p
    dsimp only at q hd
    subst q
    exact hd _ _ (congrArg Obj.data (Option.some.inj ((N.get hp).symm.trans (N.get hsm))))
  refine ⟨⟨up _ X.TX.inst (fun _ _ q => by cases q), ?_, ?_, X.TX.len, X.TX.small, ?_, ?_, X.TX.nd⟩, X.EL, ⟨X.Z.lo, ?_⟩, h2, X.hn, hs _ X.nm hNm, ?_, ?_, ?_, up _ X.tb (fun _ _ q => by cases q)⟩
  · obtain ⟨h, tk, e⟩ := X.TX.dict
    exact ⟨h, tk, up _ e (fun _ _ q => by cases q)⟩
  · obtain ⟨nn, e⟩ := X.TX.lst
    exact ⟨nn, hs _ e hR⟩
  · intro j q hq
    obtain ⟨v, e1, x, d, f, t, u, rfl, m1, m2⟩ := X.TX.row j q hq
    exact ⟨_, e1, x, d, f, t, u, rfl, up _ m1 (fun _ _ q => by cases q), up _ m2 (fun _ _ q => by cases q)⟩
  · intro q hq D hD
    obtain ⟨ys, k, a, b, c⟩ := X.TX.sub q hq D hD
    exact ⟨ys, k, hs _ a (hsub q hq D hD), b, c⟩
  · obtain ⟨o, kvs, DD, a, b, c⟩ := X.Z.ex
    exact ⟨o, kvs, DD, up _ a (fun vs n q => by obtain ⟨es, ep, -, hd, -⟩ := b; rw [hd] at q; cases q), b, c⟩
  · obtain ⟨o, a, b⟩ := X.ct
    exact ⟨o, up _ a (fun _ _ q => by rw [b] at q; cases q), b⟩
  · obtain ⟨o, a, b⟩ := X.ce
    exact ⟨o, up _ a (fun _ _ q => by rw [b] at q; cases q), b⟩
  · obtain ⟨o, a, b⟩ := X.cs
    exact ⟨o, up _ a (fun _ _ q => by rw [b] at q; cases q), b⟩
theorem six_handed {nt : Nat → Tok} : ∀ v ∈ six nt ++ [.none], handedIn v = true := by
  intro v hv
  simp only [six, List.mem_append, List.mem_cons, List.not_mem_nil, or_false] at hv
  rcases hv with (rfl | rfl | rfl | rfl | rfl | rfl) | rfl <;> rfl
theorem SrcIs.lt {news : List (Addr × Obj)} {src D : Addr} (Z : SrcIs news src) (h : ∀ p ∈ news, p.1 < D) : src < D := by obtain ⟨_, _, _, _, _, e, _⟩ := Z.ex; exact h _ e
theorem news_drop2 {h₀ h : Heap} {L : Addr} {a b : Addr × Obj} {l : List (Addr × Obj)} (N : News h₀ L h (a :: b :: l)) : News h₀ L h (a :: l) := fun p hp => by
  rcases List.mem_cons.mp hp with rfl | hp
  · exact N _ List.mem_cons_self
  · exact N _ (List.mem_cons_of_mem _ (List.mem_cons_of_mem _ hp))
theorem s2_con (prog : Program) (w : World) {oc9 : Value} {od : Option Addr} {name qual : Str} {params : Arguments} {s1 s2 s3 s4 s5 s6 s7 s8 s9 : Stmt} {scope : Scope} {dV kV doc pm9 cdv ct9 : Value} {an : Option Addr} {osl : Array (Option Value)}
  (hb : (hd.heap_39 w.params).lookup 500 = some ⟨oc9, od, .func (fnOf name qual params [s1, s2, s3, s4, s5, s6, s7, s8, s9] scope dV kV doc pm9 an cdv ct9), osl⟩)
    (p : Program) (loose : List Str) (mean : ExcName → Option Value) (mg mb : Str → Option Value)
    (dp un : Nat) (gd : Option (List Code)) (cn : Str) (cs : Scope) (ad : Addr) (ccd : Value) (cl : List (Str × Addr)) (base g : Heap) (L Lq : Addr) (m : Str → Option Value) (s : Shared)
    (Q : Flow → Shared → Prop) (E : Value → Shared → Prop) (nws : List (Addr × Obj))
    (B : Below (ktrTop dp un gd cn cs L ad ccd cl []) base [envX cn cs L ad ccd cl] g) (F : Fr g Lq s.heap m) (X : (hd.heap_39 w.params).In g) (N : News g Lq s.heap nws) (T : Top p loose mean mg mb g) (hdp : dp + 400 < recursionLimit) (hu : un + 9000 < cLine)
    (XB : (hd.heap_39 w.params).In base) (TB : Top p loose mean mg mb base) (CH : CodeHd g 499 497)
    (src Tr dt R Ds Nm : Addr) (vs : List Value) (rows : List NRow) (S : Addr → List Int) (i : Nat) (ti : Tok) (r : NRow) (l : List Nat) (n : Nat) (nt : Nat → Tok) (nk : Nat) (ps : Array Value)
    (ZZ : NF prog w src Tr dt R Ds Nm Lq vs rows S i ti r l n nt nk ps nws) (hnm : m (Str.ofString "names") = some (.ref Nm)) (hso : m (Str.ofString "source") = some (.ref src)) (hR : R ≠ src) (hsub : ∀ q ∈ rows, ∀ D ∈ [q.c, q.a, q.n], D ≠ src) (hNm : Nm ≠ src)
    (k : ∀ h' tk' v1 v2 n2, v1 ∈ six nt ++ [.none] → v2 ∈ six nt ++ [.none] → Fr g Lq h' (fun y => if y = Str.ofString "name" then some v1 else if y = Str.ofString "mode" then some v2 else m y) → News g Lq h' n2 → NF prog w src Tr dt R Ds Nm Lq vs rows S i ti r l n nt nk ps n2 → Q .next { s with heap := h', toks := tk' }) :
    wpAny (model prog w) ((ktrTop dp un gd cn cs L ad ccd cl []).deeper (envOfC qual scope Lq 500 cdv)) (exec s2 (envOfC qual scope Lq 500 cdv)) Q E s := by
  apply body9 hb
  case hl => k_is
  clear hb; intro _
  (first | (refine env_let (t := fun e => execs _ e) ?_; intro ev Av) | (refine env_let (t := fun e => exec _ e) ?_; intro ev Av))
  (repeat ((fail_if_success (k_dflt (with_reducible show wpAny _ _ (callWith _ _ _ _ _) _ _ _))); (first | (k_unfold; (try dsimp only)) | (k_end; wrow_close) | walk1 | (dsimp only; walk1) | fail "no step")))
  k_dflt (refine' callWith_K ?k1 ?k2 ?_; (case k1 => k_asm); (case k2 => k_is); k_whole)
  (repeat ((fail_if_success (k_dflt (with_reducible show wpAny _ _ (binaryOp _ _ _) _ _ _))); (first | (k_unfold; (try dsimp only)) | (k_end; wrow_close) | walk1 | (dsimp only; walk1) | fail "no step")))
  rename News _ _ _ _ => kN
  k_dflt (refine' kmk_add_lit (zs := six nt ++ [.none]) (by k_asm) kN (ls_is kN (List.mem_cons_of_mem _ ZZ.nm)) (ls_is kN List.mem_cons_self) rfl ?_ ?z; (case z => show (7 : Nat) ≤ sizeLine; rw [sizeLine_eq]; decide))
  intro D1 h1' F1 N1' l1'
  have N1 := news_drop2 N1'
  have l1 := fun p hp => l1' p (List.mem_cons_of_mem _ hp)
  clear kN N1' l1'
  have lt1 := ZZ.SZ.lt l1
  have Y1 := ZZ.mono (n2 := (D1, lob (six nt ++ [.none]) 0) :: nws) (fun p hp => List.mem_cons_of_mem _ hp)
  (repeat ((fail_if_success (k_dflt (show wpAny _ _ (call (.ref 474) _) _ _ _))); (first | (k_unfold; (try dsimp only)) | (k_end; wrow_close) | walk1 | (dsimp only; walk1) | fail "no step"))); (try dsimp only [List.nil_append, List.cons_append])
  (k_dflt (refine' con_use (one_con _ _ _ src Y1.SZ D1 (six nt ++ [.none]) 0 List.mem_cons_self (Ne.symm (Nat.ne_of_lt lt1)) (by simp) (by simp) six_handed) ?uB ?uF ?uX ?uN ?uT ?uk ?ud ?uu ?_; (case uB => k_asm); (case uF => k_asm); (case uX => k_asm); (case uN => k_asm);  (case uT => k_asm); (case uk => first | exact rfl | assumption); (case ud => ktr_room); (case uu => ktr_units)); rintro r9 news9 h9 tk9 F9 N9 ⟨hv1, SZ1, hs1⟩; (try dsimp only))
  have V1 := Y1.src N1 hs1 hR hsub hNm SZ1
  rename News _ _ _ _ => kM1
  (repeat ((fail_if_success (k_dflt (with_reducible show wpAny _ _ (callWith _ _ _ _ _) _ _ _))); (first | (k_unfold; (try dsimp only)) | (k_end; wrow_close) | walk1 | (dsimp only; walk1) | fail "no step")))
  k_dflt (refine' callWith_K ?k1 ?k2 ?_; (case k1 => k_asm); (case k2 => k_is); k_whole)
  (repeat ((fail_if_success (k_dflt (with_reducible show wpAny _ _ (binaryOp _ _ _) _ _ _))); (first | (k_unfold; (try dsimp only)) | (k_end; wrow_close) | walk1 | (dsimp only; walk1) | fail "no step")))
  rename News _ _ _ _ => kN
  k_dflt (refine' kmk_add_lit (zs := six nt ++ [.none]) (by k_asm) kN (ls_is kN (List.mem_cons_of_mem _ V1.nm)) (ls_is kN List.mem_cons_self) rfl ?_ ?z; (case z => show (7 : Nat) ≤ sizeLine; rw [sizeLine_eq]; decide))
  intro D2 h2' F2 N2' l2'
  have N2 := news_drop2 N2'
  have l2 := fun p hp => l2' p (List.mem_cons_of_mem _ hp)
  clear kN N2' l2'
  have lt2 := V1.SZ.lt l2
  have Y2 := V1.mono (n2 := (D2, lob (six nt ++ [.none]) 0) :: news9) (fun p hp => List.mem_cons_of_mem _ hp)
  (repeat ((fail_if_success (k_dflt (show wpAny _ _ (call (.ref 474) _) _ _ _))); (first | (k_unfold; (try dsimp only)) | (k_end; wrow_close) | walk1 | (dsimp only; walk1) | fail "no step"))); (try dsimp only [List.nil_append, List.cons_append])
  (k_dflt (refine' con_use (one_con _ _ _ src Y2.SZ D2 (six nt ++ [.none]) 0 List.mem_cons_self (Ne.symm (Nat.ne_of_lt lt2)) (by simp) (by simp) six_handed) ?uB ?uF ?uX ?uN ?uT ?uk ?ud ?uu ?_; (case uB => k_asm); (case uF => k_asm); (case uX => k_asm); (case uN => k_asm);  (case uT => k_asm); (case uk => first | exact rfl | assumption); (case ud => ktr_room); (case uu => ktr_units)); rintro r9 news9 h9 tk9 F9 N9 ⟨hv2, SZ2, hs2⟩; (try dsimp only))
  have V2 := Y2.src N2 hs2 hR hsub hNm SZ2
  (repeat' (first | (k_unfold; (try dsimp only)) | (k_end; wrow_close) | walk1 | (dsimp only; walk1) | fail "no step"))
  rename News _ _ _ _ => kN; rename Fr _ _ _ _ => kF
  exact k _ _ _ _ _ hv1 hv2 kF kN (V2.mono (fun p hp => by repeat (first | exact hp | apply List.mem_cons_of_mem)))
end
section
theorem nd_ne {rows : List NRow} (hnd : (rows.flatMap fun r => [r.c, r.a, r.n]).Nodup) : ∀ q ∈ rows, ∀ r ∈ rows, q.n ≠ r.a := by
  induction rows with
  | nil => intro q hq; cases hq
  | cons x rs ih =>
    rw [List.flatMap_cons, List.nodup_append] at hnd
    obtain ⟨h1, h2, h3⟩ := hnd
    have hx : x.n ≠ x.a := by
      simp only [List.nodup_cons, List.mem_cons, List.not_mem_nil, or_false, not_or] at h1
      exact Ne.symm h1.2.1
    have inn : ∀ r ∈ rs, r.n ∈ rs.flatMap (fun r => [r.c, r.a, r.n]) ∧ r.a ∈ rs.flatMap (fun r => [r.c, r.a, r.n]) := fun r hr => ⟨List.mem_flatMap.mpr ⟨r, hr, by simp⟩, List.mem_flatMap.mpr ⟨r, hr, by simp⟩⟩
    intro q hq r hr
    rcases List.mem_cons.mp hq with hqx | hq'
    · rcases List.mem_cons.mp hr with hrx | hr'
      · rw [hqx, hrx]; exact hx
      · rw [hqx]; exact fun e => h3 _ (by simp) _ (inn r hr').2 e
    · rcases List.mem_cons.mp hr with hrx | hr'
      · rw [hrx]; exact fun e => h3 _ (by simp) _ (inn q hq').1 e.symm
      · exact ih h2 q hq' r hr'
theorem Up.app {rows : List NRow} {c : Option Nat} {l : List Nat} (h : Up rows c l) (x : NRow) : Up (rows ++ [x]) c l := by
  induction h with
  | nil => exact .nil
  | cons hr _ ih => exact .cons (by rw [List.getElem?_append_left (List.getElem?_eq_some_iff.mp hr).1]; exact hr) ih
theorem get_app {rows : List NRow} {j : Nat} {q : NRow} (h : rows[j]? = some q) (x : NRow) : (rows ++ [x])[j]? = some q := by rw [List.getElem?_append_left (List.getElem?_eq_some_iff.mp h).1]; exact h
theorem nsStep_app {rows : List NRow} {x : NRow} {js : List Int} (hj : ∀ j ∈ js, ∃ (k : Nat) (q : NRow), j = (k : Int) ∧ rows[k]? = some q) (f : Str → Option Str) : js.foldl (nsStep (rows ++ [x])) f = js.foldl (nsStep rows) f := by
  induction js generalizing f with
  | nil => rfl
  | cons j js ih =>
    obtain ⟨k, q, rfl, hq⟩ := hj j List.mem_cons_self
    rw [List.foldl_cons, List.foldl_cons, ih (fun j h => hj j (List.mem_cons_of_mem _ h))]
    congr 1
    simp only [nsStep, Int.toNat_natCast, hq, get_app hq]
theorem scopeF_app {rows : List NRow} {x : NRow} {S S' : Addr → List Int} (hS : ∀ q ∈ rows, S' q.n = S q.n) (hns : ∀ r ∈ rows, ∀ j ∈ S r.n, ∃ (k : Nat) (q : NRow), j = (k : Int) ∧ rows[k]? = some q) {l : List Nat} (hl : ∀ j ∈ l, ∃ r, rows[j]? = some r) :
    scopeF (rows ++ [x]) S' l = scopeF rows S l := by
  have key : ∀ (l : List Nat) (f : Str → Option Str), (∀ j ∈ l, ∃ r, rows[j]? = some r) → (l.map (fun j : Nat => (j : Int))).foldl (elStep (rows ++ [x]) S') f = (l.map (fun j : Nat => (j : Int))).foldl (elStep rows S) f := by
    intro l
    induction l with
    | nil => intro f _; rfl
    | cons j l ih =>
      intro f hl
      obtain ⟨r, hr⟩ := hl j List.mem_cons_self
      rw [List.map_cons, List.foldl_cons, List.foldl_cons, ih _ (fun j h => hl j (List.mem_cons_of_mem _ h))]
      congr 1
      have hm := List.mem_of_getElem? hr
      simp only [elStep, Int.toNat_natCast, hr, get_app hr, hS r hm]
      exact nsStep_app (hns r hm) f
  exact key _ _ (fun j hj => hl j (List.mem_reverse.mp hj))
theorem afind_app {rows : List NRow} {x : NRow} {lo : Str} {js : List Int} (hj : ∀ j ∈ js, ∃ (k : Nat) (q : NRow), j = (k : Int) ∧ rows[k]? = some q) : afind (rows ++ [x]) lo (js ++ [(rows.length : Int)]) = (afind rows lo js).or (if x.loc = lo ∧ x.uri = Str.ofString "" then some x.val else none) := by
  simp only [afind, List.findSome?_append]
  congr 1
  · induction js with
    | nil => rfl
    | cons j js ih =>
      obtain ⟨k, q, rfl, hq⟩ := hj j List.mem_cons_self
      simp only [List.findSome?_cons, Int.toNat_natCast, hq, get_app hq]
      split
      · rfl
      · exact ih (fun j h => hj j (List.mem_cons_of_mem _ h))
  · simp [List.findSome?_cons]
    split <;> (rename_i h; exact h.symm)
/-- the attributes that the element has got -/
structure Att (rows0 : List NRow) (S0 : Addr → List Int) (rows : List NRow) (S : Addr → List Int) (i : Nat) (r : NRow) (l : List Nat) (done : List (Str × Str)) : Prop where
  EL : Elem rows S i r l
  sc : scopeF rows S l = scopeF rows0 S0 l
  la : (S r.a).length = done.length
  fa : ∀ lo, afind rows lo (S r.a) = (done.find? (fun p => p.1 == lo)).map (·.2)
  lr : rows.length = rows0.length + done.length
theorem Att.add {news : List (Addr × Obj)} {Tr dt R : Addr} {vs : List Value} {rows0 rows : List NRow} {S0 S : Addr → List Int} {i : Nat} {r : NRow} {l : List Nat} {done : List (Str × Str)} (TX : TreeIs news Tr dt R vs rows S) (A : Att rows0 S0 rows S i r l done) {c a n : Addr} (hf : ∀ p ∈ news, p.1 < c ∧ p.1 < a ∧ p.1 < n)
    (w u : Str) (kd : Str) (hw : ∀ p ∈ done, p.1 ≠ w) (pr : Option Nat) : Att rows0 S0 (rows ++ [⟨kd, w, Str.ofString "", w, u, pr, c, a, n⟩]) (S1 (S3 S c a n) r.a rows.length) i r l (done ++ [(w, u)]) := by
  have hrm := List.mem_of_getElem? A.EL.hi
  have lt : ∀ q ∈ rows, ∀ D ∈ [q.c, q.a, q.n], D ≠ c ∧ D ≠ a ∧ D ≠ n := fun q hq D hD => by
    obtain ⟨ys, k, m, -⟩ := TX.sub q hq D hD
    obtain ⟨z1, z2, z3⟩ := hf _ m
    exact ⟨Nat.ne_of_lt z1, Nat.ne_of_lt z2, Nat.ne_of_lt z3⟩
  have hnd := TX.nd
  rw [List.nodup_cons] at hnd
  have hna := nd_ne hnd.2
  have hS : ∀ q ∈ rows, S1 (S3 S c a n) r.a rows.length q.n = S q.n := fun q hq => by
    obtain ⟨z1, z2, z3⟩ := lt q hq q.n (by simp)
    simp [S1, S3, hna q hq r hrm, z1, z2, z3]
  have hSa : S1 (S3 S c a n) r.a rows.length r.a = S r.a ++ [(rows.length : Int)] := by
    obtain ⟨z1, z2, z3⟩ := lt r hrm r.a (by simp)
    simp [S1, S3, z1, z2, z3]
  refine ⟨⟨get_app A.EL.hi _, A.EL.up.app _, A.EL.len, fun q hq j hj => ?_, fun j hj => ?_, A.EL.nm⟩, ?_, ?_, fun lo => ?_, ?_⟩
  · rcases List.mem_append.mp hq with hq | hq
    · rw [hS q hq] at hj
      obtain ⟨k, q', rfl, hq'⟩ := A.EL.ns q hq j hj
      exact ⟨k, q', rfl, get_app hq' _⟩
    · obtain rfl := List.mem_singleton.mp hq
      obtain ⟨z1, z2, z3⟩ := lt r hrm r.a (by simp)
      simp [S1, S3, Ne.symm z3] at hj
  · rw [hSa] at hj
    rcases List.mem_append.mp hj with hj | hj
    · obtain ⟨k, q', rfl, hq'⟩ := A.EL.ats j hj
      exact ⟨k, q', rfl, get_app hq' _⟩
    · obtain rfl := List.mem_singleton.mp hj
      exact ⟨rows.length, _, rfl, by rw [List.getElem?_append_right (Nat.le_refl _), Nat.sub_self]; rfl⟩
  · rw [scopeF_app hS A.EL.ns (up_mem A.EL.up), A.sc]
  · rw [hSa, List.length_append, List.length_append, A.la]; rfl
  · rw [hSa, afind_app A.EL.ats, A.fa, List.find?_append]
    cases hd : done.find? (fun p => p.1 == lo) with
    | some p => simp
    | none =>
      by_cases hl : w = lo
      · subst hl; simp
      · simp [hl]
  · rw [List.length_append, List.length_append, A.lr]; rfl
end
section
section
variable {prog : Program} {w : World} {A : Around} {E : Value → Shared → Prop} {s : Shared} {h₀ : Heap} {env : Env} {target : Expr} {body : List Stmt} {Q : Flow → Shared → Prop}
theorem items_ind2 {I : Addr} {cn : String} {keep : List (Addr × Obj)} (Inv : Nat → (Str → Option Value) → List (Addr × Obj) → Prop) (all : List Value)
    (turn : ∀ i v m news h tk it, it.cls = .type cn → all[i]? = some v → ∀ zQ : Flow → Shared → Prop, (∀ f s', UnrPostW h₀ env.locals { s with heap := h, toks := tk } [(I, it)] (fun m' n' => SubL keep n' ∧ Inv (i + 1) m' n') Q f s' → zQ f s') → Inv i m news → Fr h₀ env.locals h m → News h₀ env.locals h ((I, it) :: news) →
      wpAny (model prog w) A (assign target env v) (fun _ s₂ => wpAny (model prog w) A (execs body env) zQ E s₂) E { s with heap := h, toks := tk })
    (done : ∀ m news, Inv all.length m news → ∀ h tk, Fr h₀ env.locals h m → News h₀ env.locals h news → Q .next { s with heap := h, toks := tk }) :
    ∀ (rest : List Value) (i : Nat) (m : Str → Option Value) (news : List (Addr × Obj)), i ≤ all.length → all.drop i = rest → Inv i m news → ItemsRest prog w A E h₀ env target body Q s [(I, cn)] keep (rest.map .val) m news := by
  intro rest
  induction rest with
  | nil =>
    intro i m news hi e hI h tk F N
    have hle : all.length ≤ i := by simpa using e
    obtain rfl : i = all.length := by omega
    exact done m news hI h tk F N
  | cons v r ih =>
    intro i m news hi e hI u h tk hu F it hc N
    have hu' : u = v := hu
    subst hu'
    have hlt : i < all.length := by
      rcases Nat.lt_or_ge i all.length with q | q
      · exact q
      · rw [List.drop_of_length_le q] at e; cases e
    have hv : all[i]? = some u := by
      have := congrArg (·[0]?) e
      simpa using this
    have hr : all.drop (i + 1) = r := by
      have := congrArg List.tail e
      simpa [List.tail_drop] using this
    refine wpAny_mono (turn i u m news h tk it hc hv _ (fun _ _ z => z) hI F N) (fun _ s₂ h₂ => wpAny_mono h₂ (fun f s₃ h₃ => ?_) fun _ _ z => z) fun _ _ z => z
    cases f with
    | ret v => exact h₃
    | brk => exact h₃
    | next => obtain ⟨h', tk', m', n', a, b, c, d, e1, e2⟩ := h₃; exact ⟨h', tk', m', n', a, b, c, d, e1, ih (i + 1) m' n' hlt hr e2⟩
    | cont => obtain ⟨h', tk', m', n', a, b, c, d, e1, e2⟩ := h₃; exact ⟨h', tk', m', n', a, b, c, d, e1, ih (i + 1) m' n' hlt hr e2⟩
end
noncomputable def Own (o : Obj) : Prop := (∃ C, o.cls = .ref C) ∨ o.cls = .type "dict" ∨ o.cls = .type "list"
theorem TreeIs.own {n1 n2 : List (Addr × Obj)} {T dt R : Addr} {vs : List Value} {rows : List NRow} {S : Addr → List Int} (hs : ∀ p ∈ n1, Own p.2 → p ∈ n2) (X : TreeIs n1 T dt R vs rows S) : TreeIs n2 T dt R vs rows S where
  inst := hs _ X.inst (.inl ⟨_, rfl⟩)
  dict := by obtain ⟨h, tk, e⟩ := X.dict; exact ⟨h, tk, hs _ e (.inr (.inl rfl))⟩
  lst := by obtain ⟨n, e⟩ := X.lst; exact ⟨n, hs _ e (.inr (.inr rfl))⟩
  len := X.len
  small := X.small
  row := fun i r e => by obtain ⟨v, a, x, d, f, t, u, b, c, d'⟩ := X.row i r e; exact ⟨v, a, x, d, f, t, u, b, hs _ c (.inl ⟨_, rfl⟩), hs _ d' (.inr (.inl rfl))⟩
  sub := fun r hr D hD => by obtain ⟨ys, k, a, b, c⟩ := X.sub r hr D hD; exact ⟨ys, k, hs _ a (.inr (.inr rfl)), b, c⟩
  nd := X.nd
theorem own_filter {h₀ h : Heap} {L I : Addr} {it : Obj} {all : List (Addr × Obj)} {cn : String} (N : News h₀ L h all) (hI : (I, it) ∈ all) (hc : it.cls = .type cn) (h1 : cn ≠ "dict") (h2 : cn ≠ "list") : ∀ p ∈ all, Own p.2 → p ∈ all.filter fun p => p.1 != I := fun p hp ho => by
  refine List.mem_filter.mpr ⟨hp, ?_⟩
  suffices p.1 ≠ I by simpa using this
  intro q
  obtain ⟨x, o⟩ := p
  dsimp only at q ho
  subst q
  have e := Option.some.inj ((N.get hp).symm.trans (N.get hI))
  subst e
  rcases ho with ⟨C, hC⟩ | hC | hC
  · rw [hc] at hC; cases hC
  · rw [hc] at hC; exact h1 (by injection hC)
  · rw [hc] at hC; exact h2 (by injection hC)
theorem afind_none {rows : List NRow} {lo : Str} {js : List Int} (h : afind rows lo js = none) (hj : ∀ j ∈ js, ∃ (k : Nat) (q : NRow), j = (k : Int) ∧ rows[k]? = some q) : ∀ j ∈ js, ∃ (k : Nat) (q : NRow), j = (k : Int) ∧ rows[k]? = some q ∧ (q.uri ≠ Str.ofString "" ∨ q.loc ≠ lo) := by
  intro j hm
  obtain ⟨k, q, rfl, hq⟩ := hj j hm
  refine ⟨k, q, rfl, hq, ?_⟩
  have z := List.findSome?_eq_none_iff.mp h _ hm
  simp only [Int.toNat_natCast, hq, Option.bind_some] at z
  by_cases hl : q.loc = lo
  · by_cases hu : q.uri = Str.ofString ""
    · rw [if_pos ⟨hl, hu⟩] at z; cases z
    · exact .inl hu
  · exact .inr hl
theorem six_cases {nt : Nat → Tok} {v : Value} (hv : v ∈ six nt ++ [.none]) : v = .none ∨ ∃ u t, v = .str u t := by
  simp only [six, List.mem_append, List.mem_cons, List.not_mem_nil, or_false] at hv
  rcases hv with (rfl | rfl | rfl | rfl | rfl | rfl) | rfl <;> first | exact .inl rfl | exact .inr ⟨_, _, rfl⟩
end
section
theorem NF.attr {prog : Program} {w : World} {h₀ h : Heap} {L : Addr} {src Tr dt R Ds Nm Lq : Addr} {vs vs2 : List Value} {rows rows2 : List NRow} {S S2 : Addr → List Int} {i : Nat} {ti : Tok} {r : NRow} {l : List Nat} {n : Nat} {nt : Nat → Tok} {nk : Nat} {ps : Array Value} {n1 n2 : List (Addr × Obj)}
    (N : News h₀ L h n1) (X : NF prog w src Tr dt R Ds Nm Lq vs rows S i ti r l n nt nk ps n1) (TX2 : TreeIs n2 Tr dt R vs2 rows2 S2) (EL2 : Elem rows2 S2 i r l) (hsc : scopeF rows2 S2 l = scopeF rows S l) (hs : ∀ p ∈ n1, p.1 ≠ R → p.1 ≠ r.a → p ∈ n2)
    (h1 : src ≠ R) (h2 : src ≠ r.a) (h3 : Nm ≠ R) (h4 : Nm ≠ r.a) : NF prog w src Tr dt R Ds Nm Lq vs2 rows2 S2 i ti r l n nt nk ps n2 := by
  obtain ⟨nn, hR⟩ := X.TX.lst
  obtain ⟨ys, k, ha, -⟩ := X.TX.sub r (List.mem_of_getElem? X.EL.hi) r.a (by simp)
  have cell : ∀ a o v, (a, o) ∈ n1 → o.data = .cell v → (a, o) ∈ n2 := fun a o v hm hd => hs _ hm (obj_ne N hm hR (fun q => by rw [q] at hd; cases hd)) (obj_ne N hm ha (fun q => by rw [q] at hd; cases hd))
  refine ⟨TX2, EL2, ?_, X.SZ.mono (fun o ho => hs _ ho h1 h2), X.hn, hs _ X.nm h3 h4, ?_, ?_, ?_, hs _ X.tb (obj_ne N X.tb hR (fun q => by cases q)) (obj_ne N X.tb ha (fun q => by cases q))⟩
  · rw [hsc]
    exact X.Z.mono (fun o ho => hs _ ho (Ne.symm (X.Z.ne N hR)) (Ne.symm (X.Z.ne N ha)))
  · obtain ⟨o, a, b⟩ := X.ct
    exact ⟨o, cell _ _ _ a b, b⟩
  · obtain ⟨o, a, b⟩ := X.ce
    exact ⟨o, cell _ _ _ a b, b⟩
  · obtain ⟨o, a, b⟩ := X.cs
    exact ⟨o, cell _ _ _ a b, b⟩
noncomputable abbrev dopt (w : Str) : Value → List (Str × Str)
  | .str u _ => [(w, u)]
  | _ => []
noncomputable abbrev dn (v1 v2 : Value) : Nat → List (Str × Str)
  | 0 => []
  | 1 => dopt (Str.ofString "name") v1
  | _ => dopt (Str.ofString "name") v1 ++ dopt (Str.ofString "mode") v2
theorem s3_con (prog : Program) (w : World) {oc9 : Value} {od : Option Addr} {name qual : Str} {params : Arguments} {s1 s2 s3 s4 s5 s6 s7 s8 s9 : Stmt} {scope : Scope} {dV kV doc pm9 cdv ct9 : Value} {an : Option Addr} {osl : Array (Option Value)}
  (hb : (hd.heap_39 w.params).lookup 500 = some ⟨oc9, od, .func (fnOf name qual params [s1, s2, s3, s4, s5, s6, s7, s8, s9] scope dV kV doc pm9 an cdv ct9), osl⟩)
    (p : Program) (loose : List Str) (mean : ExcName → Option Value) (mg mb : Str → Option Value)
    (dp un : Nat) (gd : Option (List Code)) (cn : Str) (cs : Scope) (ad : Addr) (ccd : Value) (cl : List (Str × Addr)) (base g : Heap) (L Lq : Addr) (m : Str → Option Value) (s : Shared)
    (Q : Flow → Shared → Prop) (E : Value → Shared → Prop) (hE : PassesOwn (model prog w) ((ktrTop dp un gd cn cs L ad ccd cl []).deeper (envOfC qual scope Lq 500 cdv)) (envOfC qual scope Lq 500 cdv) E) (nws : List (Addr × Obj))
    (B : Below (ktrTop dp un gd cn cs L ad ccd cl []) base [envX cn cs L ad ccd cl] g) (F : Fr g Lq s.heap m) (X : (hd.heap_39 w.params).In g) (N : News g Lq s.heap nws) (T : Top p loose mean mg mb g) (hdp : dp + 400 < recursionLimit) (hu : un + 9000 < cLine)
    (XB : (hd.heap_39 w.params).In base) (TB : Top p loose mean mg mb base) (CH : CodeHd g 499 497)
    (src Tr dt R Ds Nm : Addr) (vs : List Value) (rows : List NRow) (S : Addr → List Int) (i : Nat) (ti : Tok) (r : NRow) (l : List Nat) (n : Nat) (nt : Nat → Tok) (nk : Nat) (ps : Array Value)
    (ZZ : NF prog w src Tr dt R Ds Nm Lq vs rows S i ti r l n nt nk ps nws) (v1 v2 : Value) (h1 : v1 ∈ six nt ++ [.none]) (h2 : v2 ∈ six nt ++ [.none]) (hn1 : m (Str.ofString "name") = some v1) (hn2 : m (Str.ofString "mode") = some v2) (hkd : r.kind = Str.ofString "element") (hSa : S r.a = []) (hsm : rows.length < 50) (hR1 : src ≠ R) (hR2 : src ≠ r.a) (hR3 : Nm ≠ R) (hR4 : Nm ≠ r.a)
    (k : ∀ h' tk' n2 vs' rows' S' m', (∀ y, y ≠ Str.ofString "word" → y ≠ Str.ofString "value" → m' y = m y) → Att rows S rows' S' i r l (dn v1 v2 2) → Fr g Lq h' m' → News g Lq h' n2 → NF prog w src Tr dt R Ds Nm Lq vs' rows' S' i ti r l n nt nk ps n2 → Q .next { s with heap := h', toks := tk' }) :
    wpAny (model prog w) ((ktrTop dp un gd cn cs L ad ccd cl []).deeper (envOfC qual scope Lq 500 cdv)) (exec s3 (envOfC qual scope Lq 500 cdv)) Q E s := by
  revert hE
  apply body9 hb
  case hl => k_is
  clear hb; intro _
  intro hE
  (first | (refine env_let (t := fun e => execs _ e) ?_; intro ev Av) | (refine env_let (t := fun e => exec _ e) ?_; intro ev Av))
  obtain ⟨oct, hct, dct⟩ := ZZ.ct
  obtain ⟨oce, hce, dce⟩ := ZZ.ce
  k_dflt (refine For_turns (by k_asm) ?_ (by intro _; rfl) hE)
  (repeat ((fail_if_success (k_dflt (show wpAny _ _ (pyIter _) _ _ _))); (first | (k_unfold; (try dsimp only)) | (k_end; wrow_close) | walk1 | (dsimp only; walk1) | fail "no step")))
  rename_i D1 hpa la D2 hpb lb lD hpc kF kN lc
  k_dflt (refine iter_listTurns (by rfl) kF kN List.mem_cons_self rfl rfl fun I hI => ?_)
  refine items_ind2 (fun i0 m' nw => (∃ vs' rows' S', NF prog w src Tr dt R Ds Nm Lq vs' rows' S' i ti r l n nt nk ps nw ∧ Att rows S rows' S' i r l (dn v1 v2 i0)) ∧ (lD, lob [.ref D1, .ref D2] 0) ∈ nw ∧ (∃ ta, (D1, tob [.str (Str.ofString "name") ta, v1] 0) ∈ nw) ∧ (∃ tb, (D2, tob [.str (Str.ofString "mode") tb, v2] 0) ∈ nw) ∧ (∀ y, y ≠ Str.ofString "word" → y ≠ Str.ofString "value" → m' y = m y) ∧ ∀ p ∈ nw, p.1 ≠ I) [.ref D1, .ref D2] ?turn ?done [.ref D1, .ref D2] 0 _ _ (Nat.zero_le _) rfl
    ⟨⟨vs, rows, S, ZZ.mono (fun p hp => List.mem_cons_of_mem _ (List.mem_cons_of_mem _ (List.mem_cons_of_mem _ hp))), ⟨ZZ.EL, rfl, by rw [hSa]; rfl, fun lo => by rw [hSa]; rfl, rfl⟩⟩, List.mem_cons_self, ⟨_, List.mem_cons_of_mem _ (List.mem_cons_of_mem _ List.mem_cons_self)⟩, ⟨_, List.mem_cons_of_mem _ List.mem_cons_self⟩, fun _ _ _ => rfl, fun p hp => Nat.ne_of_lt (hI p hp)⟩
  case turn =>
    clear kF kN
    rintro i0 v0 m0 nw h tk0 it hcl hv0 zQ zH ⟨⟨vs', rows', S', Z', A'⟩, hlD, ⟨ta, hD1⟩, ⟨tb, hD2⟩, hmm, hnI⟩ F1 N1
    obtain ⟨Dk, wk, vk, tw, rfl, hDk, hvk, hdn, hfr⟩ : ∃ Dk wk vk tw, v0 = .ref Dk ∧ (Dk, tob [.str wk tw, vk] 0) ∈ nw ∧ vk ∈ six nt ++ [.none] ∧ dn v1 v2 (i0 + 1) = dn v1 v2 i0 ++ dopt wk vk ∧ (∀ p ∈ dn v1 v2 i0, p.1 ≠ wk) := by
      clear F1 N1 A'
      rcases i0 with _ | _ | i0
      · cases hv0; exact ⟨_, _, _, _, rfl, hD1, h1, rfl, fun p hp => nomatch hp⟩
      rotate_left
      · simp at hv0
      · cases hv0
        refine ⟨_, _, _, _, rfl, hD2, h2, rfl, fun p hp => ?_⟩
        have : p.1 = Str.ofString "name" := by
          rcases six_cases h1 with rfl | ⟨u, t, rfl⟩
          · cases hp
          · rw [List.mem_singleton.mp hp]
        rw [this]; decide
    have hlR : lD ≠ R := Ne.symm (Nat.ne_of_lt (tb_ltOf lc.2.2 _ ZZ.TX.lst.choose_spec))
    have hla : lD ≠ r.a := by
      obtain ⟨ys, k', hm, -⟩ := ZZ.TX.sub r (List.mem_of_getElem? ZZ.EL.hi) r.a (by simp)
      exact Ne.symm (Nat.ne_of_lt (tb_ltOf lc.2.2 _ hm))
    obtain ⟨oct, hct, dct⟩ := Z'.ct
    obtain ⟨oce, hce, dce⟩ := Z'.ce
    have g1 := Z'.TX.inst
    obtain ⟨hh, tk9, g2⟩ := Z'.TX.dict
    k_dflt (refine' unpackN_ ?F ?N ?T ?k1 ?k2 ?k3 ?_; (case F => k_asm); (case N => k_asm); (case T => refine News.isTup (by k_asm) (List.mem_cons_of_mem _ hDk)); (case k1 => exact rfl); (case k2 => exact rfl); (case k3 => exact rfl))
    intro hpu Fu Nu
    rcases six_cases hvk with rfl | ⟨u, tu, rfl⟩
    · (repeat' (first | (k_unfold; (try dsimp only)) | (k_end; wrow_close) | walk1 | (dsimp only; walk1) | fail "no step"))
      rename News _ _ _ _ => kN; rename Fr _ _ _ _ => kF
      refine zH _ _ ?_; refine unrEnd_sub _ kF kN (fun p hp => hp) hnI ⟨⟨hlD, trivial⟩, ⟨vs', rows', S', Z', by rw [hdn]; simpa using A'⟩, hlD, ⟨_, hD1⟩, ⟨_, hD2⟩, fun y h1 h2 => ?_, hnI⟩
      show (if y = Str.ofString "value" then _ else if y = Str.ofString "word" then _ else m0 y) = _
      rw [if_neg h2, if_neg h1]
      exact hmm y h1 h2
    · have hct' := List.mem_cons_of_mem (I, it) hct
      have hce' := List.mem_cons_of_mem (I, it) hce
      have TX1 := Z'.TX.mono (n2 := (I, it) :: nw) (fun p hp => List.mem_cons_of_mem _ hp)
      have hlen := A'.lr
      have hdl : (dn v1 v2 i0).length ≤ 2 := by
        have e : ∀ w v, v ∈ six nt ++ [.none] → (dopt w v).length ≤ 1 := fun w v hv => by rcases six_cases hv with rfl | ⟨u, t, rfl⟩ <;> simp [dopt]
        clear A' hdn hfr hv0 F1 N1 hlen
        rcases i0 with _ | _ | _
        · simp [dn]
        · exact Nat.le_trans (e _ _ h1) (by decide)
        · simp only [dn, List.length_append]; exact Nat.add_le_add (e _ _ h1) (e _ _ h2)
      have hfa : afind rows' wk (S' r.a) = none := by
        rw [A'.fa, List.find?_eq_none.mpr (fun p hp => by simpa using hfr p hp)]; rfl
      (repeat ((fail_if_success (k_dflt (show wpAny _ _ (call (.ref 348) _) _ _ _))); (first | (k_unfold; (try dsimp only)) | (k_end; wrow_close) | walk1 | (dsimp only; walk1) | fail "no step"))); (try dsimp only [List.nil_append, List.cons_append])
      k_dflt (show wpAny _ _ (call (.ref 348) [.ref Tr, .int (i : Int) ti, .str wk _, .str (Str.ofString "") _, .str wk _, .str u _]) _ _ _)
      (k_dflt (refine' con_use (set_attribute_con _ _ _ Tr dt R vs' rows' S' TX1 (by omega) i _ r A'.EL.hi hkd wk (Str.ofString "") wk u _ _ _ _ (by rw [A'.la]; omega) (afind_none hfa A'.EL.ats)) ?uB ?uF ?uX ?uN ?uT ?uk ?ud ?uu ?_; (case uB => k_asm); (case uF => k_asm); (case uX => k_asm); (case uN => k_asm);  (case uT => k_asm); (case uk => first | exact rfl | assumption); (case ud => ktr_room); (case uu => ktr_units)); rintro r9 news9 h9 tk9 F9 N9 ⟨c9, a9, n9, x9, ⟨t9, rfl⟩, TX9, hs9, fr9⟩; (try dsimp only))
      have A9 := A'.add TX1 fr9 wk u (Str.ofString "attribute") hfr (some i)
      obtain ⟨nR, hRm⟩ := Z'.TX.lst
      obtain ⟨yA, kA, hAm, -⟩ := Z'.TX.sub r (List.mem_of_getElem? A'.EL.hi) r.a (by simp)
      have hIn := hs9 _ List.mem_cons_self (Ne.symm (hnI _ hRm)) (Ne.symm (hnI _ hAm))
      (repeat' (first | (k_unfold; (try dsimp only)) | (k_end; wrow_close) | walk1 | (dsimp only; walk1) | fail "no step"))
      rename News _ _ _ _ => kN; rename Fr _ _ _ _ => kF
      have hfl : ∀ p ∈ nw, p.1 ≠ R → p.1 ≠ r.a → p ∈ news9.filter fun p => p.1 != I := fun p hp q1 q2 => List.mem_filter.mpr ⟨hs9 p (List.mem_cons_of_mem _ hp) q1 q2, by simpa using hnI p hp⟩
      have NT := fun p hp => N1 p (List.mem_cons_of_mem _ hp)
      have ne2 : ∀ (D9 : Addr) vs9, (D9, tob vs9 0) ∈ nw → D9 ≠ R ∧ D9 ≠ r.a := fun D9 vs9 hm => ⟨obj_ne NT hm hRm (fun q => by have := congrArg Obj.cls q; simp at this), obj_ne NT hm hAm (fun q => by have := congrArg Obj.cls q; simp at this)⟩
      refine zH _ _ ?_; refine unrEnd_filter kF kN hIn ⟨⟨hfl _ hlD hlR hla, trivial⟩, ⟨_, _, _, Z'.attr NT (TX9.own (own_filter kN hIn hcl (by decide) (by decide))) A9.EL (A9.sc.trans A'.sc.symm) hfl hR1 hR2 hR3 hR4, by rw [hdn]; exact A9⟩, hfl _ hlD hlR hla, ⟨_, hfl _ hD1 (ne2 _ _ hD1).1 (ne2 _ _ hD1).2⟩, ⟨_, hfl _ hD2 (ne2 _ _ hD2).1 (ne2 _ _ hD2).2⟩, fun y h1 h2 => ?_, fun p hp => by simpa using (List.mem_filter.mp hp).2⟩
      show (if y = Str.ofString "value" then _ else if y = Str.ofString "word" then _ else m0 y) = _
      rw [if_neg h2, if_neg h1]
      exact hmm y h1 h2
  case done =>
    clear kF kN
    rintro m0 nw ⟨⟨vs', rows', S', Z', A'⟩, hlD, ⟨ta, hD1⟩, ⟨tb, hD2⟩, hmm, -⟩ h tk0 F1 N1
    exact k _ _ _ vs' rows' S' m0 hmm A' F1 N1 Z'
end
section
theorem newCompEnv {M : Model} {A : Around} {E : Value → Shared → Prop} {s : Shared} {scope : Scope} {globals : Addr} {cl : List (Str × Addr)} {qual : Str} {env : Env} {Q : Env → Shared → Prop} (hk : scope.kind = .function)
    (h : Q (newEnv scope s.heap.objs.size globals (cellsFrom (s.heap.objs.size + 1) scope.names cl) qual none .none (some env) env.builtins) { s with heap := pushCells (s.heap.push { cls := .type "dict", data := .dict #[] }) scope.names }) :
    wpAny M A (newFunctionEnv scope globals cl [] qual none .none (some env)) Q E s := by
  simp only [newFunctionEnv, Option.isSome_some, if_true]
  refine wpAny_bind (wpAny_alloc ?_)
  refine wpAny_bind (wpAny_layCells _ (fun name kind cells => by cases hkc : kind == NameKind.cell <;> simp [hkc]) _ _ _ _ ?_)
  rw [show ({ s with heap := s.heap.push { cls := .type "dict", data := .dict #[] } } : Shared).heap.objs.size = s.heap.objs.size + 1 from Heap.size_push ..]
  simp only [List.forIn_nil]
  exact wpAny_bind (wpAny_pure (wpAny_pure h))
noncomputable abbrev offs (I C D Z : Addr) (l : List (Addr × Obj)) : List (Addr × Obj) := l.filter fun p => p.1 != I && p.1 != C && p.1 != D && p.1 != Z
theorem mem_offs {I C D Z : Addr} {l : List (Addr × Obj)} {p : Addr × Obj} : p ∈ offs I C D Z l ↔ p ∈ l ∧ p.1 ≠ I ∧ p.1 ≠ C ∧ p.1 ≠ D ∧ p.1 ≠ Z := by
  simp [offs, List.mem_filter, and_assoc]
section
open LCg
variable {prog : Program} {w : World} {A : Around} {E : Value → Shared → Prop} {s : Shared} {g : Heap} {L : Addr} {m : Str → Option Value} {env : Env}
/-- «[elt for x in iter if c]» in a def, where x lies in a cell of the comprehension, no item is taken, and the ground may turn -/
theorem ListComp_cell {c elt iter : Expr} {x : Str} {px : Pos} {scope : Scope} {cl : List (Str × Addr)} {pos : Pos} {Q : Value → Shared → Prop} {its : List Value} {ax : Addr} {k : Nat} (Inv : Nat → Heap → List (Addr × Obj) → Prop) (hLe : env.locals = L) (hh : A.handled = none)
    (hclos : closureFor scope env = pure cl) (hkind : scope.kind = .function) (hnames : ∀ z ∈ scope.names, z.2 = .local → scope.names.lookup z.1 = some .local)
    (hpc : ∀ h, pushCells h scope.names = h.push { cls := .type "cell", data := .cell none }) (hcf : ∀ n, cellsFrom n scope.names cl = (x, n) :: cl) (hx : (relabel scope env).names.lookup x = some .cell)
    (hi : wpAny (model prog w) A (eval iter env) (fun xv s₁ => xv = .ref ax ∧ ∃ news, Fr g L s₁.heap m ∧ News g L s₁.heap news ∧ Inv 0 g news ∧ ∃ h tk, s₁ = { s with heap := h, toks := tk }) E s)
    (hInv : ∀ i g' nw, Inv i g' nw → (ax, lob its k) ∈ nw)
    (turn : ∀ i v g' nw h tk I oI C oC D Z oZ (E' : Value → Shared → Prop), its[i]? = some v → Inv i g' nw → Fr g' L h m → News g' L h ((I, oI) :: (C, oC) :: (D, lob [] 0) :: (Z, oZ) :: nw) → oZ.data = .cell (some v) →
      (∀ p ∈ nw, p.1 ≠ I ∧ p.1 ≠ C ∧ p.1 ≠ D ∧ p.1 ≠ Z) →
      wpAny (model prog w) A (isTrue c (compEnvC scope ((x, Z) :: cl) C env) (eval c (compEnvC scope ((x, Z) :: cl) C env))) (fun ok s' => ok = false ∧ ∃ g'' h' tk' full, s' = { s with heap := h', toks := tk' } ∧ Fr g'' L h' m ∧ News g'' L h' full ∧
        (I, oI) ∈ full ∧ (C, oC) ∈ full ∧ (D, lob [] 0) ∈ full ∧ (Z, oZ) ∈ full ∧ Inv (i + 1) g'' (offs I C D Z full)) E' { s with heap := h, toks := tk })
    (done : ∀ g' nw h tk D, Fr g' L h m → News g' L h ((D, lob [] 0) :: nw) → Inv its.length g' nw → Q (.ref D) { s with heap := h, toks := tk })
    (hs : ∀ x, foldedSetIterable iter env x = pure x := by intro _; rfl) :
    wpAny (model prog w) A (eval (.ListComp elt [⟨.Name x px, iter, [c], 0⟩] scope pos) env) Q E s := by
  subst hLe
  rw [arm_eval_ListComp]
  show wpAny _ A (comprehension (.ListComp elt [⟨.Name x px, iter, [c], 0⟩] scope pos) scope env _ (newList []) false (eval iter env)) _ _ s
  refine wpAny_comprehension_free (use := none) rfl hs hclos hkind hnames (wpAny_mono hi (fun xv s₁ h₁ => ?_) fun _ _ e => e)
  obtain ⟨rfl, news, F, N, hI0, hs1, tk1, rfl⟩ := h₁
  have hax := hInv _ _ _ hI0
  dsimp only at F N
  have hl : hs1.IsList ax its.toArray := ⟨_, (N _ hax).1, rfl, _, rfl⟩
  refine wpAny_pyIter_list hl ?_
  obtain ⟨I, hIe⟩ : ∃ I : Nat, hs1.objs.size = I := ⟨_, rfl⟩
  have hlt : @LT.lt Nat _ ax I := hIe ▸ Heap.lt_size (N _ hax).1
  have hLI : @LT.lt Nat _ env.locals I := hIe ▸ F.ns.lt
  have offI : ∀ p ∈ news, @LT.lt Nat _ p.1 I := fun p hp => by have := Heap.lt_size (N p hp).1; rw [hIe] at this; exact this
  have W := Walks.list (prog := prog) (w := w) hh I ax (Nat.ne_of_lt hlt) its.toArray
  have fresh : ∀ b : Nat, I ≤ b → g.get? b = none := fun b hb => by
    cases e : g.get? b with
    | none => rfl
    | some o => have q := Heap.lt_size (F.keep _ _ e); rw [hIe] at q; exact absurd (show @LT.lt Nat _ b I from q) (Nat.not_lt.mpr hb)
  dsimp only
  rw [hIe]
  refine wpAny_newObj_type (newCompEnv hkind ?_)
  dsimp only
  rw [hpc, hcf]
  generalize hH1 : hs1.push { cls := .type "list_iterator", data := .fields #[.ref ax, .int 0 0] } = H1
  have s1 : H1.objs.size = I + 1 := by rw [← hH1, Heap.size_push, hIe]
  generalize hH2 : H1.push { cls := .type "list", dict := none, data := .seq ([] : List Value).toArray } = H2
  have s2 : H2.objs.size = I + 2 := by rw [← hH2, Heap.size_push, s1]
  generalize hH3 : H2.push { cls := .type "dict", data := .dict #[] } = H3
  have s3 : H3.objs.size = I + 3 := by rw [← hH3, Heap.size_push, s2]
  generalize hH4 : H3.push { cls := .type "cell", data := .cell none } = H4
  rw [s1, s2]
  have u1 : ∀ b o, hs1.get? b = some o → H1.get? b = some o := fun b o e => hH1 ▸ Heap.get?_push_of_some _ e
  have u2 : ∀ b o, H1.get? b = some o → H2.get? b = some o := fun b o e => hH2 ▸ Heap.get?_push_of_some _ e
  have u3 : ∀ b o, H2.get? b = some o → H3.get? b = some o := fun b o e => hH3 ▸ Heap.get?_push_of_some _ e
  have u4 : ∀ b o, H3.get? b = some o → H4.get? b = some o := fun b o e => hH4 ▸ Heap.get?_push_of_some _ e
  have old : ∀ b o, hs1.get? b = some o → H4.get? b = some o := fun b o e => u4 _ _ (u3 _ _ (u2 _ _ (u1 _ _ e)))
  have hitI : H4.IsListIter I ax 0 := ⟨_, u4 _ _ (u3 _ _ (u2 _ _ (hIe ▸ hH1 ▸ Heap.get?_push_size _ rfl))), rfl, rfl⟩
  have hD4 : H4.get? (I + 1) = some (lob [] 0) := u4 _ _ (u3 _ _ (s1 ▸ hH2 ▸ Heap.get?_push_size _ rfl))
  have hC4 : H4.get? (I + 2) = some ({ cls := .type "dict", data := .dict #[] } : Obj) := u4 _ _ (s2 ▸ hH3 ▸ Heap.get?_push_size _ rfl)
  have hZ4 : H4.get? (I + 3) = some ({ cls := .type "cell", data := .cell none } : Obj) := s3 ▸ hH4 ▸ Heap.get?_push_size _ rfl
  have hCn : H4.Ns (I + 2) (fun _ => none) := by
    have z : H3.Ns H2.objs.size (fun _ => none) := hH3 ▸ Heap.Ns.new H2 (.type "dict")
    rw [s2] at z
    exact z.keeps u4
  have hF4 : Fr g env.locals H4 m := F.keeps old
  have hN4 : News g env.locals H4 news := N.grown old
  have loop : ∀ (RR : Result → Shared → Prop) (tk : Nat),
      (∀ g' nw h tk m', Fr g' env.locals h m → News g' env.locals h ((I + 1, lob [] 0) :: nw) → h.Ns (I + 2) m' → g'.get? (I + 2) = none → (∀ p ∈ (I + 1, lob [] 0) :: nw, p.1 ≠ (I + 2 : Nat)) → Inv its.length g' nw → RR (.ok .next) { s with heap := h, toks := tk }) →
      codeAny (model prog w) A (.compLoop (.ListComp elt [⟨.Name x px, iter, [c], 0⟩] scope pos) 0 (.ref I) (.ref (I + 1)) (compEnvC scope ((x, (I + 3 : Nat)) :: cl) (I + 2) env)) RR { s with heap := H4, toks := tk } := by
    intro RR tk hend
    refine codeAny_compLoop_tests
      (fun k' s' => ∃ g' h' tk i m' oI oC oZ z nw, s' = { s with heap := h', toks := tk } ∧ i ≤ its.length ∧ k' = its.length + 1 - i ∧ (h'.IsListIter I ax i ∧ h'.IsList ax its.toArray) ∧ Fr g' env.locals h' m ∧ h'.Ns (I + 2) m' ∧
        News g' env.locals h' ((I, oI) :: (I + 2, oC) :: (I + 1, lob [] 0) :: (I + 3, oZ) :: nw) ∧ oZ.data = .cell z ∧ (∀ p ∈ nw, p.1 ≠ I ∧ p.1 ≠ (I + 2 : Nat) ∧ p.1 ≠ (I + 1 : Nat) ∧ p.1 ≠ (I + 3 : Nat)) ∧ Inv i g' nw) ?_ (its.length + 1) ?_
    · rintro k' s' ⟨g', h', tk', i, m', oI, oC, oZ, z, nw, rfl, hi', rfl, hst', F', hn', N', hz, off', hInv'⟩
      have nI := (N' (I, oI) List.mem_cons_self)
      have nC := (N' (I + 2, oC) (List.mem_cons_of_mem _ List.mem_cons_self))
      have nD := (N' (I + 1, lob [] 0) (List.mem_cons_of_mem _ (List.mem_cons_of_mem _ List.mem_cons_self)))
      have nZ := (N' (I + 3, oZ) (List.mem_cons_of_mem _ (List.mem_cons_of_mem _ (List.mem_cons_of_mem _ List.mem_cons_self))))
      have nn : ∀ p ∈ nw, _ := fun p hp => N' p (List.mem_cons_of_mem _ (List.mem_cons_of_mem _ (List.mem_cons_of_mem _ (List.mem_cons_of_mem _ hp))))
      have d1 : (I + 2 : Nat) ≠ I := by omega
      have d2 : (I + 1 : Nat) ≠ I := by omega
      have d3 : (I + 3 : Nat) ≠ I := by omega
      have d4 : (I + 2 : Nat) ≠ I + 3 := by omega
      have d5 : (I + 1 : Nat) ≠ I + 3 := by omega
      have d6 : I ≠ (I + 3 : Nat) := by omega
      by_cases hlt' : i < its.length
      · refine W.item i _ _ _ (by simpa using hlt') hst' fun v h₂ tk₂ hPv hst₂ hk₂ => ?_
        have hv : its[i]? = some v := by simpa using hPv
        have kp : ∀ b o, b ≠ I → h'.get? b = some o → h₂.get? b = some o := fun b o hb e => hk₂ b o (by simpa using hb) e
        have F₂ : Fr g' env.locals h₂ m := fr_but F' hk₂ (Ne.symm nI.2.1) nI.2.2
        refine wpAny_assign_Name (wpAny_storeName_cell (c := (I + 3 : Nat)) (v₀ := z) (by simp [compEnvC, relabel, hkind]) hx (by simp [compEnvC]) ⟨oZ, kp _ _ d3 nZ.1, hz⟩ fun h₃ hc₃ hs₃ => ?_)
        obtain ⟨oZ', hZ', hzd⟩ := hc₃
        have kp3 : ∀ b o, b ≠ I → b ≠ (I + 3 : Nat) → h'.get? b = some o → h₃.get? b = some o := fun b o hb hb' e => hs₃.extBut b o hb' (kp b o hb e)
        have F₃ : Fr g' env.locals h₃ m := F₂.change hs₃ nZ.2.1 nZ.2.2
        obtain ⟨oI', hI', hIo⟩ := id hst₂.1
        have hI3 : h₃.get? I = some oI' := hs₃.extBut _ _ d6 hI'
        have N₃ : News g' env.locals h₃ ((I, oI') :: (I + 2, oC) :: (I + 1, lob [] 0) :: (I + 3, oZ') :: nw) := fun p hp => by
          rcases List.mem_cons.mp hp with rfl | hp
          · exact ⟨hI3, nI.2⟩
          rcases List.mem_cons.mp hp with rfl | hp
          · exact ⟨kp3 _ _ d1 d4 nC.1, nC.2⟩
          rcases List.mem_cons.mp hp with rfl | hp
          · exact ⟨kp3 _ _ d2 d5 nD.1, nD.2⟩
          rcases List.mem_cons.mp hp with rfl | hp
          · exact ⟨hZ', nZ.2⟩
          · exact ⟨kp3 _ _ (off' p hp).1 (off' p hp).2.2.2 (nn p hp).1, (nn p hp).2⟩
        refine wpAny_tests_one (wpAny_mono (turn i v g' nw h₃ _ I oI' (I + 2 : Nat) oC (I + 1 : Nat) (I + 3 : Nat) oZ' _ hv hInv' F₃ N₃ hzd off') (fun ok s₄ h₄ => ?_) fun _ _ e => e)
        obtain ⟨rfl, g'', h₄, tk₄, full, rfl, F₄, N₄, mI, mC, mD, mZ, hI₄⟩ := h₄
        have hax4 := (N₄ _ (mem_offs.mp (hInv _ _ _ hI₄)).1).1
        obtain ⟨oC2, heC, hoC⟩ := ns_obj hn'
        have e2 := Option.some.inj (heC.symm.trans nC.1)
        subst e2
        refine ⟨its.length + 1 - (i + 1), by omega, g'', h₄, tk₄, i + 1, m', oI', oC2, oZ', _, _, rfl, hlt', rfl, ⟨⟨oI', (N₄ _ mI).1, hIo⟩, ⟨_, hax4, rfl, _, rfl⟩⟩, F₄, hoC.ns (N₄ _ mC).1, fun p hp => ?_, hzd, fun p hp => ?_, hI₄⟩
        · rcases List.mem_cons.mp hp with rfl | hp
          · exact N₄ _ mI
          rcases List.mem_cons.mp hp with rfl | hp
          · exact N₄ _ mC
          rcases List.mem_cons.mp hp with rfl | hp
          · exact N₄ _ mD
          rcases List.mem_cons.mp hp with rfl | hp
          · exact N₄ _ mZ
          · exact N₄ _ (mem_offs.mp hp).1
        · exact (mem_offs.mp hp).2
      · obtain rfl : i = its.length := Nat.le_antisymm hi' (Nat.not_lt.mp hlt')
        refine W.done _ _ _ (by simpa using hst') fun h₂ tk₂ hk₂ => ?_
        have kp : ∀ b o, b ≠ I → h'.get? b = some o → h₂.get? b = some o := fun b o hb e => hk₂ b o (by simpa using hb) e
        refine hend g' nw h₂ tk₂ m' (fr_but F' hk₂ (Ne.symm nI.2.1) nI.2.2) (fun p hp => ?_) (hn'.at' fun o e => kp _ o d1 e) nC.2.2 (fun p hp => ?_) hInv'
        · rcases List.mem_cons.mp hp with rfl | hp
          · exact ⟨kp _ _ d2 nD.1, nD.2⟩
          · exact ⟨kp _ _ (off' p hp).1 (nn p hp).1, (nn p hp).2⟩
        · rcases List.mem_cons.mp hp with rfl | hp
          · show (I + 1 : Nat) ≠ I + 2; omega
          · exact (off' p hp).2.1
    · have c0 : g.get? I = none := fresh I (Nat.le_refl _)
      have c1 : g.get? (I + 1) = none := fresh (I + 1) (by omega)
      have c2 : g.get? (I + 2) = none := fresh (I + 2) (by omega)
      have c3 : g.get? (I + 3) = none := fresh (I + 3) (by omega)
      obtain ⟨oI, hoI, _⟩ := id hitI
      refine ⟨g, H4, tk, 0, _, oI, { cls := .type "dict", data := .dict #[] }, { cls := .type "cell", data := .cell none }, none, news, rfl, Nat.zero_le _, rfl, ⟨hitI, hl.at fun o e => old _ o e⟩, hF4, hCn, fun p hp => ?_, rfl, fun p hp => ?_, hI0⟩
      · rcases List.mem_cons.mp hp with rfl | hp
        · exact ⟨hoI, Nat.ne_of_gt hLI, c0⟩
        rcases List.mem_cons.mp hp with rfl | hp
        · exact ⟨hC4, (by show (I + 2 : Nat) ≠ env.locals; omega), c2⟩
        rcases List.mem_cons.mp hp with rfl | hp
        · exact ⟨hD4, (by show (I + 1 : Nat) ≠ env.locals; omega), c1⟩
        rcases List.mem_cons.mp hp with rfl | hp
        · exact ⟨hZ4, (by show (I + 3 : Nat) ≠ env.locals; omega), c3⟩
        · exact hN4 p hp
      · have := offI p hp
        exact ⟨Nat.ne_of_lt this, Nat.ne_of_lt (by omega), Nat.ne_of_lt (by omega), Nat.ne_of_lt (by omega)⟩
  have fin : ∀ g' nw h tk m', Fr g' env.locals h m → News g' env.locals h ((I + 1, lob [] 0) :: nw) → h.Ns (I + 2) m' → g'.get? (I + 2) = none → (∀ p ∈ (I + 1, lob [] 0) :: nw, p.1 ≠ (I + 2 : Nat)) → Inv its.length g' nw →
      ∃ m, h.Ns (I + 2) m ∧ ∀ h', Heap.SameBut (I + 2) h h' → Q (.ref (I + 1 : Nat)) { s with heap := h', toks := tk } := by
    intro g' nw h tk m' F' N' hn hgn ho hI'
    refine ⟨m', hn, fun h' hs' => done g' nw h' tk _ (F'.change hs' (by show (I + 2 : Nat) ≠ env.locals; omega) hgn) (fun p hp => ⟨hs'.extBut _ _ (ho p hp) (N' p hp).1, (N' p hp).2⟩) hI'⟩
  refine codeAny_compStart_list (loop _ _ ?_) (W.self 0 _ _ _ ⟨hitI, hl.at fun o e => old _ o e⟩ (loop _ _ ?_))
  · intro g' nw h tk m' a b c d e f
    exact fin g' nw h tk m' a b c d e f
  · intro g' nw h tk m' a b c d e f
    exact fin g' nw h tk m' a b c d e f
end
end
section
/-- what the code and the law tell of one name -/
noncomputable def NSpec (prog : Program) (w : World) (Tr dt R Ds : Addr) (vs : List Value) (rows : List NRow) (S : Addr → List Int) (i : Nat) (f : Str → Option Str) (n : Nat) (nv : Str) : Prop :=
  (∃ x y, PyData.strOk x = true ∧ PyData.strOk y = true ∧ x.length ≤ 100 ∧ y.length ≤ 100 ∧ (∀ n1 ti t, TreeIs n1 Tr dt R vs rows S → Con prog w 110 4000 186 [.ref Tr, .int (i : Int) ti, .str nv t] n1 (fun v n2 => Tup2 x y n1 v n2)) ∧
    (∀ n1 t, ScopeD prog w n1 Ds f n → Con prog w 20 400 495 [.str nv t, .ref Ds] n1 (fun v n2 => Tup2 x y n1 v n2))) ∨
  ((∀ n1 ti t, TreeIs n1 Tr dt R vs rows S → ConX prog w 110 4000 186 [.ref Tr, .int (i : Int) ti, .str nv t] n1) ∧
    (∀ n1 t, ScopeD prog w n1 Ds f n → Con prog w 20 400 495 [.str nv t, .ref Ds] n1 (fun v n2 => (∃ t, v = .str (Str.ofString "refused") t) ∧ ∀ p ∈ n1, p ∈ n2)))
/-- the tables that the comprehension's lambda may find -/
noncomputable def TabC (nw : List (Addr × Obj)) (qual : Str) (pos : Pos) (ps : Array Value) : Prop := TriplesOk ps.toList ∧ TabHas nw 497 qual pos ps
theorem s9_con (prog : Program) (w : World) {oc9 : Value} {od : Option Addr} {name qual : Str} {params : Arguments} {s1 s2 s3 s4 s5 s6 s7 s8 s9 : Stmt} {scope : Scope} {dV kV doc pm9 cdv ct9 : Value} {an : Option Addr} {osl : Array (Option Value)}
  (hb : (hd.heap_39 w.params).lookup 500 = some ⟨oc9, od, .func (fnOf name qual params [s1, s2, s3, s4, s5, s6, s7, s8, s9] scope dV kV doc pm9 an cdv ct9), osl⟩)
    (p : Program) (loose : List Str) (mean : ExcName → Option Value) (mg mb : Str → Option Value)
    (dp un : Nat) (gd : Option (List Code)) (cn : Str) (cs : Scope) (ad : Addr) (ccd : Value) (cl : List (Str × Addr)) (base g : Heap) (L Lq : Addr) (m : Str → Option Value) (s : Shared)
    (Q : Flow → Shared → Prop) (E : Value → Shared → Prop) (nws : List (Addr × Obj))
    (B : Below (ktrTop dp un gd cn cs L ad ccd cl []) base [envX cn cs L ad ccd cl] g) (F : Fr g Lq s.heap m) (X : (hd.heap_39 w.params).In g) (N : News g Lq s.heap nws) (T : Top p loose mean mg mb g) (hdp : dp + 400 < recursionLimit) (hu : un + 9000 < cLine)
    (XB : (hd.heap_39 w.params).In base) (TB : Top p loose mean mg mb base) (CHB : CodeHd base 499 497)
    (src Tr dt R Ds Nm : Addr) (vs : List Value) (rows : List NRow) (S : Addr → List Int) (i : Nat) (ti : Tok) (r : NRow) (l : List Nat) (n : Nat) (nt : Nat → Tok) (nk : Nat) (ps : Array Value)
    (ZZ : NF prog w src Tr dt R Ds Nm Lq vs rows S i ti r l n nt nk ps nws) (TL : TabL ps [297, 291]) (hsp : ∀ v ∈ six nt, ∃ nv t, v = .str nv t ∧ NSpec prog w Tr dt R Ds vs rows S i (scopeF rows S l) n nv) (hnm : m (Str.ofString "names") = some (.ref Nm))
    (k : ∀ g' h' tk' n2, KtsTurn ([envX cn cs L ad ccd cl].filterMap (·.frame)) g g' → Fr g' Lq h' m → News g' Lq h' n2 → (SrcIs n2 src ∧ ∃ ps, (497, tabObj ps) ∈ n2) → Q (.ret (.bool true)) { s with heap := h', toks := tk' }) :
    wpAny (model prog w) ((ktrTop dp un gd cn cs L ad ccd cl []).deeper (envOfC qual scope Lq 500 cdv)) (exec s9 (envOfC qual scope Lq 500 cdv)) Q E s := by
  apply body9 hb
  case hl => k_is
  clear hb; intro _
  (first | (refine env_let (t := fun e => execs _ e) ?_; intro ev Av) | (refine env_let (t := fun e => exec _ e) ?_; intro ev Av))
  iterate 2 (first | (k_unfold; (try dsimp only)) | (k_end; wrow_close) | walk1 | (dsimp only; walk1) | fail "no step")
  have hline : (299 : Nat) ∉ ([297, 291] : List Nat) := by decide
  refine ListComp_cell (its := six nt) (ax := Nm) (k := nk) (m := m) (g := g)
    (fun i0 g' nw => KtsTurn ([envX cn cs L ad ccd cl].filterMap (·.frame)) g g' ∧ Below (ktrTop dp un gd cn cs L ad ccd cl []) base [envX cn cs L ad ccd cl] g' ∧ (Mine.hd.heap_39 w.params).In g' ∧ Top p loose mean mg mb g' ∧
      ∃ ps', NF prog w src Tr dt R Ds Nm Lq vs rows S i ti r l n nt nk ps' nw ∧ TabC nw (Str.ofString "_law_names_right" ++ Str.ofString ".<locals>." ++ Str.ofString "<lambda>") ⟨299, 46, 299, 82⟩ ps')
    rfl rfl rfl rfl (by decide) (fun h => rfl) (fun n => rfl) rfl ?hi ?hInv ?turn ?done
  case hi =>
    k_dflt (refine nameX_L (by k_asm) hnm ?_)
    exact ⟨rfl, nws, F, N, ⟨KtsTurn.refl, B, X, T, ps, ZZ, TL.1, Or.inl (TL.2 _ hline)⟩, _, _, rfl⟩
  case hInv =>
    rintro i0 g' nw ⟨-, -, -, -, ps', Z, -⟩
    exact Z.nm
  case turn =>
    rintro i0 v g' nw h tk I oI C oC D Z oZ E' hv ⟨T', B', X', P', ps', Z', TC'⟩ F' N' hz hoff
    obtain ⟨nv, t9, rfl, hns⟩ := hsp v (List.mem_of_getElem? hv)
    have CH' := CHB.keeps B'.stays
    clear F N B X T ZZ TL
    iterate 4 (first | (k_unfold; (try dsimp only)) | (k_end; wrow_close) | walk1 | (dsimp only; walk1) | fail "no step")
    k_dflt (refine' callWith_K ?k1 ?k2 ?_; (case k1 => exact X'); (case k2 => k_is); k_whole)
    iterate 1 (first | (k_unfold; (try dsimp only)) | (k_end; wrow_close) | walk1 | (dsimp only; walk1) | fail "no step")
    k_dflt (refine' kla_eval ?d0 ?_; (case d0 => exact rfl))
    have tbm := List.mem_cons_of_mem (I, oI) (List.mem_cons_of_mem (C, oC) (List.mem_cons_of_mem (D, lob [] 0) (List.mem_cons_of_mem (Z, oZ) Z'.tb)))
    k_dflt (refine' mk_lam F' N' P' CH' ?ge ?cd tbm ?t ?n ?cl ?_; (case ge => exact rfl); (case cd => exact rfl); (case t => exact TC'.1); (case n => exact TC'.2.imp id (fun ⟨c', oc, vs, t, a, b, c⟩ => ⟨c', oc, vs, t, a, List.mem_cons_of_mem _ (List.mem_cons_of_mem _ (List.mem_cons_of_mem _ (List.mem_cons_of_mem _ b))), c⟩)); (case cl => exact rfl))
    intro f9 c9 o9 v9 t9' ctv9 pm9 ps9 nws' h9 tk9 F9 N9 hf9 hc9 hd9 hv9 hcP9 htb9 hto9 hca9 hps9 hsub9 hlt9 hfr9
    have hkd := keep_dat N' tbm hsub9
    have Z9 := Z'.tab (fun p hp hq => hkd p (List.mem_cons_of_mem _ (List.mem_cons_of_mem _ (List.mem_cons_of_mem _ (List.mem_cons_of_mem _ hp)))) hq) htb9
    have o497 := hoff _ Z'.tb
    have mI := hsub9 _ List.mem_cons_self (Ne.symm o497.1)
    have mC := hsub9 _ (List.mem_cons_of_mem _ List.mem_cons_self) (Ne.symm o497.2.1)
    have mD := hsub9 _ (List.mem_cons_of_mem _ (List.mem_cons_of_mem _ List.mem_cons_self)) (Ne.symm o497.2.2.1)
    have mZ := hsub9 _ (List.mem_cons_of_mem _ (List.mem_cons_of_mem _ (List.mem_cons_of_mem _ List.mem_cons_self))) (Ne.symm o497.2.2.2)
    have hoc : c9 ≠ I ∧ c9 ≠ C ∧ c9 ≠ D ∧ c9 ≠ Z := by
      rcases hfr9 with hh | hh
      · rcases TC'.2 with hq | ⟨c', oc, vs', t', hq, hm', -⟩
        · rw [hq] at hh; cases hh
        · rw [hq] at hh; cases hh
          exact hoff _ hm'
      · exact ⟨Ne.symm (Nat.ne_of_lt (hh _ List.mem_cons_self)), Ne.symm (Nat.ne_of_lt (hh _ (List.mem_cons_of_mem _ List.mem_cons_self))), Ne.symm (Nat.ne_of_lt (hh _ (List.mem_cons_of_mem _ (List.mem_cons_of_mem _ List.mem_cons_self)))), Ne.symm (Nat.ne_of_lt (hh _ (List.mem_cons_of_mem _ (List.mem_cons_of_mem _ (List.mem_cons_of_mem _ List.mem_cons_self)))))⟩
    have finI : ∀ (g9 : Heap) full, (∀ p ∈ nws', p ∈ full) → KtsTurn ([envX cn cs L ad ccd cl].filterMap (·.frame)) g g9 → Below (ktrTop dp un gd cn cs L ad ccd cl []) base [envX cn cs L ad ccd cl] g9 → (Mine.hd.heap_39 w.params).In g9 → Top p loose mean mg mb g9 →
        (KtsTurn ([envX cn cs L ad ccd cl].filterMap (·.frame)) g g9 ∧ Below (ktrTop dp un gd cn cs L ad ccd cl []) base [envX cn cs L ad ccd cl] g9 ∧ (Mine.hd.heap_39 w.params).In g9 ∧ Top p loose mean mg mb g9 ∧
          ∃ ps', NF prog w src Tr dt R Ds Nm Lq vs rows S i ti r l n nt nk ps' (offs I C D Z full) ∧ TabC (offs I C D Z full) (Str.ofString "_law_names_right" ++ Str.ofString ".<locals>." ++ Str.ofString "<lambda>") ⟨299, 46, 299, 82⟩ ps') := by
      intro g9 full hf a b c d
      refine ⟨a, b, c, d, ps9, Z'.tab (fun p hp hq => mem_offs.mpr ⟨hf p (hkd p (List.mem_cons_of_mem _ (List.mem_cons_of_mem _ (List.mem_cons_of_mem _ (List.mem_cons_of_mem _ hp)))) hq), hoff p hp⟩) (mem_offs.mpr ⟨hf _ htb9, o497⟩), hto9, Or.inr ⟨c9, o9, v9, t9', hca9, mem_offs.mpr ⟨hf _ hc9, hoc⟩, hd9, hv9, hcP9⟩⟩
    obtain ⟨oct, hct, dct⟩ := Z9.ct
    obtain ⟨oce, hce, dce⟩ := Z9.ce
    obtain ⟨ocs, hcs, dcs⟩ := Z9.cs
    rcases hns with ⟨x, y, hxo, hyo, hxl, hyl, EX, LX⟩ | ⟨EX, LX⟩
    · have CL := lame_con prog w nws' f9 c9 (Lq + 1) (Lq + 1 + 1) Tr i ti pm9 ctv9 _ _ _ _ _ _ o9 oct oce v9 t9' 110 4000 _ Z oZ _ nv t9 mZ hz hf9 hc9 hd9 hv9 hct dct hce dce (by decide) (by decide) (EX _ _ _ Z9.TX)
      (repeat ((fail_if_success (k_dflt (show wpAny _ _ (call (.ref 488) _) _ _ _))); (first | (k_unfold; (try dsimp only)) | (k_end; wrow_close) | walk1 | (dsimp only; walk1) | fail "no step"))); (try dsimp only [List.nil_append, List.cons_append])
      (k_dflt (refine' con_use (told_con _ _ _ 120 4200 (by decide) (by decide) f9 _ hf9 CL) ?uB ?uF ?uX ?uN ?uT ?uk ?ud ?uu ?_; (case uB => k_asm); (case uF => k_asm); (case uX => k_asm); (case uN => k_asm);  (case uT => k_asm); (case uk => first | exact rfl | assumption); (case ud => ktr_room); (case uu => ktr_units)); rintro r9 news9 h9 tk9 F9 N9 ⟨Da, ka, ta1, ta2, rfl, hDa, hs9⟩; (try dsimp only))
      have Z10 := Z9.Z.mono (fun o ho => hs9 _ ho)
      have mZ9 := hs9 _ mZ
      have hcs9 := hs9 _ hcs
      (repeat ((fail_if_success (k_dflt (with_reducible show wpAny _ _ (callWith _ _ _ _ _) _ _ _))); (first | (k_unfold; (try dsimp only)) | (k_end; wrow_close) | walk1 | (dsimp only; walk1) | fail "no step")))
      k_dflt (refine' callWith_K ?k1 ?k2 ?_; (case k1 => k_asm); (case k2 => k_is); k_whole)
      (repeat ((fail_if_success (k_dflt (show wpAny _ _ (call (.ref 495) _) _ _ _))); (first | (k_unfold; (try dsimp only)) | (k_end; wrow_close) | walk1 | (dsimp only; walk1) | fail "no step"))); (try dsimp only [List.nil_append, List.cons_append])
      (k_dflt (refine' con_use (LX _ t9 Z10) ?uB ?uF ?uX ?uN ?uT ?uk ?ud ?uu ?_; (case uB => k_asm); (case uF => k_asm); (case uX => k_asm); (case uN => k_asm);  (case uT => k_asm); (case uk => first | exact rfl | assumption); (case ud => ktr_room); (case uu => ktr_units)); rintro r9 news9 h9 tk9 F9 N9 ⟨Db, kb, tb1, tb2, rfl, hDb, hsb⟩; (try dsimp only))
      (repeat ((fail_if_success (k_dflt (with_reducible show wpAny _ _ (compareOp .NotEq _ _) _ _ _))); (first | (k_unfold; (try dsimp only)) | (k_end; wrow_close) | walk1 | (dsimp only; walk1) | fail "no step")))
      rename News _ _ _ _ => kN; rename Fr _ _ _ _ => kF
      k_dflt (refine' dat_neF kN (DatIn.tuple (hsb _ hDa) (.cons (.str _ _) (.cons (.str _ _) .nil))) (DatIn.tuple hDb (.cons (.str _ _) (.cons (.str _ _) .nil))) ?hd ?he ?hu rfl ?_; (case hd => simp only [kqdOk, List.all_cons, List.all_nil, hxo, hyo, Bool.and_self]); (case he => simp only [kqdOk, List.all_cons, List.all_nil, hxo, hyo, Bool.and_self]); (case hu => ktr_units))
      iterate 2 (first | (k_unfold; (try dsimp only)) | (k_end; wrow_close) | walk1 | (dsimp only; walk1) | fail "no step")
      refine ⟨rfl, g', _, _, _, rfl, kF, kN, hsb _ (hs9 _ mI), hsb _ (hs9 _ mC), hsb _ (hs9 _ mD), hsb _ (hs9 _ mZ), finI g' _ (fun p hp => hsb _ (hs9 _ hp)) T' B' X' P'⟩
    · have CL := lame_X prog w nws' f9 c9 (Lq + 1) (Lq + 1 + 1) Tr i ti pm9 ctv9 _ _ _ _ _ _ o9 oct oce v9 t9' 110 4000 Z oZ _ nv t9 mZ hz hf9 hc9 hd9 hv9 hct dct hce dce (by decide) (by decide) (EX _ _ _ Z9.TX)
      (repeat ((fail_if_success (k_dflt (show wpAny _ _ (call (.ref 488) _) _ _ _))); (first | (k_unfold; (try dsimp only)) | (k_end; wrow_close) | walk1 | (dsimp only; walk1) | fail "no step"))); (try dsimp only [List.nil_append, List.cons_append])
      k_dflt (refine' conT_use (told_X _ _ _ 120 4200 (by decide) (by decide) f9 hf9 CL) ?uB ?uF ?uX ?uN ?uT ?uk ?ud ?uu XB TB ?_; (case uB => k_asm); (case uF => k_asm); (case uX => k_asm); (case uN => k_asm); (case uT => k_asm); (case uk => first | exact rfl | assumption); (case ud => ktr_room); (case uu => ktr_units))
      rintro r8 g8 n8 h8 tk8 T8 F8 N8 B8 X8 P8 ⟨⟨t8, rfl⟩, hs8⟩
      have T8' := T'.trans T8
      have Z10 := Z9.Z.mono (fun o ho => hs8 _ ho)
      have mZ9 := hs8 _ mZ
      have hcs9 := hs8 _ hcs
      clear F9 N9 F' N' B' X' P'
      (repeat ((fail_if_success (k_dflt (with_reducible show wpAny _ _ (callWith _ _ _ _ _) _ _ _))); (first | (k_unfold; (try dsimp only)) | (k_end; wrow_close) | walk1 | (dsimp only; walk1) | fail "no step")))
      k_dflt (refine' callWith_K ?k1 ?k2 ?_; (case k1 => exact X8); (case k2 => k_is); k_whole)
      (repeat ((fail_if_success (k_dflt (show wpAny _ _ (call (.ref 495) _) _ _ _))); (first | (k_unfold; (try dsimp only)) | (k_end; wrow_close) | walk1 | (dsimp only; walk1) | fail "no step"))); (try dsimp only [List.nil_append, List.cons_append])
      (k_dflt (refine' con_use (LX _ t9 Z10) ?uB ?uF ?uX ?uN ?uT ?uk ?ud ?uu ?_; (case uB => k_asm); (case uF => k_asm); (case uX => k_asm); (case uN => k_asm);  (case uT => k_asm); (case uk => first | exact rfl | assumption); (case ud => ktr_room); (case uu => ktr_units)); rintro r9 news9 h9 tk9 F9 N9 ⟨⟨t7, rfl⟩, hsb⟩; (try dsimp only))
      (repeat ((fail_if_success (k_dflt (with_reducible show wpAny _ _ (compareOp .NotEq _ _) _ _ _))); (first | (k_unfold; (try dsimp only)) | (k_end; wrow_close) | walk1 | (dsimp only; walk1) | fail "no step")))
      rename News _ _ _ _ => kN; rename Fr _ _ _ _ => kF
      k_dflt (refine' dat_neF kN (DatIn.str _ _) (DatIn.str _ _) ?hd ?he ?hu rfl ?_; (case hd => simp only [kqdOk]; decide +kernel); (case he => simp only [kqdOk]; decide +kernel); (case hu => ktr_units))
      iterate 2 (first | (k_unfold; (try dsimp only)) | (k_end; wrow_close) | walk1 | (dsimp only; walk1) | fail "no step")
      refine ⟨rfl, g8, _, _, _, rfl, kF, kN, hsb _ (hs8 _ mI), hsb _ (hs8 _ mC), hsb _ (hs8 _ mD), hsb _ (hs8 _ mZ), finI g8 _ (fun p hp => hsb _ (hs8 _ hp)) T8' B8 X8 P8⟩
  case done =>
    rintro g' nw h tk D F' N' ⟨T', B', X', P', ps', Z', -⟩
    clear F N B X T
    (repeat ((fail_if_success (k_dflt (with_reducible show wpAny _ _ (compareOp _ _ _) _ _ _))); (first | (k_unfold; (try dsimp only)) | (k_end; wrow_close) | walk1 | (dsimp only; walk1) | fail "no step")))
    rename News _ _ _ _ => kN
    k_dflt (refine' dat_eqT kN (DatIn.list (List.mem_cons_of_mem _ List.mem_cons_self) .nil) (DatIn.list List.mem_cons_self .nil) ?hd ?he ?hu rfl ?_; (case hd => simp only [kqdOk, List.all_nil]); (case he => simp only [kqdOk, List.all_nil]); (case hu => ktr_units))
    (repeat' (first | (k_unfold; (try dsimp only)) | (k_end; wrow_close) | walk1 | (dsimp only; walk1) | fail "no step"))
    rename News _ _ _ _ => kN; rename Fr _ _ _ _ => kF
    exact k g' _ _ _ T' kF kN ⟨Z'.SZ.mono (fun o ho => List.mem_cons_of_mem _ (List.mem_cons_of_mem _ ho)), ps', List.mem_cons_of_mem _ (List.mem_cons_of_mem _ Z'.tb)⟩
end
section
theorem execs_seq {M : Model} {A : Around} {E : Value → Shared → Prop} {s : Shared} {env : Env} {a : Stmt} {rest : List Stmt} {Q : Flow → Shared → Prop} (h : wpAny M A (exec a env) (fun f s' => f = .next ∧ wpAny M A (execs rest env) Q E s') E s) : wpAny M A (execs (a :: rest) env) Q E s := by
  rw [arm_execs_cons]
  exact wpAny_bind (wpAny_mono h (fun f s' h' => by obtain ⟨rfl, h'⟩ := h'; exact h') fun _ _ x => x)
theorem execs_last {M : Model} {A : Around} {E : Value → Shared → Prop} {s : Shared} {env : Env} {a : Stmt} {Q : Flow → Shared → Prop} (h : wpAny M A (exec a env) (fun f s' => ∃ v, f = .ret v ∧ Q (.ret v) s') E s) : wpAny M A (execs [a] env) Q E s := by
  rw [arm_execs_cons]
  exact wpAny_bind (wpAny_mono h (fun f s' h' => by obtain ⟨v, rfl, h'⟩ := h'; exact wpAny_pure h') fun _ _ x => x)
theorem con_imp {prog : Program} {w : World} {d u : Nat} {f : Addr} {args : List Value} {news : List (Addr × Obj)} {Ret Ret' : Value → List (Addr × Obj) → Prop} (h : ∀ v n, Ret v n → Ret' v n) (C : Con prog w d u f args news Ret) : Con prog w d u f args news Ret' :=
  fun p loose mean mg mb dp un gd cn cs a ccd cl outer A₀ base h₀ L m s Q E B F X N T hk hdp hu ret => C p loose mean mg mb dp un gd cn cs a ccd cl outer A₀ base h₀ L m s Q E B F X N T hk hdp hu fun r n h' tk F' N' hr => ret r n h' tk F' N' (h _ _ hr)
theorem dat_tup {n1 : List (Addr × Obj)} {D : Addr} {x y : Str} {t1 t2 : Tok} {k : Nat} (h : (D, tob [.str x t1, .str y t2] k) ∈ n1) : DatIn n1 (.ref D) (.tuple [.str x, .str y]) := DatIn.tuple h (.cons (.str _ _) (.cons (.str _ _) .nil))
theorem dat_tup_ok {x y : Str} (hx : PyData.strOk x = true) (hy : PyData.strOk y = true) : kqdOk 8 (.tuple [.str x, .str y]) = true := by simp only [kqdOk, List.all_cons, List.all_nil, hx, hy, Bool.and_self]
theorem tail_con (prog : Program) (w : World) {oc9 : Value} {od : Option Addr} {name qual : Str} {params : Arguments} {s1 s2 s3 s4 s5 s6 s7 s8 s9 : Stmt} {scope : Scope} {dV kV doc pm9 cdv ct9 : Value} {an : Option Addr} {osl : Array (Option Value)}
  (hb : (hd.heap_39 w.params).lookup 500 = some ⟨oc9, od, .func (fnOf name qual params [s1, s2, s3, s4, s5, s6, s7, s8, s9] scope dV kV doc pm9 an cdv ct9), osl⟩)
    (p : Program) (loose : List Str) (mean : ExcName → Option Value) (mg mb : Str → Option Value)
    (dp un : Nat) (gd : Option (List Code)) (cn : Str) (cs : Scope) (ad : Addr) (ccd : Value) (cl : List (Str × Addr)) (base g : Heap) (L Lq : Addr) (m : Str → Option Value) (s : Shared)
    (Q : Flow → Shared → Prop) (E : Value → Shared → Prop) (nws : List (Addr × Obj))
    (B : Below (ktrTop dp un gd cn cs L ad ccd cl []) base [envX cn cs L ad ccd cl] g) (F : Fr g Lq s.heap m) (X : (hd.heap_39 w.params).In g) (N : News g Lq s.heap nws) (T : Top p loose mean mg mb g) (hdp : dp + 400 < recursionLimit) (hu : un + 9000 < cLine)
    (XB : (hd.heap_39 w.params).In base) (TB : Top p loose mean mg mb base) (CHB : CodeHd base 499 497)
    (src Tr dt R Ds Nm : Addr) (vs : List Value) (rows : List NRow) (S : Addr → List Int) (i : Nat) (ti : Tok) (r : NRow) (l : List Nat) (n : Nat) (nt : Nat → Tok) (nk : Nat) (ps : Array Value)
    (ZZ : NF prog w src Tr dt R Ds Nm Lq vs rows S i ti r l n nt nk ps nws) (TL : TabL ps [291]) (U : Str) (ta tb : Tok) (hto : m (Str.ofString "told") = some (.str U ta)) (hdu : m (Str.ofString "due") = some (.str U tb)) (hU : PyData.strOk U = true)
    (hsp : ∀ v ∈ six nt, ∃ nv t, v = .str nv t ∧ NSpec prog w Tr dt R Ds vs rows S i (scopeF rows S l) n nv) (hnm : m (Str.ofString "names") = some (.ref Nm)) (v2 : Value) (hmo : m (Str.ofString "mode") = some v2) (h2 : v2 ∈ six nt ++ [.none])
    (hf2 : afind rows (Str.ofString "mode") (S r.a) = (match v2 with | .str u _ => some u | _ => none))
    (k : ∀ g' h' tk' n2 m', KtsTurn ([envX cn cs L ad ccd cl].filterMap (·.frame)) g g' → Fr g' Lq h' m' → News g' Lq h' n2 → (SrcIs n2 src ∧ ∃ ps, (497, tabObj ps) ∈ n2) → Q (.ret (.bool true)) { s with heap := h', toks := tk' }) :
    wpAny (model prog w) ((ktrTop dp un gd cn cs L ad ccd cl []).deeper (envOfC qual scope Lq 500 cdv)) (execs [s7, s8, s9] (envOfC qual scope Lq 500 cdv)) Q E s := by
  have CH := CHB.keeps B.stays
  have fin : ∀ g' h' tk' m' n2 ps', m' (Str.ofString "names") = some (.ref Nm) → KtsTurn ([envX cn cs L ad ccd cl].filterMap (·.frame)) g g' → Below (ktrTop dp un gd cn cs L ad ccd cl []) base [envX cn cs L ad ccd cl] g' → (Mine.hd.heap_39 w.params).In g' → Top p loose mean mg mb g' → Fr g' Lq h' m' → News g' Lq h' n2 → TabL ps' [297, 291] → NF prog w src Tr dt R Ds Nm Lq vs rows S i ti r l n nt nk ps' n2 →
      wpAny (model prog w) ((ktrTop dp un gd cn cs L ad ccd cl []).deeper (envOfC qual scope Lq 500 cdv)) (execs [s9] (envOfC qual scope Lq 500 cdv)) Q E { s with heap := h', toks := tk' } := by
    intro g' h' tk' m' n2 ps' hn T' B' X' P' F' N' TL' Z'
    refine execs_last (s9_con prog w hb p loose mean mg mb dp un gd cn cs ad ccd cl base g' L Lq m' _ _ E n2 B' F' X' N' P' hdp hu XB TB CHB src Tr dt R Ds Nm vs rows S i ti r l n nt nk ps' Z' TL' hsp hn ?_)
    intro g9 h9 tk9 n9 T9 F9 N9 S9
    exact ⟨_, rfl, k g9 h9 tk9 n9 m' (T'.trans T9) F9 N9 S9⟩
  rcases six_cases h2 with rfl | ⟨nv, t, rfl⟩
  · refine execs_seq (s7_none prog w hb p loose mean mg mb dp un gd cn cs ad ccd cl base g L Lq m _ _ E nws B F X N T hdp hu XB TB CH hmo ?_)
    intro h' tk' F7 N7
    refine ⟨rfl, execs_seq (s8_ret prog w hb p loose mean mg mb dp un gd cn cs ad ccd cl base g L Lq _ _ _ E nws B F7 X N7 T hdp hu XB TB CH src Tr dt R Ds Nm vs rows S i ti r l n nt nk ps ZZ TL U ta tb hto hdu hU .none .none (by simp only [kqdOk]) rfl (fun _ _ => .none)
      (fun n1 TX1 => con_imp (fun v n2 h => ⟨by rw [h.1]; exact .none, h.2⟩) (mode_none prog w n1 Tr dt R vs rows S TX1 i ti r l ZZ.EL hf2)) ?_)⟩
    intro h8 tk8 n8 ps8 F8 N8 TL8 Z8
    exact ⟨rfl, fin g _ _ _ _ ps8 (by exact hnm) KtsTurn.refl B X T F8 N8 TL8 Z8⟩
  · have hmem : (.str nv t : Value) ∈ six nt := by
      rcases List.mem_append.mp h2 with h | h
      · exact h
      · simp at h
    obtain ⟨nv', t', e, hs⟩ := hsp _ hmem
    cases e
    rcases hs with ⟨x, y, hxo, hyo, hxl, hyl, EX, LX⟩ | ⟨EX, LX⟩
    · refine execs_seq (s7_some prog w hb p loose mean mg mb dp un gd cn cs ad ccd cl base g L Lq m _ _ E nws B F X N T hdp hu XB TB CH src Tr dt R Ds Nm vs rows S i ti r l n nt nk ps ZZ nv t hmo (fun v n2 => ∃ D k t1 t2, v = .ref D ∧ (D, tob [.str x t1, .str y t2] k) ∈ n2) (fun n1 Z1 => con_imp (fun v n2 ⟨D, k, t1, t2, a, b, c⟩ => ⟨⟨D, k, t1, t2, a, b⟩, c⟩) (LX n1 t Z1)) ?_)
      rintro h' tk' v n2 ⟨D, kk, t1, t2, rfl, hD⟩ hsub F7 N7
      refine ⟨rfl, execs_seq (s8_ret prog w hb p loose mean mg mb dp un gd cn cs ad ccd cl base g L Lq _ _ _ E n2 B F7 X N7 T hdp hu XB TB CH src Tr dt R Ds Nm vs rows S i ti r l n nt nk ps (ZZ.mono hsub) TL U ta tb hto hdu hU (.ref D) (.tuple [.str x, .str y]) (dat_tup_ok hxo hyo) rfl (fun n1 h1 => dat_tup (h1 _ hD (fun _ q => by cases q)))
        (fun n1 TX1 => con_imp (fun v n2 ⟨D, k, t1, t2, a, b, c⟩ => ⟨by rw [a]; exact dat_tup b, c⟩) (mode_some prog w n1 Tr dt R vs rows S TX1 i ti r l ZZ.EL nv x y hf2 (fun n3 ti' t3 TX3 => EX n3 ti' t3 TX3))) ?_)⟩
      intro h8 tk8 n8 ps8 F8 N8 TL8 Z8
      exact ⟨rfl, fin g _ _ _ _ ps8 (by exact hnm) KtsTurn.refl B X T F8 N8 TL8 Z8⟩
    · refine execs_seq (s7_some prog w hb p loose mean mg mb dp un gd cn cs ad ccd cl base g L Lq m _ _ E nws B F X N T hdp hu XB TB CH src Tr dt R Ds Nm vs rows S i ti r l n nt nk ps ZZ nv t hmo (fun v n2 => ∃ t, v = .str (Str.ofString "refused") t) (fun n1 Z1 => LX n1 t Z1) ?_)
      rintro h' tk' v n2 ⟨t7, rfl⟩ hsub F7 N7
      refine ⟨rfl, execs_seq (s8_X prog w hb p loose mean mg mb dp un gd cn cs ad ccd cl base g L Lq _ _ _ E n2 B F7 X N7 T hdp hu XB TB CH src Tr dt R Ds Nm vs rows S i ti r l n nt nk ps (ZZ.mono hsub) TL U ta tb hto hdu hU (.str (Str.ofString "refused") t7) (.str (Str.ofString "refused")) (by simp only [kqdOk]; decide +kernel) rfl (fun n1 h1 => .str _ _) rfl
        (fun n1 TX1 => mode_X prog w n1 Tr dt R vs rows S TX1 i ti r l ZZ.EL nv hf2 (fun n3 ti' t3 TX3 => EX n3 ti' t3 TX3)) ?_)⟩
      intro g8 h8 tk8 n8 ps8 T8 B8 X8 P8 F8 N8 TL8 Z8
      exact ⟨rfl, fin g8 _ _ _ _ ps8 (by exact hnm) T8 B8 X8 P8 F8 N8 TL8 Z8⟩
end
section
theorem six_ok {nt : Nat → Tok} {nv : Str} {t : Tok} (hv : (.str nv t : Value) ∈ six nt) : PyData.strOk nv = true := by
  simp only [six, List.mem_cons, List.not_mem_nil, or_false] at hv
  rcases hv with h | h | h | h | h | h <;> cases h <;> decide +kernel
theorem mid_con (prog : Program) (w : World) {oc9 : Value} {od : Option Addr} {name qual : Str} {params : Arguments} {s1 s2 s3 s4 s5 s6 s7 s8 s9 : Stmt} {scope : Scope} {dV kV doc pm9 cdv ct9 : Value} {an : Option Addr} {osl : Array (Option Value)}
  (hb : (hd.heap_39 w.params).lookup 500 = some ⟨oc9, od, .func (fnOf name qual params [s1, s2, s3, s4, s5, s6, s7, s8, s9] scope dV kV doc pm9 an cdv ct9), osl⟩)
    (p : Program) (loose : List Str) (mean : ExcName → Option Value) (mg mb : Str → Option Value)
    (dp un : Nat) (gd : Option (List Code)) (cn : Str) (cs : Scope) (ad : Addr) (ccd : Value) (cl : List (Str × Addr)) (base g : Heap) (L Lq : Addr) (m : Str → Option Value) (s : Shared)
    (Q : Flow → Shared → Prop) (E : Value → Shared → Prop) (nws : List (Addr × Obj))
    (B : Below (ktrTop dp un gd cn cs L ad ccd cl []) base [envX cn cs L ad ccd cl] g) (F : Fr g Lq s.heap m) (X : (hd.heap_39 w.params).In g) (N : News g Lq s.heap nws) (T : Top p loose mean mg mb g) (hdp : dp + 400 < recursionLimit) (hu : un + 9000 < cLine)
    (XB : (hd.heap_39 w.params).In base) (TB : Top p loose mean mg mb base) (CHB : CodeHd base 499 497)
    (src Tr dt R Ds Nm : Addr) (vs : List Value) (rows : List NRow) (S : Addr → List Int) (i : Nat) (ti : Tok) (r : NRow) (l : List Nat) (n : Nat) (nt : Nat → Tok) (nk : Nat) (ps : Array Value)
    (ZZ : NF prog w src Tr dt R Ds Nm Lq vs rows S i ti r l n nt nk ps nws) (TL : TabL ps []) (hsp : ∀ v ∈ six nt, ∃ nv t, v = .str nv t ∧ NSpec prog w Tr dt R Ds vs rows S i (scopeF rows S l) n nv) (hnm : m (Str.ofString "names") = some (.ref Nm)) (v1 v2 : Value) (hna : m (Str.ofString "name") = some v1) (hmo : m (Str.ofString "mode") = some v2) (h1 : v1 ∈ six nt ++ [.none]) (h2 : v2 ∈ six nt ++ [.none])
    (hf1 : afind rows (Str.ofString "name") (S r.a) = (match v1 with | .str u _ => some u | _ => none)) (hf2 : afind rows (Str.ofString "mode") (S r.a) = (match v2 with | .str u _ => some u | _ => none))
    (k : ∀ g' h' tk' n2 m', KtsTurn ([envX cn cs L ad ccd cl].filterMap (·.frame)) g g' → Fr g' Lq h' m' → News g' Lq h' n2 → (SrcIs n2 src ∧ ∃ ps, (497, tabObj ps) ∈ n2) → Q (.ret (.bool true)) { s with heap := h', toks := tk' }) :
    wpAny (model prog w) ((ktrTop dp un gd cn cs L ad ccd cl []).deeper (envOfC qual scope Lq 500 cdv)) (execs [s4, s5, s6, s7, s8, s9] (envOfC qual scope Lq 500 cdv)) Q E s := by
  have CH := CHB.keeps B.stays
  have fin : ∀ g' h' tk' m' n2 ps' U ta tb, m' (Str.ofString "told") = some (.str U ta) → m' (Str.ofString "due") = some (.str U tb) → PyData.strOk U = true → m' (Str.ofString "names") = some (.ref Nm) → m' (Str.ofString "mode") = some v2 → KtsTurn ([envX cn cs L ad ccd cl].filterMap (·.frame)) g g' → Below (ktrTop dp un gd cn cs L ad ccd cl []) base [envX cn cs L ad ccd cl] g' → (Mine.hd.heap_39 w.params).In g' → Top p loose mean mg mb g' → Fr g' Lq h' m' → News g' Lq h' n2 → TabL ps' [291] → NF prog w src Tr dt R Ds Nm Lq vs rows S i ti r l n nt nk ps' n2 →
      wpAny (model prog w) ((ktrTop dp un gd cn cs L ad ccd cl []).deeper (envOfC qual scope Lq 500 cdv)) (execs [s7, s8, s9] (envOfC qual scope Lq 500 cdv)) Q E { s with heap := h', toks := tk' } := by
    intro g' h' tk' m' n2 ps' U ta tb e1 e2 e3 e4 e5 T' B' X' P' F' N' TL' Z'
    refine tail_con prog w hb p loose mean mg mb dp un gd cn cs ad ccd cl base g' L Lq m' _ _ E n2 B' F' X' N' P' hdp hu XB TB CHB src Tr dt R Ds Nm vs rows S i ti r l n nt nk ps' Z' TL' U ta tb e1 e2 e3 hsp e4 v2 e5 h2 hf2 ?_
    intro g9 h9 tk9 n9 m9 T9 F9 N9 S9
    exact k g9 h9 tk9 n9 m9 (T'.trans T9) F9 N9 S9
  rcases six_cases h1 with rfl | ⟨nv, t, rfl⟩
  · refine execs_seq (s4_none prog w hb p loose mean mg mb dp un gd cn cs ad ccd cl base g L Lq m _ _ E nws B F X N T hdp hu XB TB CH src Tr dt R Ds Nm vs rows S i ti r l n nt nk ps ZZ hna ?_)
    intro h' tk' t4 F4 N4
    refine ⟨rfl, execs_seq (s5_X prog w hb p loose mean mg mb dp un gd cn cs ad ccd cl base g L Lq _ _ _ E nws B F4 X N4 T hdp hu XB TB CH src Tr dt R Ds Nm vs rows S i ti r l n nt nk ps ZZ TL
      (fun n1 TX1 => vname_missing prog w n1 Tr dt R vs rows S TX1 i ti r l ZZ.EL hf1) ?_)⟩
    intro g5 h5 tk5 t5 n5 ps5 T5 B5 X5 P5 F5 N5 TL5 Z5 _
    refine ⟨rfl, execs_seq (s6_none prog w hb p loose mean mg mb dp un gd cn cs ad ccd cl base g5 L Lq _ _ _ E n5 B5 F5 X5 N5 P5 hdp hu XB TB (CHB.keeps B5.stays) (by exact hna) ?_)⟩
    intro h6 tk6 F6 N6
    exact ⟨rfl, fin g5 _ _ _ _ ps5 (Str.ofString "refused") t5 t4 rfl rfl (by decide +kernel) (by exact hnm) (by exact hmo) T5 B5 X5 P5 F6 N6 TL5 Z5⟩
  · have hmem : (.str nv t : Value) ∈ six nt := by
      rcases List.mem_append.mp h1 with h | h
      · exact h
      · simp at h
    have hok := six_ok hmem
    obtain ⟨nv', t', e, hs⟩ := hsp _ hmem
    cases e
    cases hcol : (Builtin.Str.occurrences nv (Str.ofString ":") 0 nv.length 1).isEmpty
    · rcases hs with ⟨x, y, hxo, hyo, hxl, hyl, EX, LX⟩ | ⟨EX, LX⟩
      · refine execs_seq (s4_some prog w hb p loose mean mg mb dp un gd cn cs ad ccd cl base g L Lq m _ _ E nws B F X N T hdp hu XB TB CH src Tr dt R Ds Nm vs rows S i ti r l n nt nk ps ZZ nv t hna (fun v n2 => ∃ D k t1 t2, v = .ref D ∧ (D, tob [.str x t1, .str y t2] k) ∈ n2) (fun n1 Z1 => con_imp (fun v n2 ⟨D, k, t1, t2, a, b, c⟩ => ⟨⟨D, k, t1, t2, a, b⟩, c⟩) (LX n1 t Z1)) ?_)
        rintro h' tk' v n2 ⟨D, kk, t1, t2, rfl, hD⟩ hsub F4 N4
        refine ⟨rfl, execs_seq (s5_ret prog w hb p loose mean mg mb dp un gd cn cs ad ccd cl base g L Lq _ _ _ E n2 B F4 X N4 T hdp hu XB TB CH src Tr dt R Ds Nm vs rows S i ti r l n nt nk ps (ZZ.mono hsub) TL (fun v => ∃ t, v = .str (Str.ofString "{" ++ x ++ Str.ofString "}" ++ y) t)
          (fun n1 TX1 => vname_some prog w n1 Tr dt R vs rows S TX1 i ti r l ZZ.EL nv x y hf1 hcol hxl hyl (fun n3 ti' t3 TX3 => EX n3 ti' t3 TX3)) ?_)⟩
        rintro h5 tk5 v5 n5 ps5 ⟨t5, rfl⟩ F5 N5 TL5 Z5 hs5
        refine ⟨rfl, execs_seq (s6_some prog w hb p loose mean mg mb dp un gd cn cs ad ccd cl base g L Lq _ _ _ E n5 B F5 X N5 T hdp hu XB TB CH nv t (by exact hna) hcol D x y t1 t2 kk rfl (hs5 _ hD (obj_ne N4 hD (ZZ.mono hsub).tb (fun q => by cases q))) hxl hyl hxo hyo ?_)⟩
        intro h6 tk6 t6 F6 N6
        exact ⟨rfl, fin g _ _ _ _ ps5 _ t5 t6 rfl rfl (strOk_app (strOk_app (strOk_app (by decide +kernel) hxo) (by decide +kernel)) hyo) (by exact hnm) (by exact hmo) KtsTurn.refl B X T F6 N6 TL5 Z5⟩
      · refine execs_seq (s4_some prog w hb p loose mean mg mb dp un gd cn cs ad ccd cl base g L Lq m _ _ E nws B F X N T hdp hu XB TB CH src Tr dt R Ds Nm vs rows S i ti r l n nt nk ps ZZ nv t hna (fun v n2 => ∃ t, v = .str (Str.ofString "refused") t) (fun n1 Z1 => LX n1 t Z1) ?_)
        rintro h' tk' v n2 ⟨t4, rfl⟩ hsub F4 N4
        refine ⟨rfl, execs_seq (s5_X prog w hb p loose mean mg mb dp un gd cn cs ad ccd cl base g L Lq _ _ _ E n2 B F4 X N4 T hdp hu XB TB CH src Tr dt R Ds Nm vs rows S i ti r l n nt nk ps (ZZ.mono hsub) TL
          (fun n1 TX1 => vname_X prog w n1 Tr dt R vs rows S TX1 i ti r l ZZ.EL nv hf1 hcol (fun n3 ti' t3 TX3 => EX n3 ti' t3 TX3)) ?_)⟩
        intro g5 h5 tk5 t5 n5 ps5 T5 B5 X5 P5 F5 N5 TL5 Z5 _
        refine ⟨rfl, execs_seq (s6_ref prog w hb p loose mean mg mb dp un gd cn cs ad ccd cl base g5 L Lq _ _ _ E n5 B5 F5 X5 N5 P5 hdp hu XB TB (CHB.keeps B5.stays) nv t (by exact hna) hcol t4 rfl ?_)⟩
        intro h6 tk6 F6 N6
        exact ⟨rfl, fin g5 _ _ _ _ ps5 (Str.ofString "refused") t5 t4 rfl rfl (by decide +kernel) (by exact hnm) (by exact hmo) T5 B5 X5 P5 F6 N6 TL5 Z5⟩
    · have LX' : ∀ n1, ScopeD prog w n1 Ds (scopeF rows S l) n → Con prog w 20 400 495 [.str nv t, .ref Ds] n1 (fun v n2 => True ∧ ∀ p ∈ n1, p ∈ n2) := fun n1 Z1 => by
        rcases hs with ⟨x, y, -, -, -, -, -, LX⟩ | ⟨-, LX⟩
        · exact con_imp (fun v n2 ⟨D, k, t1, t2, a, b, c⟩ => ⟨trivial, c⟩) (LX n1 t Z1)
        · exact con_imp (fun v n2 h => ⟨trivial, h.2⟩) (LX n1 t Z1)
      refine execs_seq (s4_some prog w hb p loose mean mg mb dp un gd cn cs ad ccd cl base g L Lq m _ _ E nws B F X N T hdp hu XB TB CH src Tr dt R Ds Nm vs rows S i ti r l n nt nk ps ZZ nv t hna (fun v n2 => True) LX' ?_)
      rintro h' tk' v n2 - hsub F4 N4
      refine ⟨rfl, execs_seq (s5_ret prog w hb p loose mean mg mb dp un gd cn cs ad ccd cl base g L Lq _ _ _ E n2 B F4 X N4 T hdp hu XB TB CH src Tr dt R Ds Nm vs rows S i ti r l n nt nk ps (ZZ.mono hsub) TL (fun v => ∃ t, v = .str nv t)
        (fun n1 TX1 => vname_plain prog w n1 Tr dt R vs rows S TX1 i ti r l ZZ.EL nv hf1 hcol) ?_)⟩
      rintro h5 tk5 v5 n5 ps5 ⟨t5, rfl⟩ F5 N5 TL5 Z5 hs5
      refine ⟨rfl, execs_seq (s6_plain prog w hb p loose mean mg mb dp un gd cn cs ad ccd cl base g L Lq _ _ _ E n5 B F5 X N5 T hdp hu XB TB CH nv t (by exact hna) hcol ?_)⟩
      intro h6 tk6 F6 N6
      exact ⟨rfl, fin g _ _ _ _ ps5 nv t5 t rfl rfl hok (by exact hnm) (by exact hmo) KtsTurn.refl B X T F6 N6 TL5 Z5⟩
end
section
theorem nspec_six (prog : Program) (w : World) (Tr dt R Ds : Addr) (vs : List Value) (rows : List NRow) (S : Addr → List Int) (i : Nat) (r : NRow) (l : List Nat) (n : Nat) (EL : Elem rows S i r l) (hxml : scopeF rows S l (Str.ofString "xml") = some XML) (hval : ∀ k u, scopeF rows S l k = some u → u.length ≤ 100 ∧ PyData.strOk u = true) (nt : Nat → Tok) :
    ∀ v ∈ six nt, ∃ nv t, v = .str nv t ∧ NSpec prog w Tr dt R Ds vs rows S i (scopeF rows S l) n nv := by
  intro v hv
  simp only [six, List.mem_cons, List.not_mem_nil, or_false] at hv
  rcases hv with rfl | rfl | rfl | rfl | rfl | rfl
  · exact ⟨_, _, rfl, .inl ⟨Str.ofString "", Str.ofString "a", by decide +kernel, by decide +kernel, by decide +kernel, by decide +kernel, fun n1 ti t _ => exp_plain prog w n1 Tr i ti _ _ t (fun news t => split_a prog w news t), fun n1 t _ => lexp_a prog w n1 t Ds⟩⟩
  · cases hf : scopeF rows S l (Str.ofString "p") with
    | some u =>
      exact ⟨_, _, rfl, .inl ⟨u, Str.ofString "a", (hval _ _ hf).2, by decide +kernel, (hval _ _ hf).1, by decide +kernel, fun n1 ti t TX => exp_some prog w n1 Tr dt R vs rows S TX i ti r l EL _ _ _ t (fun news t => split_p_a prog w news t) (by decide +kernel) (by decide +kernel) u hf, fun n1 t Z => lexp_p_a_s prog w n1 t Ds _ n Z u hf⟩⟩
    | none =>
      exact ⟨_, _, rfl, .inr ⟨fun n1 ti t TX => exp_none prog w n1 Tr dt R vs rows S TX i ti r l EL _ _ _ t (fun news t => split_p_a prog w news t) (by decide +kernel) (by decide +kernel) (by decide +kernel) hf, fun n1 t Z => lexp_p_a_n prog w n1 t Ds _ n Z hf⟩⟩
  · cases hf : scopeF rows S l (Str.ofString "q") with
    | some u =>
      exact ⟨_, _, rfl, .inl ⟨u, Str.ofString "b", (hval _ _ hf).2, by decide +kernel, (hval _ _ hf).1, by decide +kernel, fun n1 ti t TX => exp_some prog w n1 Tr dt R vs rows S TX i ti r l EL _ _ _ t (fun news t => split_q_b prog w news t) (by decide +kernel) (by decide +kernel) u hf, fun n1 t Z => lexp_q_b_s prog w n1 t Ds _ n Z u hf⟩⟩
    | none =>
      exact ⟨_, _, rfl, .inr ⟨fun n1 ti t TX => exp_none prog w n1 Tr dt R vs rows S TX i ti r l EL _ _ _ t (fun news t => split_q_b prog w news t) (by decide +kernel) (by decide +kernel) (by decide +kernel) hf, fun n1 t Z => lexp_q_b_n prog w n1 t Ds _ n Z hf⟩⟩
  · exact ⟨_, _, rfl, .inl ⟨XML, Str.ofString "id", by decide +kernel, by decide +kernel, by decide +kernel, by decide +kernel, fun n1 ti t TX => exp_xml prog w n1 Tr dt R vs rows S TX i ti r l EL _ _ t (fun news t => split_xml_id prog w news t), fun n1 t Z => lexp_xml_id_s prog w n1 t Ds _ n Z XML hxml⟩⟩
  · cases hf : scopeF rows S l (Str.ofString "z") with
    | some u =>
      exact ⟨_, _, rfl, .inl ⟨u, Str.ofString "a", (hval _ _ hf).2, by decide +kernel, (hval _ _ hf).1, by decide +kernel, fun n1 ti t TX => exp_some prog w n1 Tr dt R vs rows S TX i ti r l EL _ _ _ t (fun news t => split_z_a prog w news t) (by decide +kernel) (by decide +kernel) u hf, fun n1 t Z => lexp_z_a_s prog w n1 t Ds _ n Z u hf⟩⟩
    | none =>
      exact ⟨_, _, rfl, .inr ⟨fun n1 ti t TX => exp_none prog w n1 Tr dt R vs rows S TX i ti r l EL _ _ _ t (fun news t => split_z_a prog w news t) (by decide +kernel) (by decide +kernel) (by decide +kernel) hf, fun n1 t Z => lexp_z_a_n prog w n1 t Ds _ n Z hf⟩⟩
  · exact ⟨_, _, rfl, .inl ⟨Str.ofString "", Str.ofString "b-1", by decide +kernel, by decide +kernel, by decide +kernel, by decide +kernel, fun n1 ti t _ => exp_plain prog w n1 Tr i ti _ _ t (fun news t => split_b_1 prog w news t), fun n1 t _ => lexp_b_1 prog w n1 t Ds⟩⟩
end
section
noncomputable abbrev sopt : Value → Option Str
  | .str u _ => some u
  | _ => none
theorem dn_name {nt : Nat → Tok} {v1 v2 : Value} (h1 : v1 ∈ six nt ++ [.none]) (h2 : v2 ∈ six nt ++ [.none]) : ((dn v1 v2 2).find? (fun p => p.1 == Str.ofString "name")).map (·.2) = sopt v1 := by
  rcases six_cases h1 with rfl | ⟨u, t, rfl⟩
  · rcases six_cases h2 with rfl | ⟨u, t, rfl⟩
    · rfl
    · show ((([(Str.ofString "mode", u)] : List (Str × Str)).find? _).map _) = none
      rw [List.find?_cons_of_neg (by show ¬((Str.ofString "mode" == Str.ofString "name") = true); decide +kernel)]; rfl
  · show (((Str.ofString "name", u) :: dopt (Str.ofString "mode") v2).find? _).map _ = _
    rw [List.find?_cons_of_pos (by simp)]; rfl
theorem dn_mode {nt : Nat → Tok} {v1 v2 : Value} (h1 : v1 ∈ six nt ++ [.none]) (h2 : v2 ∈ six nt ++ [.none]) : ((dn v1 v2 2).find? (fun p => p.1 == Str.ofString "mode")).map (·.2) = sopt v2 := by
  have key : ((dopt (Str.ofString "mode") v2).find? (fun p => p.1 == Str.ofString "mode")).map (·.2) = sopt v2 := by
    rcases six_cases h2 with rfl | ⟨u, t, rfl⟩
    · rfl
    · rw [List.find?_cons_of_pos (by simp)]; rfl
  rcases six_cases h1 with rfl | ⟨u, t, rfl⟩
  · exact key
  · show (((Str.ofString "name", u) :: dopt (Str.ofString "mode") v2).find? _).map _ = _
    rw [List.find?_cons_of_neg (by show ¬((Str.ofString "name" == Str.ofString "mode") = true); decide +kernel)]
    exact key
theorem body_con (prog : Program) (w : World) {oc9 : Value} {od : Option Addr} {name qual : Str} {params : Arguments} {s1 s2 s3 s4 s5 s6 s7 s8 s9 : Stmt} {scope : Scope} {dV kV doc pm9 cdv ct9 : Value} {an : Option Addr} {osl : Array (Option Value)}
  (hb : (hd.heap_39 w.params).lookup 500 = some ⟨oc9, od, .func (fnOf name qual params [s1, s2, s3, s4, s5, s6, s7, s8, s9] scope dV kV doc pm9 an cdv ct9), osl⟩)
    (p : Program) (loose : List Str) (mean : ExcName → Option Value) (mg mb : Str → Option Value)
    (dp un : Nat) (gd : Option (List Code)) (cn : Str) (cs : Scope) (ad : Addr) (ccd : Value) (cl : List (Str × Addr)) (base g : Heap) (L Lq : Addr) (m : Str → Option Value) (s : Shared)
    (Q : Flow → Shared → Prop) (E : Value → Shared → Prop) (hE : PassesOwn (model prog w) ((ktrTop dp un gd cn cs L ad ccd cl []).deeper (envOfC qual scope Lq 500 cdv)) (envOfC qual scope Lq 500 cdv) E) (nws : List (Addr × Obj))
    (B : Below (ktrTop dp un gd cn cs L ad ccd cl []) base [envX cn cs L ad ccd cl] g) (F : Fr g Lq s.heap m) (X : (hd.heap_39 w.params).In g) (N : News g Lq s.heap nws) (T : Top p loose mean mg mb g) (hdp : dp + 400 < recursionLimit) (hu : un + 9000 < cLine)
    (XB : (hd.heap_39 w.params).In base) (TB : Top p loose mean mg mb base) (CHB : CodeHd base 499 497)
    (src Tr dt R Ds : Addr) (vs : List Value) (rows : List NRow) (S : Addr → List Int) (i : Nat) (ti : Tok) (r : NRow) (l : List Nat) (n : Nat) (ps : Array Value)
    (TX : TreeIs nws Tr dt R vs rows S) (EL : Elem rows S i r l) (ZD : ScopeD prog w nws Ds (scopeF rows S l) n) (SZ : SrcIs nws src) (hn : n ≤ 1000) (ct : ∃ o, (Lq + 1, o) ∈ nws ∧ o.data = .cell (some (.ref Tr))) (ce : ∃ o, (Lq + 1 + 1, o) ∈ nws ∧ o.data = .cell (some (.int (i : Int) ti))) (cc : ∃ o, (Lq + 1 + 1 + 1, o) ∈ nws ∧ o.data = .cell (some (.ref Ds)))
    (tbm : (497, tabObj ps) ∈ nws) (TL : TabL ps []) (hso : m (Str.ofString "source") = some (.ref src)) (hkd : r.kind = Str.ofString "element") (hSa : S r.a = []) (hsm : rows.length < 50) (hR : R ≠ src) (hsub : ∀ q ∈ rows, ∀ D ∈ [q.c, q.a, q.n], D ≠ src)
    (hxml : scopeF rows S l (Str.ofString "xml") = some XML) (hval : ∀ k u, scopeF rows S l k = some u → u.length ≤ 100 ∧ PyData.strOk u = true)
    (k : ∀ g' h' tk' n2 m', KtsTurn ([envX cn cs L ad ccd cl].filterMap (·.frame)) g g' → Fr g' Lq h' m' → News g' Lq h' n2 → (SrcIs n2 src ∧ ∃ ps, (497, tabObj ps) ∈ n2) → Q (.ret (.bool true)) { s with heap := h', toks := tk' }) :
    wpAny (model prog w) ((ktrTop dp un gd cn cs L ad ccd cl []).deeper (envOfC qual scope Lq 500 cdv)) (execs [s1, s2, s3, s4, s5, s6, s7, s8, s9] (envOfC qual scope Lq 500 cdv)) Q E s := by
  have CH := CHB.keeps B.stays
  refine execs_seq (s1_con prog w hb p loose mean mg mb dp un gd cn cs ad ccd cl base g L Lq m _ _ E nws B F X N T hdp hu XB TB CH ?_)
  intro h' tk' Nm nt nk hlt F1 N1
  obtain ⟨nR, hRm⟩ := TX.lst
  have hrm := List.mem_of_getElem? EL.hi
  obtain ⟨yA, kA, hAm, -⟩ := TX.sub r hrm r.a (by simp)
  have up : ∀ p ∈ nws, p ∈ (Nm, lob (six nt) nk) :: nws := fun p hp => List.mem_cons_of_mem _ hp
  have ZZ : NF prog w src Tr dt R Ds Nm Lq vs rows S i ti r l n nt nk ps ((Nm, lob (six nt) nk) :: nws) := by
    refine ⟨TX.mono up, EL, ZD.mono (fun o ho => up _ ho), SZ.mono (fun o ho => up _ ho), hn, List.mem_cons_self, ?_, ?_, ?_, up _ tbm⟩
    · obtain ⟨o, a, b⟩ := ct; exact ⟨o, up _ a, b⟩
    · obtain ⟨o, a, b⟩ := ce; exact ⟨o, up _ a, b⟩
    · obtain ⟨o, a, b⟩ := cc; exact ⟨o, up _ a, b⟩
  have hNs : Nm ≠ src := Ne.symm (Nat.ne_of_lt (SZ.lt hlt))
  refine ⟨rfl, execs_seq (s2_con prog w hb p loose mean mg mb dp un gd cn cs ad ccd cl base g L Lq _ _ _ E _ B F1 X N1 T hdp hu XB TB CH src Tr dt R Ds Nm vs rows S i ti r l n nt nk ps ZZ rfl (by exact hso) hR hsub hNs ?_)⟩
  intro h2' tk2 v1 v2 n2 hv1 hv2 F2 N2 Z2
  refine ⟨rfl, execs_seq (s3_con prog w hb p loose mean mg mb dp un gd cn cs ad ccd cl base g L Lq _ _ _ E hE n2 B F2 X N2 T hdp hu XB TB CH src Tr dt R Ds Nm vs rows S i ti r l n nt nk ps Z2 v1 v2 hv1 hv2 rfl rfl hkd hSa hsm (Ne.symm hR) (Ne.symm (hsub r hrm r.a (by simp))) (Ne.symm (Nat.ne_of_lt (hlt _ hRm))) (Ne.symm (Nat.ne_of_lt (hlt _ hAm))) ?_)⟩
  intro h3 tk3 n3 vs' rows' S' m' hm' A3 F3 N3 Z3
  have e1 : m' (Str.ofString "names") = some (.ref Nm) := by rw [hm' _ (by decide) (by decide)]; rfl
  have e2 : m' (Str.ofString "name") = some v1 := by rw [hm' _ (by decide) (by decide)]; rfl
  have e3 : m' (Str.ofString "mode") = some v2 := by rw [hm' _ (by decide) (by decide)]; rfl
  exact ⟨rfl, mid_con prog w hb p loose mean mg mb dp un gd cn cs ad ccd cl base g L Lq m' _ _ E n3 B F3 X N3 T hdp hu XB TB CHB src Tr dt R Ds Nm vs' rows' S' i ti r l n nt nk ps Z3 TL
    (nspec_six prog w Tr dt R Ds vs' rows' S' i r l n A3.EL (by rw [A3.sc]; exact hxml) (fun k u h => hval k u (by rw [A3.sc] at h; exact h)) nt) e1 v1 v2 e2 e3 hv1 hv2 (by rw [A3.fa, dn_name hv1 hv2]; all_goals (rcases six_cases hv1 with rfl | ⟨u, t, rfl⟩ <;> rfl)) (by rw [A3.fa, dn_mode hv1 hv2]; all_goals (rcases six_cases hv2 with rfl | ⟨u, t, rfl⟩ <;> rfl)) (fun g' h' tk' n2 m' a b c d => k g' h' tk' n2 m' a b c d)⟩
end
section
theorem turn_nil {h₀ h₀' h : Heap} {L : Addr} {m : Str → Option Value} {n2 : List (Addr × Obj)} (T : KtsTurn [] h₀ h₀') (F : Fr h₀' L h m) (N : News h₀' L h n2) : Fr h₀ L h m ∧ News h₀ L h n2 := by
  have up : ∀ b o, h₀.get? b = some o → h₀'.get? b = some o := fun b o e => T.other b o e (fun z => nomatch z)
  refine ⟨⟨F.ns, fun b o e => F.keep b o (up b o e), by rw [← T.size]; exact F.above⟩, fun p hp => ⟨(N p hp).1, (N p hp).2.1, ?_⟩⟩
  cases q : h₀.get? p.1 with
  | none => rfl
  | some o => have := (N p hp).2.2; rw [up _ _ q] at this; cases this
theorem names_right_con (prog : Program) (w : World) (p : Program) (loose : List Str) (mean : ExcName → Option Value) (mg mb : Str → Option Value)
    (dp un : Nat) (gd : Option (List Code)) (cn : Str) (cs : Scope) (ad : Addr) (ccd : Value) (cl : List (Str × Addr)) (A₀ : Around) (base h₀ : Heap) (L : Addr) (m : Str → Option Value) (s : Shared)
    (Q E : Value → Shared → Prop) (nws : List (Addr × Obj))
    (B : Below A₀ base [] h₀) (F : Fr h₀ L s.heap m) (X : (hd.heap_39 w.params).In h₀) (N : News h₀ L s.heap nws) (T : Top p loose mean mg mb h₀) (hk : cs.kind = .function) (hdp : dp + 500 < recursionLimit) (hu : un + 9500 < cLine)
    (XB : (hd.heap_39 w.params).In base) (TB : Top p loose mean mg mb base) (CHB : CodeHd base 499 497)
    (src Tr dt R Ds : Addr) (vs : List Value) (rows : List NRow) (S : Addr → List Int) (i : Nat) (ti : Tok) (r : NRow) (l : List Nat) (n : Nat) (ps : Array Value)
    (TX : TreeIs nws Tr dt R vs rows S) (EL : Elem rows S i r l) (ZD : ScopeD prog w nws Ds (scopeF rows S l) n) (SZ : SrcIs nws src) (hn : n ≤ 1000)
    (tbm : (497, tabObj ps) ∈ nws) (TL : TabL ps []) (hkd : r.kind = Str.ofString "element") (hSa : S r.a = []) (hsm : rows.length < 50) (hR : R ≠ src) (hsub : ∀ q ∈ rows, ∀ D ∈ [q.c, q.a, q.n], D ≠ src)
    (hxml : scopeF rows S l (Str.ofString "xml") = some XML) (hval : ∀ k u, scopeF rows S l k = some u → u.length ≤ 100 ∧ PyData.strOk u = true)
    (KP : List (Addr × Obj)) (hKN : News h₀ L s.heap KP) (hKd : ∀ p ∈ KP, ∀ q ∈ nws, q.1 ≠ p.1)
    (k : ∀ h' tk' n2, Fr h₀ L h' m → News h₀ L h' (KP ++ n2) → SrcIs n2 src → (∃ ps, (497, tabObj ps) ∈ n2) → Q (.bool true) { s with heap := h', toks := tk' }) :
    wpAny (model prog w) (ktrTop dp un gd cn cs L ad ccd cl []) (call (.ref 500) [.ref src, .ref Tr, .int (i : Int) ti, .ref Ds]) Q E s := by
  refine wpAny_call ?_
  k_dflt (refine' enterTC ?k1 ?k2 ?k3 ?k4 ?k5 ?kA ?kF ?kK ?k6 ?k7 ?k8 ?k9 ?kB ?kD ?_ ?c2 ?c3 ?c4; (case kA => exact rfl); (case kF => exact rfl); (case kK => assumption); (case k1 => k_asm); (case k2 => k_asm); (case k3 => k_asm); (case k4 => exact N); (case k5 => k_asm); (case k6 => k_is); (case k7 => k_is); (case k8 => ktr_room); (case k9 => exact BindsTo.of_eq rfl); (case kB => exact rfl); (case kD => decide +kernel); (case c2 => exact rfl); (case c3 => exact rfl); (case c4 => exact rfl))
  intro g' L' h' tk' cells' FG' F' N' Y' B' X' T' l1 hid
  have hY := CellsAre.three Y'
  obtain ⟨o1, o2, o3, hE, d1, d2, d3⟩ := hY
  subst hE
  clear Y'
  simp only [List.cons_append, List.nil_append] at N'
  have up : ∀ p ∈ nws, p ∈ (L' + 1 + 1 + 1, o1) :: (L' + 1 + 1, o2) :: (L' + 1, o3) :: nws := fun p hp => List.mem_cons_of_mem _ (List.mem_cons_of_mem _ (List.mem_cons_of_mem _ hp))
  k_dflt (refine' body_con prog w ?hb p loose mean mg mb dp un gd cn cs ad ccd cl base g' L L' _ _ _ _ ?hE _ B' F' X' N' T' ?_ ?_ XB TB CHB src Tr dt R Ds vs rows S i ti r l n ps (TX.mono up) EL (ZD.mono (fun o ho => up _ ho)) (SZ.mono (fun o ho => up _ ho)) hn ⟨o3, List.mem_cons_of_mem _ (List.mem_cons_of_mem _ List.mem_cons_self), d3⟩ ⟨o2, List.mem_cons_of_mem _ List.mem_cons_self, d2⟩ ⟨o1, List.mem_cons_self, d1⟩ (up _ tbm) TL rfl hkd hSa hsm hR hsub hxml hval ?_)
  case hb => k_is
  case hE => passes_own
  · exact Nat.lt_of_le_of_lt (Nat.add_le_add_left (by decide) dp) hdp
  · exact Nat.lt_of_le_of_lt (Nat.add_le_add_left (by decide) un) hu
  · intro g9 h9 tk9 n9 m9 T9 F9 N9 S9
    obtain ⟨h0', T1, F1, N1, -⟩ := turn_back B FG' T9 (fun b hb => kts_mem (name := cn) (scope := cs) (a := ad) (cd := ccd) hb) F9 N9
    obtain ⟨F0, N0⟩ := turn_nil T1 F1 N1
    refine k _ _ _ F0 (fun p hp => ?_) S9.1 S9.2
    rcases List.mem_append.mp hp with hp | hp
    · have hq := hKN p hp
      refine ⟨F9.keep _ _ (T9.other _ _ (hid _ _ hq.1 (fun h => ?_)) (fun h => ?_)), hq.2.1, hq.2.2⟩
      · obtain ⟨q, hq1, hq2⟩ := List.mem_map.mp h
        exact hKd p hp q hq1 hq2
      · rcases kts_mem (name := cn) (scope := cs) (a := ad) (cd := ccd) h with e | e
        · exact hq.2.1 e
        · cases e
    · exact N0 p hp
end
section
/-- what _law_grown keeps of its tree: a is the innermost element, l its line up to the root -/
structure GT (rows : List NRow) (S : Addr → List Int) (a : Nat) (l : List Nat) : Prop where
  up : Up rows (some a) l
  dc : l.Pairwise (· > ·)
  ns : ∀ r ∈ rows, ∀ j ∈ S r.n, ∃ (k : Nat) (q : NRow), j = (k : Int) ∧ rows[k]? = some q
  at0 : ∀ r ∈ rows, S r.a = []
  ln : ∀ r ∈ rows, ∀ D ∈ [r.c, r.a, r.n], (S D).length ≤ rows.length
  nm : ∀ r ∈ rows, r.name.length ≤ 100
  vl : ∀ k u, scopeF rows S l k = some u → u.length ≤ 100 ∧ PyData.strOk u = true
  xm : scopeF rows S l (Str.ofString "xml") = some XML
theorem nd_idx {rows : List NRow} (hnd : (rows.flatMap fun r => [r.c, r.a, r.n]).Nodup) {i j : Nat} {q r : NRow} (hi : rows[i]? = some q) (hj : rows[j]? = some r) (hne : i ≠ j) : ∀ D ∈ [q.c, q.a, q.n], ∀ D' ∈ [r.c, r.a, r.n], D ≠ D' := by
  have h := (List.pairwise_flatMap.mp hnd).2
  rw [List.pairwise_iff_getElem] at h
  obtain ⟨hil, rfl⟩ := List.getElem?_eq_some_iff.mp hi
  obtain ⟨hjl, rfl⟩ := List.getElem?_eq_some_iff.mp hj
  rcases Nat.lt_or_gt_of_ne hne with hlt | hgt
  · exact fun D hD D' hD' => h i j hil hjl hlt D hD D' hD'
  · exact fun D hD D' hD' => Ne.symm (h j i hjl hil hgt D' hD' D hD)
theorem nd_three {rows : List NRow} (hnd : (rows.flatMap fun r => [r.c, r.a, r.n]).Nodup) {r : NRow} (hr : r ∈ rows) : r.c ≠ r.a ∧ r.c ≠ r.n ∧ r.a ≠ r.n := by
  have h := (List.pairwise_flatMap.mp hnd).1 r hr
  simp only [List.pairwise_cons, List.mem_cons, List.not_mem_nil, or_false] at h
  exact ⟨h.1 _ (.inl rfl), h.1 _ (.inr rfl), h.2.1 _ rfl⟩
theorem Up.head {rows : List NRow} {a : Nat} {l : List Nat} (h : Up rows (some a) l) : ∃ r tl, l = a :: tl ∧ rows[a]? = some r ∧ Up rows r.par tl := by
  cases h with
  | cons hr hu => exact ⟨_, _, rfl, hr, hu⟩
theorem scopeF_cons {rows : List NRow} {S : Addr → List Int} {a : Nat} {tl : List Nat} {r : NRow} (hr : rows[a]? = some r) : scopeF rows S (a :: tl) = (S r.n).foldl (nsStep rows) (scopeF rows S tl) := by
  simp only [scopeF, List.reverse_cons, List.map_append, List.foldl_append, List.map_cons, List.map_nil, List.foldl_cons, List.foldl_nil, elStep, Int.toNat_natCast, hr]
theorem scopeF_app2 {rows : List NRow} {x : NRow} {S S' : Addr → List Int} {l : List Nat} (hS : ∀ j ∈ l, ∀ q, rows[j]? = some q → S' q.n = S q.n) (hns : ∀ r ∈ rows, ∀ j ∈ S r.n, ∃ (k : Nat) (q : NRow), j = (k : Int) ∧ rows[k]? = some q) (hl : ∀ j ∈ l, ∃ r, rows[j]? = some r) :
    scopeF (rows ++ [x]) S' l = scopeF rows S l := by
  have key : ∀ (l : List Nat) (f : Str → Option Str), (∀ j ∈ l, ∀ q, rows[j]? = some q → S' q.n = S q.n) → (∀ j ∈ l, ∃ r, rows[j]? = some r) → (l.map (fun j : Nat => (j : Int))).foldl (elStep (rows ++ [x]) S') f = (l.map (fun j : Nat => (j : Int))).foldl (elStep rows S) f := by
    intro l
    induction l with
    | nil => intro f _ _; rfl
    | cons j l ih =>
      intro f hS hl
      obtain ⟨r, hr⟩ := hl j List.mem_cons_self
      rw [List.map_cons, List.foldl_cons, List.foldl_cons, ih _ (fun j h => hS j (List.mem_cons_of_mem _ h)) (fun j h => hl j (List.mem_cons_of_mem _ h))]
      congr 1
      simp only [elStep, Int.toNat_natCast, hr, get_app hr, hS j List.mem_cons_self r hr]
      exact nsStep_app (hns r (List.mem_of_getElem? hr)) f
  exact key _ _ (fun j hj => hS j (List.mem_reverse.mp hj)) (fun j hj => hl j (List.mem_reverse.mp hj))
section
variable {news : List (Addr × Obj)} {Tr dt R : Addr} {vs : List Value} {rows : List NRow} {S : Addr → List Int} {a : Nat} {l : List Nat} {c b n : Addr}
theorem fresh_lists (TX : TreeIs news Tr dt R vs rows S) (hf : ∀ p ∈ news, p.1 < c ∧ p.1 < b ∧ p.1 < n) : ∀ q ∈ rows, ∀ D ∈ [q.c, q.a, q.n], D ≠ c ∧ D ≠ b ∧ D ≠ n := fun q hq D hD => by
  obtain ⟨ys, k, m, -⟩ := TX.sub q hq D hD
  obtain ⟨z1, z2, z3⟩ := hf _ m
  exact ⟨Nat.ne_of_lt z1, Nat.ne_of_lt z2, Nat.ne_of_lt z3⟩
/-- a namespace more on the innermost element -/
theorem GT.ns_add (TX : TreeIs news Tr dt R vs rows S) (G : GT rows S a l) (hf : ∀ p ∈ news, p.1 < c ∧ p.1 < b ∧ p.1 < n) (hcb : c ≠ b ∧ c ≠ n ∧ b ≠ n) {r : NRow} (hr : rows[a]? = some r) (px u : Str) (hpl : px.length ≤ 100) (hxm : px ≠ Str.ofString "xml") (hul : u.length ≤ 100 ∧ PyData.strOk u = true) (pr : Option Nat) :
    GT (rows ++ [⟨Str.ofString "namespace", px, Str.ofString "", px, u, pr, c, b, n⟩]) (S1 (S3 S c b n) r.n rows.length) a l ∧ scopeF (rows ++ [⟨Str.ofString "namespace", px, Str.ofString "", px, u, pr, c, b, n⟩]) (S1 (S3 S c b n) r.n rows.length) l = sput (scopeF rows S l) px (sval u) := by
  have hrm := List.mem_of_getElem? hr
  have lt := fresh_lists TX hf
  have hnd := TX.nd
  rw [List.nodup_cons] at hnd
  obtain ⟨z1, z2, z3⟩ := lt r hrm r.n (by simp)
  have hSr : S1 (S3 S c b n) r.n rows.length r.n = S r.n ++ [(rows.length : Int)] := by simp [S1, S3, z1, z2, z3]
  have hSo : ∀ q ∈ rows, ∀ D ∈ [q.c, q.a, q.n], D ≠ r.n → S1 (S3 S c b n) r.n rows.length D = S D := fun q hq D hD hne => by
    obtain ⟨y1, y2, y3⟩ := lt q hq D hD
    simp [S1, S3, y1, y2, y3, hne]
  have hSn : S1 (S3 S c b n) r.n rows.length c = [] ∧ S1 (S3 S c b n) r.n rows.length b = [] ∧ S1 (S3 S c b n) r.n rows.length n = [] := by
    simp [S1, S3, Ne.symm z1, Ne.symm z2, Ne.symm z3]
  obtain ⟨r', tl, rfl, hr', hu⟩ := G.up.head
  rw [hr] at hr'; cases hr'
  have hdc := List.pairwise_cons.mp G.dc
  have hsc : scopeF (rows ++ [⟨Str.ofString "namespace", px, Str.ofString "", px, u, pr, c, b, n⟩]) (S1 (S3 S c b n) r.n rows.length) (a :: tl) = sput (scopeF rows S (a :: tl)) px (sval u) := by
    rw [scopeF_cons (get_app hr _), scopeF_cons hr, hSr, List.foldl_append, nsStep_app (G.ns r hrm), scopeF_app2 (S := S) (fun j hj q hq => hSo q (List.mem_of_getElem? hq) q.n (by simp) (nd_idx hnd.2 hq hr (Nat.ne_of_lt (hdc.1 j hj)) q.n (by simp) r.n (by simp))) G.ns (up_mem hu)]
    simp only [List.foldl_cons, List.foldl_nil, nsStep, Int.toNat_natCast]
    rw [List.getElem?_append_right (Nat.le_refl _), Nat.sub_self]
    rfl
  refine ⟨⟨G.up.app _, G.dc, fun q hq j hj => ?_, fun q hq => ?_, fun q hq D hD => ?_, fun q hq => ?_, ?_, ?_⟩, hsc⟩
  · rcases List.mem_append.mp hq with hq | hq
    · by_cases e : q.n = r.n
      · rw [e, hSr] at hj
        rcases List.mem_append.mp hj with hj | hj
        · obtain ⟨k, q', rfl, hq'⟩ := G.ns r hrm j hj
          exact ⟨k, q', rfl, get_app hq' _⟩
        · obtain rfl := List.mem_singleton.mp hj
          exact ⟨rows.length, _, rfl, by rw [List.getElem?_append_right (Nat.le_refl _), Nat.sub_self]; rfl⟩
      · rw [hSo q hq q.n (by simp) e] at hj
        obtain ⟨k, q', rfl, hq'⟩ := G.ns q hq j hj
        exact ⟨k, q', rfl, get_app hq' _⟩
    · obtain rfl := List.mem_singleton.mp hq
      rw [hSn.2.2] at hj
      cases hj
  · rcases List.mem_append.mp hq with hq | hq
    · rw [hSo q hq q.a (by simp) (Ne.symm (nd_ne hnd.2 r hrm q hq))]
      exact G.at0 q hq
    · obtain rfl := List.mem_singleton.mp hq
      exact hSn.2.1
  · rw [List.length_append, List.length_singleton]
    rcases List.mem_append.mp hq with hq | hq
    · by_cases e : D = r.n
      · rw [e, hSr, List.length_append, List.length_singleton]
        exact Nat.succ_le_succ (G.ln r hrm r.n (by simp))
      · rw [hSo q hq D hD e]
        exact Nat.le_succ_of_le (G.ln q hq D hD)
    · obtain rfl := List.mem_singleton.mp hq
      simp only [List.mem_cons, List.not_mem_nil, or_false] at hD
      rcases hD with rfl | rfl | rfl
      · rw [hSn.1]; exact Nat.zero_le _
      · rw [hSn.2.1]; exact Nat.zero_le _
      · rw [hSn.2.2]; exact Nat.zero_le _
  · rcases List.mem_append.mp hq with hq | hq
    · exact G.nm q hq
    · obtain rfl := List.mem_singleton.mp hq
      exact hpl
  · intro k v hv
    rw [hsc, sput] at hv
    split at hv
    · unfold sval at hv
      split at hv
      · cases hv
      · cases hv; exact hul
    · exact G.vl k v hv
  · rw [hsc, sput, if_neg (Ne.symm hxm)]
    exact G.xm
/-- an element more, below the innermost one -/
theorem GT.el_add (TX : TreeIs news Tr dt R vs rows S) (G : GT rows S a l) (hf : ∀ p ∈ news, p.1 < c ∧ p.1 < b ∧ p.1 < n) (hcb : c ≠ b ∧ c ≠ n ∧ b ≠ n) {r : NRow} (hr : rows[a]? = some r) (nm : Str) (hpl : nm.length ≤ 100) (ur lo va : Str) :
    GT (rows ++ [⟨Str.ofString "element", nm, ur, lo, va, some a, c, b, n⟩]) (S1 (S3 S c b n) r.c rows.length) rows.length (rows.length :: l) ∧ scopeF (rows ++ [⟨Str.ofString "element", nm, ur, lo, va, some a, c, b, n⟩]) (S1 (S3 S c b n) r.c rows.length) (rows.length :: l) = scopeF rows S l := by
  have hrm := List.mem_of_getElem? hr
  have lt := fresh_lists TX hf
  have hnd := TX.nd
  rw [List.nodup_cons] at hnd
  obtain ⟨z1, z2, z3⟩ := lt r hrm r.c (by simp)
  have hSr : S1 (S3 S c b n) r.c rows.length r.c = S r.c ++ [(rows.length : Int)] := by simp [S1, S3, z1, z2, z3]
  have hSo : ∀ q ∈ rows, ∀ D ∈ [q.c, q.a, q.n], D ≠ r.c → S1 (S3 S c b n) r.c rows.length D = S D := fun q hq D hD hne => by
    obtain ⟨y1, y2, y3⟩ := lt q hq D hD
    simp [S1, S3, y1, y2, y3, hne]
  have hSn : S1 (S3 S c b n) r.c rows.length c = [] ∧ S1 (S3 S c b n) r.c rows.length b = [] ∧ S1 (S3 S c b n) r.c rows.length n = [] := by
    simp [S1, S3, Ne.symm z1, Ne.symm z2, Ne.symm z3]
  have hne : ∀ q ∈ rows, q.a ≠ r.c ∧ q.n ≠ r.c := fun q hq => by
    obtain ⟨i, hi⟩ := List.getElem?_of_mem hq
    by_cases e : i = a
    · subst e
      rw [hr] at hi; cases hi
      obtain ⟨y1, y2, y3⟩ := nd_three hnd.2 hrm
      exact ⟨Ne.symm y1, Ne.symm y2⟩
    · exact ⟨nd_idx hnd.2 hi hr e q.a (by simp) r.c (by simp), nd_idx hnd.2 hi hr e q.n (by simp) r.c (by simp)⟩
  have hnew : (rows ++ [⟨Str.ofString "element", nm, ur, lo, va, some a, c, b, n⟩])[rows.length]? = some (⟨Str.ofString "element", nm, ur, lo, va, some a, c, b, n⟩ : NRow) := by rw [List.getElem?_append_right (Nat.le_refl _), Nat.sub_self]; rfl
  have hsc : scopeF (rows ++ [⟨Str.ofString "element", nm, ur, lo, va, some a, c, b, n⟩]) (S1 (S3 S c b n) r.c rows.length) (rows.length :: l) = scopeF rows S l := by
    rw [scopeF_cons hnew]
    show (S1 (S3 S c b n) r.c rows.length n).foldl _ _ = _
    rw [hSn.2.2, List.foldl_nil]
    exact scopeF_app2 (fun j _ q hq => hSo q (List.mem_of_getElem? hq) q.n (by simp) (hne q (List.mem_of_getElem? hq)).2) G.ns (up_mem G.up)
  refine ⟨⟨.cons hnew (G.up.app _), List.pairwise_cons.mpr ⟨fun j hj => ?_, G.dc⟩, fun q hq j hj => ?_, fun q hq => ?_, fun q hq D hD => ?_, fun q hq => ?_, ?_, ?_⟩, hsc⟩
  · obtain ⟨q, hq⟩ := up_mem G.up j hj
    exact (List.getElem?_eq_some_iff.mp hq).1
  · rcases List.mem_append.mp hq with hq | hq
    · rw [hSo q hq q.n (by simp) (hne q hq).2] at hj
      obtain ⟨k, q', rfl, hq'⟩ := G.ns q hq j hj
      exact ⟨k, q', rfl, get_app hq' _⟩
    · obtain rfl := List.mem_singleton.mp hq
      rw [hSn.2.2] at hj
      cases hj
  · rcases List.mem_append.mp hq with hq | hq
    · rw [hSo q hq q.a (by simp) (hne q hq).1]
      exact G.at0 q hq
    · obtain rfl := List.mem_singleton.mp hq
      exact hSn.2.1
  · rw [List.length_append, List.length_singleton]
    rcases List.mem_append.mp hq with hq | hq
    · by_cases e : D = r.c
      · rw [e, hSr, List.length_append, List.length_singleton]
        exact Nat.succ_le_succ (G.ln r hrm r.c (by simp))
      · rw [hSo q hq D hD e]
        exact Nat.le_succ_of_le (G.ln q hq D hD)
    · obtain rfl := List.mem_singleton.mp hq
      simp only [List.mem_cons, List.not_mem_nil, or_false] at hD
      rcases hD with rfl | rfl | rfl
      · rw [hSn.1]; exact Nat.zero_le _
      · rw [hSn.2.1]; exact Nat.zero_le _
      · rw [hSn.2.2]; exact Nat.zero_le _
  · rcases List.mem_append.mp hq with hq | hq
    · exact G.nm q hq
    · obtain rfl := List.mem_singleton.mp hq
      exact hpl
  · rw [hsc]; exact G.vl
  · rw [hsc]; exact G.xm
end
theorem GT.root {c b n : Addr} : GT [⟨Str.ofString "root", Str.ofString "", Str.ofString "", Str.ofString "", Str.ofString "", none, c, b, n⟩] (S3 (fun _ => []) c b n) 0 [0] := by
  have hS : ∀ D, S3 (fun _ => []) c b n D = [] := fun D => by simp [S3]
  have hsc : scopeF [⟨Str.ofString "root", Str.ofString "", Str.ofString "", Str.ofString "", Str.ofString "", none, c, b, n⟩] (S3 (fun _ => []) c b n) [0] = f0 := by
    rw [scopeF_cons (tl := []) rfl, hS]
    rfl
  refine ⟨.cons rfl .nil, by simp, fun r hr j hj => ?_, fun r hr => hS _, fun r hr D hD => by rw [hS]; exact Nat.zero_le _, fun r hr => ?_, ?_, ?_⟩
  · rw [hS] at hj; cases hj
  · rw [List.mem_singleton.mp hr]; show (Str.ofString "").length ≤ 100; decide +kernel
  · intro k u h
    rw [hsc, f0, sput] at h
    split at h
    · cases h; exact ⟨by decide +kernel, by decide +kernel⟩
    · cases h
  · rw [hsc]; rfl
end
section
section
variable {prog : Program} {w : World} {h₀ h : Heap} {L : Addr}
theorem ScopeD.ne_dict {news : List (Addr × Obj)} {D x : Addr} {es : List DictEntry} {k : Nat} {f : Str → Option Str} {n : Nat} {u : Str} (N : News h₀ L h news) (hm : (x, dictOf es k) ∈ news) (hk : findBy (strKind prog w).is es.toArray (Str.ofString "xml") = none)
    (Z : ScopeD prog w news D f n) (hx : f (Str.ofString "xml") = some u) : x ≠ D := by
  rintro rfl
  obtain ⟨o, kvs, DD, a, b, c, d, e⟩ := Z.ex
  have hD : h.DictOf (strKind prog w) x kvs := Heap.dictOf_iff.mpr ⟨o, N.get a, b⟩
  obtain ⟨o', es', ep', ho, -, hd, -, hf⟩ := hD.mapOf
  rw [N.get hm] at ho
  cases ho
  cases hd
  obtain ⟨v, hv, -⟩ := c.of_lookup PyProof.V.same_str (show PySem.Spec.lookup (PyData.str (Str.ofString "xml")) DD = some (.str u) by rw [e, hx]; rfl)
  rw [← hf, hk] at hv
  cases hv
theorem no_xml (es : List DictEntry) (h : ∀ e ∈ es, (strKind prog w).is (Str.ofString "xml") e.key = false) : findBy (strKind prog w).is es.toArray (Str.ofString "xml") = none := by
  simp only [findBy, List.find?_toArray]
  rw [List.find?_eq_none.mpr (fun e he => by rw [h e he]; decide)]
  rfl
theorem TreeIs.scope {n1 n2 : List (Addr × Obj)} {Tr dt R D : Addr} {vs : List Value} {rows : List NRow} {S : Addr → List Int} {f : Str → Option Str} {n : Nat} {u : Str} (N : News h₀ L h n1) (hs : ∀ p ∈ n1, p.1 ≠ D → p ∈ n2) (Z : ScopeD prog w n1 D f n) (hx : f (Str.ofString "xml") = some u) (X : TreeIs n1 Tr dt R vs rows S) : TreeIs n2 Tr dt R vs rows S := by
  have inst : ∀ a C dx, (a, instObj C dx) ∈ n1 → a ≠ D := fun a C dx hm => by
    rintro rfl
    obtain ⟨o, kvs, DD, b, ⟨es, ep, -, hd, -⟩, -⟩ := Z.ex
    have e := Option.some.inj ((N.get hm).symm.trans (N.get b))
    rw [← e] at hd
    cases hd
  refine ⟨hs _ X.inst (inst _ _ _ X.inst), ?_, ?_, X.len, X.small, ?_, ?_, X.nd⟩
  · obtain ⟨hh, tk, e⟩ := X.dict
    refine ⟨hh, tk, hs _ e (Z.ne_dict N e (no_xml _ ?_) hx)⟩
    intro q hq
    rw [List.mem_singleton.mp hq]
    show (strKind prog w).is _ (.str _ _) = _
    rfl
  · obtain ⟨nn, e⟩ := X.lst
    exact ⟨nn, hs _ e (Z.ne N e)⟩
  · intro i r hr
    obtain ⟨v, e1, x, d, ff, t, uu, rfl, m1, m2⟩ := X.row i r hr
    refine ⟨_, e1, x, d, ff, t, uu, rfl, hs _ m1 (inst _ _ _ m1), hs _ m2 (Z.ne_dict N m2 (no_xml _ ?_) hx)⟩
    intro q hq
    simp only [List.mem_cons, List.not_mem_nil, or_false] at hq
    rcases hq with rfl | rfl | rfl | rfl | rfl | rfl | rfl | rfl | rfl <;> rfl
  · intro r hr E hE
    obtain ⟨ys, k, a, b, c⟩ := X.sub r hr E hE
    exact ⟨ys, k, hs _ a (Z.ne N a), b, c⟩
end
end
section
/-- the ledger of _law_grown: the tree, the open scope, the source, and what stays as it is -/
structure GB (prog : Program) (w : World) (src Tr dt R Dn : Addr) (FX : List (Addr × Obj)) (vs : List Value) (rows : List NRow) (S : Addr → List Int) (f : Str → Option Str) (n : Nat) (nw : List (Addr × Obj)) : Prop where
  TX : TreeIs nw Tr dt R vs rows S
  Z : ScopeD prog w nw Dn f n
  xm : f (Str.ofString "xml") = some XML
  SZ : SrcIs nw src
  fx : ∀ p ∈ FX, p ∈ nw
  ax : ∀ p ∈ FX, p.1 ≠ src ∧ p.1 ≠ Dn ∧ p.1 ≠ R ∧ ∀ q ∈ rows, ∀ D ∈ [q.c, q.a, q.n], D ≠ p.1
  hs : R ≠ src ∧ ∀ q ∈ rows, ∀ D ∈ [q.c, q.a, q.n], D ≠ src
section
variable {prog : Program} {w : World} {h₀ h : Heap} {L src Tr dt R Dn : Addr} {FX : List (Addr × Obj)} {vs : List Value} {rows : List NRow} {S : Addr → List Int} {f : Str → Option Str} {n : Nat} {n1 n2 : List (Addr × Obj)}
theorem GB.mono (up : ∀ p ∈ n1, p ∈ n2) (X : GB prog w src Tr dt R Dn FX vs rows S f n n1) : GB prog w src Tr dt R Dn FX vs rows S f n n2 :=
  ⟨X.TX.mono up, X.Z.mono (fun o ho => up _ ho), X.xm, X.SZ.mono (fun o ho => up _ ho), fun p hp => up p (X.fx p hp), X.ax, X.hs⟩
theorem TreeIs.srcs (N : News h₀ L h n1) (hs : ∀ p ∈ n1, p.1 ≠ src → p ∈ n2) (SZ : SrcIs n1 src) (hR : R ≠ src) (hsub : ∀ q ∈ rows, ∀ D ∈ [q.c, q.a, q.n], D ≠ src) (X : TreeIs n1 Tr dt R vs rows S) : TreeIs n2 Tr dt R vs rows S := by
  obtain ⟨a, b, ta, tb, sn, hsm, -⟩ := SZ.ex
  have up : ∀ p ∈ n1, (∀ vs n, p.2.data ≠ .seq vs n) → p ∈ n2 := fun p hp hd => hs p hp fun q => by
    obtain ⟨x, o⟩ := p
    dsimp only at q hd
    subst q
    exact hd _ _ (congrArg Obj.data (Option.some.inj ((N.get hp).symm.trans (N.get hsm))))
  refine ⟨up _ X.inst (fun _ _ q => by cases q), ?_, ?_, X.len, X.small, ?_, ?_, X.nd⟩
  · obtain ⟨h, tk, e⟩ := X.dict
    exact ⟨h, tk, up _ e (fun _ _ q => by cases q)⟩
  · obtain ⟨nn, e⟩ := X.lst
    exact ⟨nn, hs _ e hR⟩
  · intro j q hq
    obtain ⟨v, e1, x, d, f, t, u, rfl, m1, m2⟩ := X.row j q hq
    exact ⟨_, e1, x, d, f, t, u, rfl, up _ m1 (fun _ _ q => by cases q), up _ m2 (fun _ _ q => by cases q)⟩
  · intro q hq D hD
    obtain ⟨ys, k, a, b, c⟩ := X.sub q hq D hD
    exact ⟨ys, k, hs _ a (hsub q hq D hD), b, c⟩
theorem GB.srcs (N : News h₀ L h n1) (up : ∀ p ∈ n1, p.1 ≠ src → p ∈ n2) (SZ2 : SrcIs n2 src) (X : GB prog w src Tr dt R Dn FX vs rows S f n n1) : GB prog w src Tr dt R Dn FX vs rows S f n n2 := by
  obtain ⟨a, b, ta, tb, sn, hsm, -⟩ := X.SZ.ex
  exact ⟨X.TX.srcs N up X.SZ X.hs.1 X.hs.2, X.Z.mono (fun o ho => up _ ho (Ne.symm (X.Z.ne N hsm))), X.xm, SZ2, fun p hp => up p (X.fx p hp) (X.ax p hp).1, X.ax, X.hs⟩
theorem GB.tree {c b m : Addr} {x : NRow} {vs2 : List Value} {S2 : Addr → List Int} {D9 : Addr} {r : NRow} (hx : x.c = c ∧ x.a = b ∧ x.n = m) (N : News h₀ L h n1) (TX2 : TreeIs n2 Tr dt R vs2 (rows ++ [x]) S2) (hr : r ∈ rows) (hD : D9 ∈ [r.c, r.a, r.n]) (up : ∀ p ∈ n1, p.1 ≠ R → p.1 ≠ D9 → p ∈ n2) (hf : ∀ p ∈ n1, p.1 < c ∧ p.1 < b ∧ p.1 < m)
    (X : GB prog w src Tr dt R Dn FX vs rows S f n n1) : GB prog w src Tr dt R Dn FX vs2 (rows ++ [x]) S2 f n n2 := by
  obtain ⟨nR, hR⟩ := X.TX.lst
  obtain ⟨ys, k, hy, -⟩ := X.TX.sub r hr D9 hD
  obtain ⟨a0, b0, ta, tb, sn, hsm, -⟩ := X.SZ.ex
  have key : ∀ p ∈ n1, (∀ q ∈ rows, ∀ D ∈ [q.c, q.a, q.n], D ≠ p.1) → ∀ q ∈ rows ++ [x], ∀ D ∈ [q.c, q.a, q.n], D ≠ p.1 := fun p hp h q hq D hD => by
    rcases List.mem_append.mp hq with hq | hq
    · exact h q hq D hD
    · obtain rfl := List.mem_singleton.mp hq
      obtain ⟨z1, z2, z3⟩ := hf p hp
      obtain ⟨e1, e2, e3⟩ := hx
      rw [e1, e2, e3] at hD
      simp only [List.mem_cons, List.not_mem_nil, or_false] at hD
      rcases hD with rfl | rfl | rfl
      · exact Ne.symm (Nat.ne_of_lt z1)
      · exact Ne.symm (Nat.ne_of_lt z2)
      · exact Ne.symm (Nat.ne_of_lt z3)
  refine ⟨TX2, X.Z.mono (fun o ho => up _ ho (Ne.symm (X.Z.ne N hR)) (Ne.symm (X.Z.ne N hy))), X.xm, X.SZ.mono (fun o ho => up _ ho (Ne.symm X.hs.1) (Ne.symm (X.hs.2 r hr D9 hD))), fun p hp => ?_, fun p hp => ?_, X.hs.1, key _ hsm X.hs.2⟩
  · obtain ⟨_, _, z1, z2⟩ := X.ax p hp
    exact up p (X.fx p hp) z1 (Ne.symm (z2 r hr D9 hD))
  · obtain ⟨z0, z1, z2, z3⟩ := X.ax p hp
    exact ⟨z0, z1, z2, key p (X.fx p hp) z3⟩
theorem GB.dict {f2 : Str → Option Str} {m : Nat} (N : News h₀ L h n1) (up : ∀ p ∈ n1, p.1 ≠ Dn → p ∈ n2) (Z2 : ScopeD prog w n2 Dn f2 m) (xm2 : f2 (Str.ofString "xml") = some XML) (X : GB prog w src Tr dt R Dn FX vs rows S f n n1) : GB prog w src Tr dt R Dn FX vs rows S f2 m n2 := by
  obtain ⟨a, b, ta, tb, sn, hsm, -⟩ := X.SZ.ex
  exact ⟨X.TX.scope N up X.Z X.xm, Z2, xm2, X.SZ.mono (fun o ho => up _ ho (X.Z.ne N hsm)), fun p hp => up p (X.fx p hp) (X.ax p hp).2.1, X.ax, X.hs⟩
theorem GB.own {I : Addr} {it : Obj} {cn : String} (N : News h₀ L h n1) (hI : (I, it) ∈ n1) (hc : it.cls = .type cn) (h1 : cn ≠ "dict") (h2 : cn ≠ "list") (hfx : ∀ p ∈ FX, p.1 ≠ I) (X : GB prog w src Tr dt R Dn FX vs rows S f n n1) : GB prog w src Tr dt R Dn FX vs rows S f n (n1.filter fun p => p.1 != I) := by
  have hs := own_filter N hI hc h1 h2
  exact ⟨X.TX.own hs, ⟨X.Z.lo, by obtain ⟨o, kvs, DD, a, b, c⟩ := X.Z.ex; exact ⟨o, kvs, DD, hs _ a (.inr (.inl (by obtain ⟨es, ep, hx, -⟩ := b; exact hx.1))), b, c⟩⟩, X.xm, by obtain ⟨a, b, ta, tb, n, e, r⟩ := X.SZ.ex; exact ⟨a, b, ta, tb, n, hs _ e (.inr (.inr rfl)), r⟩,
    fun p hp => List.mem_filter.mpr ⟨X.fx p hp, by simpa using hfx p hp⟩, X.ax, X.hs⟩
theorem GB.copy {D' : Addr} {o' : Obj} (hl : ∀ p ∈ n1, p.1 < D') (Z2 : ScopeD prog w ((D', o') :: n1) D' f n) (X : GB prog w src Tr dt R Dn FX vs rows S f n n1) : GB prog w src Tr dt R D' FX vs rows S f n ((D', o') :: n1) := by
  have up : ∀ p ∈ n1, p ∈ (D', o') :: n1 := fun p hp => List.mem_cons_of_mem _ hp
  exact ⟨X.TX.mono up, Z2, X.xm, X.SZ.mono (fun o ho => up _ ho), fun p hp => up p (X.fx p hp), fun p hp => ⟨(X.ax p hp).1, Nat.ne_of_lt (hl p (X.fx p hp)), (X.ax p hp).2.2⟩, X.hs⟩
theorem GB.fix {FX2 : List (Addr × Obj)} (h1 : ∀ p ∈ FX2, p ∈ n1) (h2 : ∀ p ∈ FX2, p.1 ≠ src ∧ p.1 ≠ Dn ∧ p.1 ≠ R ∧ ∀ q ∈ rows, ∀ D ∈ [q.c, q.a, q.n], D ≠ p.1) (X : GB prog w src Tr dt R Dn FX vs rows S f n n1) : GB prog w src Tr dt R Dn FX2 vs rows S f n n1 := ⟨X.TX, X.Z, X.xm, X.SZ, h1, h2, X.hs⟩
end
end
section
theorem grown_upd (prog : Program) (w : World) {oc9 : Value} {od : Option Addr} {name qual : Str} {params : Arguments} {s1 s2 s4 b1 b2 b4 b5 c1 c2 c3 c4 : Stmt} {t1 t2 i1 i2 te : Expr} {p1 p2 p3 : Pos} {scope : Scope} {dV kV doc pm9 cdv ct9 : Value} {an : Option Addr} {osl : Array (Option Value)}
  (hb : (hd.heap_39 w.params).lookup 481 = some ⟨oc9, od, .func (fnOf name qual params [s1, s2, .For t1 i1 [b1, b2, .For t2 i2 [.If te [c1, c2, c3, c4] [] p3] [] p2, b4, b5] [] p1, s4] scope dV kV doc pm9 an cdv ct9), osl⟩)
    (p : Program) (loose : List Str) (mean : ExcName → Option Value) (mg mb : Str → Option Value)
    (dp un : Nat) (gd : Option (List Code)) (cn : Str) (cs : Scope) (ad : Addr) (ccd : Value) (cl : List (Str × Addr)) (outer : List Env) (base g : Heap) (L Lq : Addr) (m : Str → Option Value) (s : Shared)
    (Q : Flow → Shared → Prop) (E : Value → Shared → Prop) (nw : List (Addr × Obj))
    (B : Below (ktrTop dp un gd cn cs L ad ccd cl outer) base (envX cn cs L ad ccd cl :: outer) g) (F : Fr g Lq s.heap m) (X : (hd.heap_39 w.params).In g) (N : News g Lq s.heap nw) (T : Top p loose mean mg mb g) (hdp : dp + 200 < recursionLimit) (hu : un + 9000 < cLine)
    (src Tr dt R Dn : Addr) (FX : List (Addr × Obj)) (vs : List Value) (rows : List NRow) (S : Addr → List Int) (n : Nat) (tp tu : Tok) (px u : Str)
    (f : Str → Option Str) (GX : GB prog w src Tr dt R Dn FX vs rows S f n nw) (hf0 : f px = none) (hn : n ≤ 901) (hpx : px ≠ Str.ofString "xml")
    (m3 : m (Str.ofString "scope") = some (.ref Dn)) (m5 : m (Str.ofString "prefix") = some (.str px tp)) (m6 : m (Str.ofString "uri") = some (.str u tu))
    (k : ∀ h' tk' nw' n', GB prog w src Tr dt R Dn FX vs rows S (sput f px (sval u)) n' nw' → n' ≤ n + 1 → Fr g Lq h' m → News g Lq h' nw' → Q .next { s with heap := h', toks := tk' }) :
    wpAny (model prog w) ((ktrTop dp un gd cn cs L ad ccd cl outer).deeper (envOf qual scope Lq 481 cdv)) (execs [c4] (envOf qual scope Lq 481 cdv)) Q E s := by
  apply bodyB hb
  case hl => k_is
  clear hb; intro _
  (first | (refine env_let (t := fun e => execs _ e) ?_; intro ev Av) | (refine env_let (t := fun e => exec _ e) ?_; intro ev Av))
  have hxm0 : ∀ v, sput f px v (Str.ofString "xml") = some XML := fun v => by rw [sput, if_neg (Ne.symm hpx)]; exact GX.xm
  (repeat ((fail_if_success (k_dflt (with_reducible show wpAny _ _ (getMethod _ _ _) _ _ _))); (first | (k_unfold; (try dsimp only)) | (k_end; wrow_close) | walk1 | (dsimp only; walk1) | fail "no step")))
  k_dflt (refine sc_method PySem.F.slot_dict_update PySem.F.type_dict_update (by k_asm) GX.Z ?_)
  iterate 9 (first | (k_unfold; (try dsimp only)) | (k_end; wrow_close) | walk1 | (dsimp only; walk1) | fail "no step")
  · k_dflt (refine' kdn_eval (knd := PySem.strKind _ _) ?F ?N ?b ?a ?l ?e ?n ?_; (case F => k_asm); (case N => k_asm); (case b => exact Top.nolimit (by k_asm)); (case a => rfl); (case l => rfl); (case e => exact List.cons_ne_nil _ _); (case n => exact Nat.le_of_ble_eq_true rfl))
    intro d9 hp9 o9 F9 N9 l9 lo9 hd9
    have l9' : ∀ p ∈ nw, p.1 ≠ d9 := fun p hp => Nat.ne_of_lt (l9 p hp)
    iterate 6 (first | (k_unfold; (try dsimp only)) | (k_end; wrow_close) | walk1 | (dsimp only; walk1) | fail "no step")
    with_reducible rename Obj.IsDictOf _ _ _ => kD
    with_reducible rename PyProof.V.FlatPairs _ _ _ => kFl
    with_reducible rename (u != _) = true => ha
    rename News _ _ _ _ => kN
    rename_i hx8 ox8 Fx8
    have e : sval u = some u := if_neg (by simpa using ha)
    rw [e] at k
    have T2 : TabAt (PySem.strKind prog w) PyData.str _ d9 [(.str px, .str u)] := ⟨lo9, _, Heap.dictOf_iff.mpr ⟨_, kN.get List.mem_cons_self, kD⟩, kFl⟩
    have GM := GX.mono (n2 := (d9, ox8) :: nw) (fun p hp => List.mem_cons_of_mem _ hp)
    k_dflt (refine sc_update (k := px) (u := u) (by k_asm) kN GM.Z (by omega) (Nat.ne_of_lt (GX.Z.dlt l9)) T2 ?_)
    intro h8 o8 rest8 F8 N8 hne8 hup8 Z8
    have GD := GM.dict kN (fun p hp hq => List.mem_cons_of_mem (Dn, o8) (hup8 p hp hq)) Z8 (hxm0 _)
    clear kN
    (repeat' (first | (k_unfold; (try dsimp only)) | (k_end; wrow_close) | walk1 | (dsimp only; walk1) | fail "no step"))
    rename News _ _ _ _ => kN; rename Fr _ _ _ _ => kF
    exact k _ _ _ _ GD (Nat.le_refl _) kF kN
  · iterate 2 (first | (k_unfold; (try dsimp only)) | (k_end; wrow_close) | walk1 | (dsimp only; walk1) | fail "no step")
    rename_i d9 hp9 o9 F9 kN l9 lo9 kD kFl hi9 fi9
    with_reducible rename (u != _) = false => ha
    have e : sval u = none := if_pos (by simpa using ha)
    rw [e, sput_same hf0] at k
    have T2 : TabAt (PySem.strKind prog w) PyData.str _ d9 [] := ⟨lo9, _, Heap.dictOf_iff.mpr ⟨_, kN.get List.mem_cons_self, kD⟩, kFl⟩
    have GM := GX.mono (n2 := (d9, o9) :: nw) (fun p hp => List.mem_cons_of_mem _ hp)
    k_dflt (refine sc_update0 (by k_asm) kN GM.Z (by omega) (Nat.ne_of_lt (GX.Z.dlt l9)) T2 ?_)
    intro h8 o8 rest8 F8 N8 hne8 hup8 Z8
    have GD := GM.dict kN (fun p hp hq => List.mem_cons_of_mem (Dn, o8) (hup8 p hp hq)) Z8 GX.xm
    clear kN
    (repeat' (first | (k_unfold; (try dsimp only)) | (k_end; wrow_close) | walk1 | (dsimp only; walk1) | fail "no step"))
    rename News _ _ _ _ => kN; rename Fr _ _ _ _ => kF
    exact k _ _ _ _ GD (Nat.le_succ _) kF kN
end
section
theorem grown_tail (prog : Program) (w : World) {oc9 : Value} {od : Option Addr} {name qual : Str} {params : Arguments} {s1 s2 s4 b1 b2 b4 b5 c1 c2 c3 c4 : Stmt} {t1 t2 i1 i2 te : Expr} {p1 p2 p3 : Pos} {scope : Scope} {dV kV doc pm9 cdv ct9 : Value} {an : Option Addr} {osl : Array (Option Value)}
  (hb : (hd.heap_39 w.params).lookup 481 = some ⟨oc9, od, .func (fnOf name qual params [s1, s2, .For t1 i1 [b1, b2, .For t2 i2 [.If te [c1, c2, c3, c4] [] p3] [] p2, b4, b5] [] p1, s4] scope dV kV doc pm9 an cdv ct9), osl⟩)
    (p : Program) (loose : List Str) (mean : ExcName → Option Value) (mg mb : Str → Option Value)
    (dp un : Nat) (gd : Option (List Code)) (cn : Str) (cs : Scope) (ad : Addr) (ccd : Value) (cl : List (Str × Addr)) (outer : List Env) (base g : Heap) (L Lq : Addr) (m : Str → Option Value) (s : Shared)
    (Q : Flow → Shared → Prop) (E : Value → Shared → Prop) (nw : List (Addr × Obj))
    (B : Below (ktrTop dp un gd cn cs L ad ccd cl outer) base (envX cn cs L ad ccd cl :: outer) g) (F : Fr g Lq s.heap m) (X : (hd.heap_39 w.params).In g) (N : News g Lq s.heap nw) (T : Top p loose mean mg mb g) (hdp : dp + 200 < recursionLimit) (hu : un + 9000 < cLine)
    (src Tr dt R Dn : Addr) (FX : List (Addr × Obj)) (vs : List Value) (rows : List NRow) (S : Addr → List Int) (a : Nat) (l : List Nat) (r : NRow) (n : Nat) (ta tp tu : Tok) (px u : Str)
    (f : Str → Option Str) (GX : GB prog w src Tr dt R Dn FX vs rows S f n nw) (hf : f = scopeF rows S l) (G : GT rows S a l) (hr : rows[a]? = some r) (hkd : r.kind = Str.ofString "element") (hlen : rows.length < 50) (hn : n ≤ 900)
    (hfr : ∀ j ∈ S r.n, ∃ (k : Nat) (q : NRow), j = (k : Int) ∧ rows[k]? = some q ∧ q.name ≠ px) (hpl : px.length ≤ 100) (hpx : px ≠ Str.ofString "xml") (hul : u.length ≤ 100 ∧ PyData.strOk u = true)
    (m1 : m (Str.ofString "tree") = some (.ref Tr)) (m2 : m (Str.ofString "above") = some (.int (a : Int) ta)) (m3 : m (Str.ofString "scope") = some (.ref Dn)) (m5 : m (Str.ofString "prefix") = some (.str px tp)) (m6 : m (Str.ofString "uri") = some (.str u tu))
    (k : ∀ h' tk' nw' vs' rows' S' n' f', f' = scopeF rows' S' l → GB prog w src Tr dt R Dn FX vs' rows' S' f' n' nw' → GT rows' S' a l → rows'[a]? = some r → rows'.length ≤ rows.length + 1 → n' ≤ n + 1 →
      (∀ j ∈ S' r.n, ∃ (k : Nat) (q : NRow), j = (k : Int) ∧ rows'[k]? = some q ∧ (q.name = px ∨ ∃ j0 ∈ S r.n, ∃ k0 : Nat, j0 = (k0 : Int) ∧ rows[k0]? = some q)) → Fr g Lq h' m → News g Lq h' nw' → Q .next { s with heap := h', toks := tk' }) :
    wpAny (model prog w) ((ktrTop dp un gd cn cs L ad ccd cl outer).deeper (envOf qual scope Lq 481 cdv)) (execs [c2, c3, c4] (envOf qual scope Lq 481 cdv)) Q E s := by
  apply bodyB hb
  case hl => k_is
  clear hb; intro hb
  (first | (refine env_let (t := fun e => execs _ e) ?_; intro ev Av) | (refine env_let (t := fun e => exec _ e) ?_; intro ev Av))
  have g1 := GX.TX.inst
  obtain ⟨hh, tk9, g2⟩ := GX.TX.dict
  have hrm := List.mem_of_getElem? hr
  have hnd := GX.TX.nd
  (repeat ((fail_if_success (k_dflt (show wpAny _ _ (call (.ref 355) _) _ _ _))); (first | (k_unfold; (try dsimp only)) | (k_end; wrow_close) | walk1 | (dsimp only; walk1) | fail "no step"))); (try dsimp only [List.nil_append, List.cons_append])
  k_dflt (show wpAny _ _ (call (.ref 355) [.ref Tr, .int (a : Int) ta, .str px tp, .str u tu]) _ _ _)
  (k_dflt (refine' con_use (add_namespace_con _ _ _ Tr dt R vs rows S GX.TX (Nat.lt_trans hlen (by decide)) a _ r hr hkd px u _ _ (Nat.lt_of_le_of_lt (G.ln r hrm r.n (by simp)) (Nat.lt_trans hlen (by decide))) hfr) ?uB ?uF ?uX ?uN ?uT ?uk ?ud ?uu ?_; (case uB => k_asm); (case uF => k_asm); (case uX => k_asm); (case uN => k_asm);  (case uT => k_asm); (case uk => first | exact rfl | assumption); (case ud => ktr_room); (case uu => ktr_units)); rintro r9 news9 h9 tk9 F9 N9 ⟨c9, a9, n9, x9, ⟨t9, rfl⟩, TX9, hs9, fr9⟩; (try dsimp only))
  have hnd9 := (List.nodup_cons.mp TX9.nd).2
  have hcb := nd_three hnd9 (List.mem_append_right rows (List.mem_singleton_self _))
  have GX9 := GX.tree ⟨rfl, rfl, rfl⟩ N TX9 hrm (by simp) hs9 fr9
  obtain ⟨G9, hsc9⟩ := G.ns_add GX.TX fr9 hcb hr px u hpl hpx hul (some a)
  (repeat ((fail_if_success (k_dflt (with_reducible show wpAny _ _ (getMethod _ _ _) _ _ _))); (first | (k_unfold; (try dsimp only)) | (k_end; wrow_close) | walk1 | (dsimp only; walk1) | fail "no step")))
  k_dflt (refine sc_method PySem.F.slot_dict_pop PySem.F.type_dict_pop (by k_asm) GX9.Z ?_)
  (repeat ((fail_if_success (k_dflt (with_reducible show wpAny _ _ (call (.builtin _) _) _ _ _))); (first | (k_unfold; (try dsimp only)) | (k_end; wrow_close) | walk1 | (dsimp only; walk1) | fail "no step")))
  have hjs : ∀ j ∈ S1 (S3 S c9 a9 n9) r.n rows.length r.n, ∃ (k : Nat) (q : NRow), j = (k : Int) ∧ (rows ++ [⟨Str.ofString "namespace", px, Str.ofString "", px, u, some a, c9, a9, n9⟩])[k]? = some q ∧ (q.name = px ∨ ∃ j0 ∈ S r.n, ∃ k0 : Nat, j0 = (k0 : Int) ∧ rows[k0]? = some q) := by
    intro j hj
    obtain ⟨y1, y2, y3⟩ := fresh_lists GX.TX fr9 r hrm r.n (by simp)
    have e : S1 (S3 S c9 a9 n9) r.n rows.length r.n = S r.n ++ [(rows.length : Int)] := by simp [S1, S3, y1, y2, y3]
    rw [e] at hj
    rcases List.mem_append.mp hj with hj | hj
    · obtain ⟨k0, q, rfl, hq⟩ := G.ns r hrm j hj
      exact ⟨k0, q, rfl, get_app hq _, .inr ⟨_, hj, k0, rfl, hq⟩⟩
    · obtain rfl := List.mem_singleton.mp hj
      exact ⟨rows.length, _, rfl, by rw [List.getElem?_append_right (Nat.le_refl _), Nat.sub_self]; rfl, .inl rfl⟩
  have hxm0 : sput f px none (Str.ofString "xml") = some XML := by rw [sput, if_neg (Ne.symm hpx)]; exact GX.xm
  have hn0 : sput f px none px = none := by simp [sput]
  have hfin : ∀ n' nw', n' ≤ n + 1 → GB prog w src Tr dt R Dn FX (vs ++ [x9]) (rows ++ [⟨Str.ofString "namespace", px, Str.ofString "", px, u, some a, c9, a9, n9⟩]) (S1 (S3 S c9 a9 n9) r.n rows.length) (sput (sput f px none) px (sval u)) n' nw' → ∀ h' tk', Fr g Lq h' m → News g Lq h' nw' → Q .next { s with heap := h', toks := tk' } := by
    intro n' nw' hn' GG h' tk' F' N'
    refine k h' tk' nw' _ _ _ n' _ ?_ GG G9 (get_app hr _) (by rw [List.length_append]; exact Nat.le_refl _) hn' hjs F' N'
    rw [hsc9, ← hf]
    funext z
    simp only [sput]
    split <;> rfl
  cases hcase : f px with
  | none =>
    k_dflt (refine sc_pop0 (by k_asm) GX9.Z hcase (PySem.F.args_dict_pop_3 _ _ _) ?_)
    have GP := GX9
    rw [← sput_same hcase] at GP
    (repeat ((fail_if_success (k_dflt (with_reducible show wpAny _ _ (execs [_] _) _ _ _))); (first | (k_unfold; (try dsimp only)) | (k_end; wrow_close) | walk1 | (dsimp only; walk1) | fail "no step")))
    rename News _ _ _ _ => kN; rename Fr _ _ _ _ => kF
    refine grown_upd prog w hb p loose mean mg mb dp un gd cn cs ad ccd cl outer base g L Lq m _ Q E _ B kF X kN T hdp hu src Tr dt R Dn FX _ _ _ n tp tu px u _ GP hn0 (by omega) hpx m3 m5 m6 ?_
    intro h7 tk7 nw7 n7 G7 hn7 F7 N7
    exact hfin n7 nw7 hn7 G7 _ _ F7 N7
  | some u8 =>
    k_dflt (refine sc_pop (more := [_]) (.inr ⟨_, rfl⟩) (PySem.F.args_dict_pop_3 _ _ _) (by k_asm) (by k_asm) GX9.Z (by omega) hcase ?_)
    intro h8 o8 rest8 tu8 F8 N8 hne8 hup8 Z8
    have GP := GX9.dict ‹News g Lq _ news9› (fun p hp hq => List.mem_cons_of_mem (Dn, o8) (hup8 p hp hq)) Z8 hxm0
    (repeat ((fail_if_success (k_dflt (with_reducible show wpAny _ _ (execs [_] _) _ _ _))); (first | (k_unfold; (try dsimp only)) | (k_end; wrow_close) | walk1 | (dsimp only; walk1) | fail "no step")))
    rename News _ _ _ _ => kN; rename Fr _ _ _ _ => kF
    refine grown_upd prog w hb p loose mean mg mb dp un gd cn cs ad ccd cl outer base g L Lq m _ Q E _ B kF X kN T hdp hu src Tr dt R Dn FX _ _ _ n tp tu px u _ GP hn0 (by omega) hpx m3 m5 m6 ?_
    intro h7 tk7 nw7 n7 G7 hn7 F7 N7
    exact hfin n7 nw7 hn7 G7 _ _ F7 N7
end
section
theorem news_drop4 {h₀ h : Heap} {L : Addr} {a b c d : Addr × Obj} {l : List (Addr × Obj)} (N : News h₀ L h (a :: b :: c :: d :: l)) : News h₀ L h (a :: l) := fun p hp => by
  rcases List.mem_cons.mp hp with rfl | hp
  · exact N _ List.mem_cons_self
  · exact N _ (List.mem_cons_of_mem _ (List.mem_cons_of_mem _ (List.mem_cons_of_mem _ (List.mem_cons_of_mem _ hp))))
theorem grown_inner (prog : Program) (w : World) {oc9 : Value} {od : Option Addr} {name qual : Str} {params : Arguments} {s1 s2 s4 b1 b2 b4 b5 : Stmt} {t1 t2 i1 i2 : Expr} {body2 : List Stmt} {p1 p2 : Pos} {scope : Scope} {dV kV doc pm9 cdv ct9 : Value} {an : Option Addr} {osl : Array (Option Value)}
  (hb : (hd.heap_39 w.params).lookup 481 = some ⟨oc9, od, .func (fnOf name qual params [s1, s2, .For t1 i1 [b1, b2, .For t2 i2 body2 [] p2, b4, b5] [] p1, s4] scope dV kV doc pm9 an cdv ct9), osl⟩)
    (p : Program) (loose : List Str) (mean : ExcName → Option Value) (mg mb : Str → Option Value)
    (dp un : Nat) (gd : Option (List Code)) (cn : Str) (cs : Scope) (ad : Addr) (ccd : Value) (cl : List (Str × Addr)) (outer : List Env) (base g : Heap) (L Lq : Addr) (m : Str → Option Value) (s : Shared)
    (Q : Flow → Shared → Prop) (E : Value → Shared → Prop) (nw : List (Addr × Obj))
    (B : Below (ktrTop dp un gd cn cs L ad ccd cl outer) base (envX cn cs L ad ccd cl :: outer) g) (F : Fr g Lq s.heap m) (X : (hd.heap_39 w.params).In g) (N : News g Lq s.heap nw) (T : Top p loose mean mg mb g) (hdp : dp + 200 < recursionLimit) (hu : un + 9000 < cLine)
    (src Tr dt R Dn : Addr) (FX : List (Addr × Obj)) (vs : List Value) (rows : List NRow) (S : Addr → List Int) (a : Nat) (l : List Nat) (r : NRow) (n : Nat) (ta tp : Tok) (px : Str)
    (GX : GB prog w src Tr dt R Dn FX vs rows S (scopeF rows S l) n nw) (G : GT rows S a l) (hr : rows[a]? = some r) (hkd : r.kind = Str.ofString "element") (hlen : rows.length < 50) (hn : n ≤ 900)
    (hfr : ∀ j ∈ S r.n, ∃ (k : Nat) (q : NRow), j = (k : Int) ∧ rows[k]? = some q ∧ q.name ≠ px) (hpx : px = Str.ofString "" ∨ px = Str.ofString "p" ∨ px = Str.ofString "q")
    (m1 : m (Str.ofString "tree") = some (.ref Tr)) (m2 : m (Str.ofString "above") = some (.int (a : Int) ta)) (m3 : m (Str.ofString "scope") = some (.ref Dn)) (m4 : m (Str.ofString "source") = some (.ref src)) (m5 : m (Str.ofString "prefix") = some (.str px tp))
    (k : ∀ h' tk' nw' vs' rows' S' n' m', (∀ y, y ≠ Str.ofString "uri" → m' y = m y) → GB prog w src Tr dt R Dn FX vs' rows' S' (scopeF rows' S' l) n' nw' → GT rows' S' a l → rows'[a]? = some r → rows'.length ≤ rows.length + 1 → n' ≤ n + 1 →
      (∀ j ∈ S' r.n, ∃ (k : Nat) (q : NRow), j = (k : Int) ∧ rows'[k]? = some q ∧ (q.name = px ∨ ∃ j0 ∈ S r.n, ∃ k0 : Nat, j0 = (k0 : Int) ∧ rows[k0]? = some q)) → Fr g Lq h' m' → News g Lq h' nw' → Q .next { s with heap := h', toks := tk' }) :
    wpAny (model prog w) ((ktrTop dp un gd cn cs L ad ccd cl outer).deeper (envOf qual scope Lq 481 cdv)) (execs body2 (envOf qual scope Lq 481 cdv)) Q E s := by
  apply bodyA hb
  case hl => k_is
  clear hb; intro hb
  (first | (refine env_let (t := fun e => execs _ e) ?_; intro ev Av) | (refine env_let (t := fun e => exec _ e) ?_; intro ev Av))
  have hxml := GX.xm
  (repeat ((fail_if_success (k_dflt (show wpAny _ _ (call (.ref 467) _) _ _ _))); (first | (k_unfold; (try dsimp only)) | (k_end; wrow_close) | walk1 | (dsimp only; walk1) | fail "no step"))); (try dsimp only [List.nil_append, List.cons_append])
  k_dflt (show wpAny _ _ (call (.ref 467) [.ref src, .int 2 _]) _ _ _)
  (k_dflt (refine' con_use (take_src _ _ _ src GX.SZ 2 _ (by decide) (by decide)) ?uB ?uF ?uX ?uN ?uT ?uk ?ud ?uu ?_; (case uB => k_asm); (case uF => k_asm); (case uX => k_asm); (case uN => k_asm);  (case uT => k_asm); (case uk => first | exact rfl | assumption); (case ud => ktr_room); (case uu => ktr_units)); rintro r9 news9 h9 tk9 F9 N9 ⟨x, tx, rfl, hx0, hx1, SZ1, hs1⟩; (try dsimp only))
  have G1 := GX.srcs N hs1 SZ1
  iterate 6 (first | (k_unfold; (try dsimp only)) | (k_end; wrow_close) | walk1 | (dsimp only; walk1) | fail "no step")
  · rcases hpx with rfl | rfl | rfl
    · (repeat ((fail_if_success (k_dflt (with_reducible show wpAny _ _ (callWith _ (.ref _) _ _ _) _ _ _))); (first | (k_unfold; (try dsimp only)) | (k_end; wrow_close) | walk1 | (dsimp only; walk1) | fail "no step")))
      k_dflt (refine' callWith_K ?k1 ?k2 ?_; (case k1 => k_asm); (case k2 => k_is); k_whole)
      iterate 26 (first | (k_unfold; (try dsimp only)) | (k_end; wrow_close) | walk1 | (dsimp only; walk1) | fail "no step")
      rw [show (Str.ofString "" == Str.ofString "") = true from by decide +kernel]
      iterate 1 (first | (k_unfold; (try dsimp only)) | (k_end; wrow_close) | walk1 | (dsimp only; walk1) | fail "no step")
      rw [show (if true = true then (1 : Int) else 0) = 1 from rfl]
      rename News _ _ _ _ => kN
      k_dflt (refine' PySem.W.KMa.mul (vs := [_]) (ws := [_]) (by k_asm) kN (ls_is kN List.mem_cons_self) (by decide) (by decide) (by simp only [List.length_cons, List.length_nil]; decide) rfl ?_)
      intro D3 h3 F3 N3 l3
      k_dflt (refine' kmk_add_lit (zs := [.str (Str.ofString "u:1") _, .str (Str.ofString "u:2") _, .str (Str.ofString "") _]) (by k_asm) N3 (ls_is N3 (List.mem_cons_of_mem _ (List.mem_cons_of_mem _ List.mem_cons_self))) (ls_is N3 List.mem_cons_self) rfl ?_ ?z; (case z => show (3 : Nat) ≤ sizeLine; rw [sizeLine_eq]; decide))
      intro D4 h4 F4 N4 l4
      have N5 := news_drop4 N4
      have l5 := fun p hp => l4 p (List.mem_cons_of_mem _ (List.mem_cons_of_mem _ (List.mem_cons_of_mem _ hp)))
      have GMf := fun q => G1.mono (n2 := q :: news9) (fun p hp => List.mem_cons_of_mem _ hp)
      have lt4 := SZ1.lt l5
      clear kN N3 N4 l4
      (repeat ((fail_if_success (k_dflt (show wpAny _ _ (call (.ref 474) _) _ _ _))); (first | (k_unfold; (try dsimp only)) | (k_end; wrow_close) | walk1 | (dsimp only; walk1) | fail "no step"))); (try dsimp only [List.nil_append, List.cons_append])
      (k_dflt (refine' con_use (one_con _ _ _ src (GMf (_, _)).SZ D4 [.str (Str.ofString "u:1") _, .str (Str.ofString "u:2") _, .str (Str.ofString "") _] 0 List.mem_cons_self (Ne.symm (Nat.ne_of_lt lt4)) (by simp) (by simp) (by intro v hv; simp only [List.mem_cons, List.not_mem_nil, or_false] at hv; rcases hv with rfl | rfl | rfl <;> rfl)) ?uB ?uF ?uX ?uN ?uT ?uk ?ud ?uu ?_; (case uB => k_asm); (case uF => k_asm); (case uX => k_asm); (case uN => k_asm);  (case uT => k_asm); (case uk => first | exact rfl | assumption); (case ud => ktr_room); (case uu => ktr_units)); rintro r9 news9 h9 tk9 F9 N9 ⟨hv, SZ9, hs9⟩; (try dsimp only))
      have G9 := (GMf _).srcs N5 hs9 SZ9
      obtain ⟨u, tu, rfl, hul⟩ : ∃ u tu, r9 = .str u tu ∧ u.length ≤ 100 ∧ PyData.strOk u = true := by
        simp only [List.mem_cons, List.not_mem_nil, or_false] at hv
        rcases hv with rfl | rfl | rfl <;> exact ⟨_, _, rfl, by decide +kernel, by decide +kernel⟩
      (repeat ((fail_if_success (k_dflt (with_reducible show wpAny _ _ (execs [_, _, _] _) _ _ _))); (first | (k_unfold; (try dsimp only)) | (k_end; wrow_close) | walk1 | (dsimp only; walk1) | fail "no step")))
      rename News _ _ _ _ => kN; rename Fr _ _ _ _ => kF
      k_dflt (refine grown_tail prog w hb p loose mean mg mb dp un gd cn cs ad ccd cl outer base g L Lq (fun y => if y = Str.ofString "uri" then some (.str u tu) else m y) _ _ E _ B kF X kN T hdp hu src Tr dt R Dn FX vs rows S a l r n ta tp tu _ u _ G9 rfl G hr hkd hlen hn hfr (by decide +kernel) (by decide +kernel) hul (by exact m1) (by exact m2) (by exact m3) (by exact m5) rfl ?_)
      intro h7 tk7 nw7 vs7 rows7 S7 n7 f7 hf7 GG7 GT7 hr7 hl7 hn7 hj7 kF8 kN8
      subst hf7
      (repeat' (first | (k_unfold; (try dsimp only)) | (k_end; wrow_close) | walk1 | (dsimp only; walk1) | fail "no step"))
      rename News _ _ _ _ => kN8; rename Fr _ _ _ _ => kF8
      exact k _ _ nw7 vs7 rows7 S7 n7 _ (fun y hy => if_neg hy) GG7 GT7 hr7 hl7 hn7 hj7 kF8 kN8
    · (repeat ((fail_if_success (k_dflt (with_reducible show wpAny _ _ (callWith _ (.ref _) _ _ _) _ _ _))); (first | (k_unfold; (try dsimp only)) | (k_end; wrow_close) | walk1 | (dsimp only; walk1) | fail "no step")))
      k_dflt (refine' callWith_K ?k1 ?k2 ?_; (case k1 => k_asm); (case k2 => k_is); k_whole)
      iterate 26 (first | (k_unfold; (try dsimp only)) | (k_end; wrow_close) | walk1 | (dsimp only; walk1) | fail "no step")
      rw [show (Str.ofString "p" == Str.ofString "") = false from by decide +kernel]
      iterate 1 (first | (k_unfold; (try dsimp only)) | (k_end; wrow_close) | walk1 | (dsimp only; walk1) | fail "no step")
      rw [show (if false = true then (1 : Int) else 0) = 0 from rfl]
      rename News _ _ _ _ => kN
      k_dflt (refine' PySem.W.KMa.mul (vs := [_]) (ws := []) (by k_asm) kN (ls_is kN List.mem_cons_self) (by decide) (by decide) (by simp only [List.length_cons, List.length_nil]; decide) rfl ?_)
      intro D3 h3 F3 N3 l3
      k_dflt (refine' kmk_add_lit (zs := [.str (Str.ofString "u:1") _, .str (Str.ofString "u:2") _]) (by k_asm) N3 (ls_is N3 (List.mem_cons_of_mem _ (List.mem_cons_of_mem _ List.mem_cons_self))) (ls_is N3 List.mem_cons_self) rfl ?_ ?z; (case z => show (2 : Nat) ≤ sizeLine; rw [sizeLine_eq]; decide))
      intro D4 h4 F4 N4 l4
      have N5 := news_drop4 N4
      have l5 := fun p hp => l4 p (List.mem_cons_of_mem _ (List.mem_cons_of_mem _ (List.mem_cons_of_mem _ hp)))
      have GMf := fun q => G1.mono (n2 := q :: news9) (fun p hp => List.mem_cons_of_mem _ hp)
      have lt4 := SZ1.lt l5
      clear kN N3 N4 l4
      (repeat ((fail_if_success (k_dflt (show wpAny _ _ (call (.ref 474) _) _ _ _))); (first | (k_unfold; (try dsimp only)) | (k_end; wrow_close) | walk1 | (dsimp only; walk1) | fail "no step"))); (try dsimp only [List.nil_append, List.cons_append])
      (k_dflt (refine' con_use (one_con _ _ _ src (GMf (_, _)).SZ D4 [.str (Str.ofString "u:1") _, .str (Str.ofString "u:2") _] 0 List.mem_cons_self (Ne.symm (Nat.ne_of_lt lt4)) (by simp) (by simp) (by intro v hv; simp only [List.mem_cons, List.not_mem_nil, or_false] at hv; rcases hv with rfl | rfl <;> rfl)) ?uB ?uF ?uX ?uN ?uT ?uk ?ud ?uu ?_; (case uB => k_asm); (case uF => k_asm); (case uX => k_asm); (case uN => k_asm);  (case uT => k_asm); (case uk => first | exact rfl | assumption); (case ud => ktr_room); (case uu => ktr_units)); rintro r9 news9 h9 tk9 F9 N9 ⟨hv, SZ9, hs9⟩; (try dsimp only))
      have G9 := (GMf _).srcs N5 hs9 SZ9
      obtain ⟨u, tu, rfl, hul⟩ : ∃ u tu, r9 = .str u tu ∧ u.length ≤ 100 ∧ PyData.strOk u = true := by
        simp only [List.mem_cons, List.not_mem_nil, or_false] at hv
        rcases hv with rfl | rfl <;> exact ⟨_, _, rfl, by decide +kernel, by decide +kernel⟩
      (repeat ((fail_if_success (k_dflt (with_reducible show wpAny _ _ (execs [_, _, _] _) _ _ _))); (first | (k_unfold; (try dsimp only)) | (k_end; wrow_close) | walk1 | (dsimp only; walk1) | fail "no step")))
      rename News _ _ _ _ => kN; rename Fr _ _ _ _ => kF
      k_dflt (refine grown_tail prog w hb p loose mean mg mb dp un gd cn cs ad ccd cl outer base g L Lq (fun y => if y = Str.ofString "uri" then some (.str u tu) else m y) _ _ E _ B kF X kN T hdp hu src Tr dt R Dn FX vs rows S a l r n ta tp tu _ u _ G9 rfl G hr hkd hlen hn hfr (by decide +kernel) (by decide +kernel) hul (by exact m1) (by exact m2) (by exact m3) (by exact m5) rfl ?_)
      intro h7 tk7 nw7 vs7 rows7 S7 n7 f7 hf7 GG7 GT7 hr7 hl7 hn7 hj7 kF8 kN8
      subst hf7
      (repeat' (first | (k_unfold; (try dsimp only)) | (k_end; wrow_close) | walk1 | (dsimp only; walk1) | fail "no step"))
      rename News _ _ _ _ => kN8; rename Fr _ _ _ _ => kF8
      exact k _ _ nw7 vs7 rows7 S7 n7 _ (fun y hy => if_neg hy) GG7 GT7 hr7 hl7 hn7 hj7 kF8 kN8
    · (repeat ((fail_if_success (k_dflt (with_reducible show wpAny _ _ (callWith _ (.ref _) _ _ _) _ _ _))); (first | (k_unfold; (try dsimp only)) | (k_end; wrow_close) | walk1 | (dsimp only; walk1) | fail "no step")))
      k_dflt (refine' callWith_K ?k1 ?k2 ?_; (case k1 => k_asm); (case k2 => k_is); k_whole)
      iterate 26 (first | (k_unfold; (try dsimp only)) | (k_end; wrow_close) | walk1 | (dsimp only; walk1) | fail "no step")
      rw [show (Str.ofString "q" == Str.ofString "") = false from by decide +kernel]
      iterate 1 (first | (k_unfold; (try dsimp only)) | (k_end; wrow_close) | walk1 | (dsimp only; walk1) | fail "no step")
      rw [show (if false = true then (1 : Int) else 0) = 0 from rfl]
      rename News _ _ _ _ => kN
      k_dflt (refine' PySem.W.KMa.mul (vs := [_]) (ws := []) (by k_asm) kN (ls_is kN List.mem_cons_self) (by decide) (by decide) (by simp only [List.length_cons, List.length_nil]; decide) rfl ?_)
      intro D3 h3 F3 N3 l3
      k_dflt (refine' kmk_add_lit (zs := [.str (Str.ofString "u:1") _, .str (Str.ofString "u:2") _]) (by k_asm) N3 (ls_is N3 (List.mem_cons_of_mem _ (List.mem_cons_of_mem _ List.mem_cons_self))) (ls_is N3 List.mem_cons_self) rfl ?_ ?z; (case z => show (2 : Nat) ≤ sizeLine; rw [sizeLine_eq]; decide))
      intro D4 h4 F4 N4 l4
      have N5 := news_drop4 N4
      have l5 := fun p hp => l4 p (List.mem_cons_of_mem _ (List.mem_cons_of_mem _ (List.mem_cons_of_mem _ hp)))
      have GMf := fun q => G1.mono (n2 := q :: news9) (fun p hp => List.mem_cons_of_mem _ hp)
      have lt4 := SZ1.lt l5
      clear kN N3 N4 l4
      (repeat ((fail_if_success (k_dflt (show wpAny _ _ (call (.ref 474) _) _ _ _))); (first | (k_unfold; (try dsimp only)) | (k_end; wrow_close) | walk1 | (dsimp only; walk1) | fail "no step"))); (try dsimp only [List.nil_append, List.cons_append])
      (k_dflt (refine' con_use (one_con _ _ _ src (GMf (_, _)).SZ D4 [.str (Str.ofString "u:1") _, .str (Str.ofString "u:2") _] 0 List.mem_cons_self (Ne.symm (Nat.ne_of_lt lt4)) (by simp) (by simp) (by intro v hv; simp only [List.mem_cons, List.not_mem_nil, or_false] at hv; rcases hv with rfl | rfl <;> rfl)) ?uB ?uF ?uX ?uN ?uT ?uk ?ud ?uu ?_; (case uB => k_asm); (case uF => k_asm); (case uX => k_asm); (case uN => k_asm);  (case uT => k_asm); (case uk => first | exact rfl | assumption); (case ud => ktr_room); (case uu => ktr_units)); rintro r9 news9 h9 tk9 F9 N9 ⟨hv, SZ9, hs9⟩; (try dsimp only))
      have G9 := (GMf _).srcs N5 hs9 SZ9
      obtain ⟨u, tu, rfl, hul⟩ : ∃ u tu, r9 = .str u tu ∧ u.length ≤ 100 ∧ PyData.strOk u = true := by
        simp only [List.mem_cons, List.not_mem_nil, or_false] at hv
        rcases hv with rfl | rfl <;> exact ⟨_, _, rfl, by decide +kernel, by decide +kernel⟩
      (repeat ((fail_if_success (k_dflt (with_reducible show wpAny _ _ (execs [_, _, _] _) _ _ _))); (first | (k_unfold; (try dsimp only)) | (k_end; wrow_close) | walk1 | (dsimp only; walk1) | fail "no step")))
      rename News _ _ _ _ => kN; rename Fr _ _ _ _ => kF
      k_dflt (refine grown_tail prog w hb p loose mean mg mb dp un gd cn cs ad ccd cl outer base g L Lq (fun y => if y = Str.ofString "uri" then some (.str u tu) else m y) _ _ E _ B kF X kN T hdp hu src Tr dt R Dn FX vs rows S a l r n ta tp tu _ u _ G9 rfl G hr hkd hlen hn hfr (by decide +kernel) (by decide +kernel) hul (by exact m1) (by exact m2) (by exact m3) (by exact m5) rfl ?_)
      intro h7 tk7 nw7 vs7 rows7 S7 n7 f7 hf7 GG7 GT7 hr7 hl7 hn7 hj7 kF8 kN8
      subst hf7
      (repeat' (first | (k_unfold; (try dsimp only)) | (k_end; wrow_close) | walk1 | (dsimp only; walk1) | fail "no step"))
      rename News _ _ _ _ => kN8; rename Fr _ _ _ _ => kF8
      exact k _ _ nw7 vs7 rows7 S7 n7 _ (fun y hy => if_neg hy) GG7 GT7 hr7 hl7 hn7 hj7 kF8 kN8
  · (repeat' (first | (k_unfold; (try dsimp only)) | (k_end; wrow_close) | walk1 | (dsimp only; walk1) | fail "no step"))
    rename News _ _ _ _ => kN; rename Fr _ _ _ _ => kF
    exact k _ _ _ vs rows S n m (fun _ _ => rfl) G1 G hr (Nat.le_succ _) (Nat.le_succ _) (fun j hj => by
      obtain ⟨k0, q, rfl, hq⟩ := G.ns r (List.mem_of_getElem? hr) j hj
      exact ⟨k0, q, rfl, hq, .inr ⟨_, hj, k0, rfl, hq⟩⟩) kF kN
end
section
section
variable {prog : Program} {w : World} {h₀ h : Heap} {L src Tr dt R Dn : Addr} {FX FX2 : List (Addr × Obj)} {vs : List Value} {rows : List NRow} {S : Addr → List Int} {f : Str → Option Str} {n : Nat} {n1 n2 : List (Addr × Obj)}
theorem TreeIs.lsts {Xd : Addr} {ys : List Value} {ky : Nat} (N : News h₀ L h n1) (hs : ∀ p ∈ n1, p.1 ≠ Xd → p ∈ n2) (hm : (Xd, lob ys ky) ∈ n1) (hR : R ≠ Xd) (hsub : ∀ q ∈ rows, ∀ D ∈ [q.c, q.a, q.n], D ≠ Xd) (X : TreeIs n1 Tr dt R vs rows S) : TreeIs n2 Tr dt R vs rows S := by
  have up : ∀ p ∈ n1, (∀ vs n, p.2.data ≠ .seq vs n) → p ∈ n2 := fun p hp hd => hs p hp fun q => by
    obtain ⟨x, o⟩ := p
    dsimp only at q hd
    subst q
    exact hd _ _ (congrArg Obj.data (Option.some.inj ((N.get hp).symm.trans (N.get hm))))
  refine ⟨up _ X.inst (fun _ _ q => by cases q), ?_, ?_, X.len, X.small, ?_, ?_, X.nd⟩
  · obtain ⟨h, tk, e⟩ := X.dict
    exact ⟨h, tk, up _ e (fun _ _ q => by cases q)⟩
  · obtain ⟨nn, e⟩ := X.lst
    exact ⟨nn, hs _ e hR⟩
  · intro j q hq
    obtain ⟨v, e1, x, d, f, t, u, rfl, m1, m2⟩ := X.row j q hq
    exact ⟨_, e1, x, d, f, t, u, rfl, up _ m1 (fun _ _ q => by cases q), up _ m2 (fun _ _ q => by cases q)⟩
  · intro q hq D hD
    obtain ⟨ys, k, a, b, c⟩ := X.sub q hq D hD
    exact ⟨ys, k, hs _ a (hsub q hq D hD), b, c⟩
/-- a list that is none of the tree's grows -/
theorem GB.lsts {Xd : Addr} {ys ys2 : List Value} {ky ky2 : Nat} (N : News h₀ L h n1) (up : ∀ p ∈ n1, p.1 ≠ Xd → p ∈ n2) (hm : (Xd, lob ys ky) ∈ FX) (h2 : (Xd, lob ys2 ky2) ∈ n2) (hx : ∀ p ∈ FX2, p = (Xd, lob ys2 ky2) ∨ (p ∈ FX ∧ p.1 ≠ Xd)) (X : GB prog w src Tr dt R Dn FX vs rows S f n n1) : GB prog w src Tr dt R Dn FX2 vs rows S f n n2 := by
  obtain ⟨a1, a2, a3, a4⟩ := X.ax _ hm
  dsimp only at a1 a2 a3 a4
  refine ⟨X.TX.lsts N up (X.fx _ hm) (Ne.symm a3) a4, X.Z.mono (fun o ho => up _ ho (Ne.symm a2)), X.xm, X.SZ.mono (fun o ho => up _ ho (Ne.symm a1)), fun p hp => ?_, fun p hp => ?_, X.hs⟩
  · rcases hx p hp with rfl | ⟨h, q⟩
    · exact h2
    · exact up p (X.fx p h) q
  · rcases hx p hp with rfl | ⟨h, q⟩
    · exact ⟨a1, a2, a3, a4⟩
    · exact X.ax p h
end
end
section
theorem GB.cons_it {prog : Program} {w : World} {h₀ h : Heap} {L src Tr dt R Dn I : Addr} {it : Obj} {FX : List (Addr × Obj)} {vs : List Value} {rows : List NRow} {S : Addr → List Int} {f : Str → Option Str} {n : Nat} {n1 : List (Addr × Obj)} (hI : ∀ p ∈ n1, p.1 ≠ I) (X : GB prog w src Tr dt R Dn FX vs rows S f n n1) : GB prog w src Tr dt R Dn ((I, it) :: FX) vs rows S f n ((I, it) :: n1) := by
  have GM := X.mono (n2 := (I, it) :: n1) (fun p hp => List.mem_cons_of_mem _ hp)
  refine GM.fix (fun p hp => ?_) (fun p hp => ?_)
  · rcases List.mem_cons.mp hp with rfl | hp
    · exact List.mem_cons_self
    · exact GM.fx p hp
  · rcases List.mem_cons.mp hp with rfl | hp
    · obtain ⟨a, b, ta, tb, sn, hsm, -⟩ := X.SZ.ex
      obtain ⟨o, kvs, DD, hz, -⟩ := X.Z.ex
      obtain ⟨nR, hR⟩ := X.TX.lst
      exact ⟨Ne.symm (hI _ hsm), Ne.symm (hI _ hz), Ne.symm (hI _ hR), fun q hq D hD => by obtain ⟨ys, k, hm, -⟩ := X.TX.sub q hq D hD; exact hI _ hm⟩
    · exact GM.ax p hp
noncomputable def pxs : List Str := [Str.ofString "", Str.ofString "p", Str.ofString "q"]
/-- the loop over the prefixes -/
theorem grown_for (prog : Program) (w : World) {oc9 : Value} {od : Option Addr} {name qual : Str} {params : Arguments} {s1 s2 s4 b1 b2 b4 b5 : Stmt} {t1 t2 i1 i2 : Expr} {body2 : List Stmt} {p1 p2 : Pos} {scope : Scope} {dV kV doc pm9 cdv ct9 : Value} {an : Option Addr} {osl : Array (Option Value)}
  (hb : (hd.heap_39 w.params).lookup 481 = some ⟨oc9, od, .func (fnOf name qual params [s1, s2, .For t1 i1 [b1, b2, .For t2 i2 body2 [] p2, b4, b5] [] p1, s4] scope dV kV doc pm9 an cdv ct9), osl⟩)
    (p : Program) (loose : List Str) (mean : ExcName → Option Value) (mg mb : Str → Option Value)
    (dp un : Nat) (gd : Option (List Code)) (cn : Str) (cs : Scope) (ad : Addr) (ccd : Value) (cl : List (Str × Addr)) (outer : List Env) (base g : Heap) (L Lq : Addr) (m : Str → Option Value) (s : Shared)
    (Q : Flow → Shared → Prop) (E : Value → Shared → Prop) (hE : PassesOwn (model prog w) ((ktrTop dp un gd cn cs L ad ccd cl outer).deeper (envOf qual scope Lq 481 cdv)) (envOf qual scope Lq 481 cdv) E) (nw : List (Addr × Obj))
    (B : Below (ktrTop dp un gd cn cs L ad ccd cl outer) base (envX cn cs L ad ccd cl :: outer) g) (F : Fr g Lq s.heap m) (X : (hd.heap_39 w.params).In g) (N : News g Lq s.heap nw) (T : Top p loose mean mg mb g) (hdp : dp + 200 < recursionLimit) (hu : un + 9000 < cLine)
    (src Tr dt R Dn : Addr) (FX : List (Addr × Obj)) (vs : List Value) (rows : List NRow) (S : Addr → List Int) (a : Nat) (l : List Nat) (r : NRow) (n : Nat) (ta : Tok)
    (GX : GB prog w src Tr dt R Dn FX vs rows S (scopeF rows S l) n nw) (G : GT rows S a l) (hr : rows[a]? = some r) (hkd : r.kind = Str.ofString "element") (hlen : rows.length < 47) (hn : n ≤ 890) (hSr : S r.n = [])
    (m1 : m (Str.ofString "tree") = some (.ref Tr)) (m2 : m (Str.ofString "above") = some (.int (a : Int) ta)) (m3 : m (Str.ofString "scope") = some (.ref Dn)) (m4 : m (Str.ofString "source") = some (.ref src))
    (k : ∀ h' tk' nw' vs' rows' S' n' m', (∀ y, y ≠ Str.ofString "uri" → y ≠ Str.ofString "prefix" → m' y = m y) → GB prog w src Tr dt R Dn FX vs' rows' S' (scopeF rows' S' l) n' nw' → GT rows' S' a l → rows'[a]? = some r → rows'.length ≤ rows.length + 3 → n' ≤ n + 3 → Fr g Lq h' m' → News g Lq h' nw' → Q .next { s with heap := h', toks := tk' }) :
    wpAny (model prog w) ((ktrTop dp un gd cn cs L ad ccd cl outer).deeper (envOf qual scope Lq 481 cdv)) (exec (.For t2 i2 body2 [] p2) (envOf qual scope Lq 481 cdv)) Q E s := by
  revert hE
  apply bodyA hb
  case hl => k_is
  clear hb; intro hb
  intro hE
  (first | (refine env_let (t := fun e => execs _ e) ?_; intro ev Av) | (refine env_let (t := fun e => exec _ e) ?_; intro ev Av))
  k_dflt (refine For_turns (by k_asm) ?_ (by intro _; rfl) hE)
  (repeat ((fail_if_success (k_dflt (show wpAny _ _ (pyIter _) _ _ _))); (first | (k_unfold; (try dsimp only)) | (k_end; wrow_close) | walk1 | (dsimp only; walk1) | fail "no step")))
  rename_i lD hpc kF kN lc
  have GC := (GX.cons_it (it := lob [.str (Str.ofString "") s.toks, .str (Str.ofString "p") (s.toks + 1), .str (Str.ofString "q") (s.toks + 1 + 1)] 0) (h₀ := g) (h := hpc) (L := Lq) (I := lD) (fun p hp => Nat.ne_of_lt (lc p hp)))
  k_dflt (refine iter_listTurns (by rfl) kF kN List.mem_cons_self rfl rfl fun I hI => ?_)
  refine items_ind2 (fun i0 m' nw2 => (∃ vs' rows' S' n', GB prog w src Tr dt R Dn ((lD, lob [.str (Str.ofString "") s.toks, .str (Str.ofString "p") (s.toks + 1), .str (Str.ofString "q") (s.toks + 1 + 1)] 0) :: FX) vs' rows' S' (scopeF rows' S' l) n' nw2 ∧ GT rows' S' a l ∧ rows'[a]? = some r ∧ rows'.length ≤ rows.length + i0 ∧ n' ≤ n + i0 ∧ (∀ j ∈ S' r.n, ∃ (k : Nat) (q : NRow), j = (k : Int) ∧ rows'[k]? = some q ∧ q.name ∈ pxs.take i0)) ∧ (∀ y, y ≠ Str.ofString "uri" → y ≠ Str.ofString "prefix" → m' y = m y) ∧ ∀ p ∈ nw2, p.1 ≠ I)
    [.str (Str.ofString "") s.toks, .str (Str.ofString "p") (s.toks + 1), .str (Str.ofString "q") (s.toks + 1 + 1)] ?turn ?done [.str (Str.ofString "") s.toks, .str (Str.ofString "p") (s.toks + 1), .str (Str.ofString "q") (s.toks + 1 + 1)] 0 _ _ (Nat.zero_le _) rfl
    ⟨⟨vs, rows, S, n, GC, G, hr, Nat.le_refl _, Nat.le_refl _, fun j hj => by rw [hSr] at hj; cases hj⟩, fun _ _ _ => rfl, fun p hp => Nat.ne_of_lt (hI p hp)⟩
  case turn =>
    clear kF kN
    rintro i0 v0 m0 nw2 h tk0 it hcl hv0 zQ zH ⟨⟨vs', rows', S', n', GX', G', hr', hl', hn', hnm'⟩, hmm, hnI⟩ F1 N1
    obtain ⟨px, tp, rfl, hpx, hfr, hnx, hi0⟩ : ∃ px tp, v0 = .str px tp ∧ (px = Str.ofString "" ∨ px = Str.ofString "p" ∨ px = Str.ofString "q") ∧ (∀ z ∈ pxs.take i0, z ≠ px) ∧ pxs.take (i0 + 1) = pxs.take i0 ++ [px] ∧ i0 < 3 := by
      clear F1 N1
      rcases i0 with _ | _ | _ | i0
      · cases hv0; exact ⟨_, _, rfl, .inl rfl, by decide +kernel, rfl, by decide⟩
      · cases hv0; exact ⟨_, _, rfl, .inr (.inl rfl), by decide +kernel, rfl, by decide⟩
      · cases hv0; exact ⟨_, _, rfl, .inr (.inr rfl), by decide +kernel, rfl, by decide⟩
      · simp at hv0
    have GI := GX'.cons_it (it := it) (h₀ := g) (h := h) (L := Lq) (I := I) hnI
    (repeat ((fail_if_success (k_dflt (with_reducible show wpAny _ _ (execs _ _) _ _ _))); (first | (k_unfold; (try dsimp only)) | (k_end; wrow_close) | walk1 | (dsimp only; walk1) | fail "no step")))
    rename News _ _ _ _ => kN; rename Fr _ _ _ _ => kF
    k_dflt (refine grown_inner prog w hb p loose mean mg mb dp un gd cn cs ad ccd cl outer base g L Lq (fun y => if y = Str.ofString "prefix" then some (.str px tp) else m0 y) _ _ E _ B kF X kN T hdp hu src Tr dt R Dn _ vs' rows' S' a l r n' ta tp px GI G' hr' hkd (by omega) (by omega) (fun j hj => by obtain ⟨k, q, e, hq, hz⟩ := hnm' j hj; exact ⟨k, q, e, hq, hfr _ hz⟩) hpx (by show (if _ then _ else _) = _; rw [if_neg (by decide), hmm _ (by decide) (by decide)]; exact m1) (by show (if _ then _ else _) = _; rw [if_neg (by decide), hmm _ (by decide) (by decide)]; exact m2) (by show (if _ then _ else _) = _; rw [if_neg (by decide), hmm _ (by decide) (by decide)]; exact m3) (by show (if _ then _ else _) = _; rw [if_neg (by decide), hmm _ (by decide) (by decide)]; exact m4) rfl ?_)
    intro h7 tk7 nw7 vs7 rows7 S7 n7 m7 hm7 GX7 G7 hr7 hl7 hn7 hj7 F7 N7
    have hIn := GX7.fx _ List.mem_cons_self
    have GO := (GX7.fix (FX2 := (lD, lob [.str (Str.ofString "") s.toks, .str (Str.ofString "p") (s.toks + 1), .str (Str.ofString "q") (s.toks + 1 + 1)] 0) :: FX) (fun p hp => GX7.fx p (List.mem_cons_of_mem _ hp)) (fun p hp => GX7.ax p (List.mem_cons_of_mem _ hp))).own N7 hIn hcl (by decide) (by decide) (fun p hp => hnI p (GX'.fx p hp))
    refine zH _ _ ?_; refine unrEnd_filter F7 N7 hIn ⟨⟨GO.fx _ List.mem_cons_self, trivial⟩, ⟨vs7, rows7, S7, n7, GO, G7, hr7, by omega, by omega, fun j hj => ?_⟩, fun y h1 h2 => ?_, fun p hp => by simpa using (List.mem_filter.mp hp).2⟩
    · obtain ⟨k7, q7, e7, hq7, hz7⟩ := hj7 j hj
      refine ⟨k7, q7, e7, hq7, ?_⟩
      rw [hnx]
      rcases hz7 with hz | ⟨j0, hj0, k0, rfl, hk0⟩
      · rw [hz]; exact List.mem_append_right _ (List.mem_singleton_self _)
      · obtain ⟨k1, q1, e1, hq1, hz1⟩ := hnm' _ hj0
        obtain rfl : k0 = k1 := by exact_mod_cast e1
        rw [hk0] at hq1; cases hq1
        exact List.mem_append_left _ hz1
    · rw [hm7 y h1]
      show (if _ then _ else _) = _
      rw [if_neg h2]
      exact hmm y h1 h2
  case done =>
    clear kF kN
    rintro m0 nw2 ⟨⟨vs', rows', S', n', GX', G', hr', hl', hn', hnm'⟩, hmm, hnI⟩ h tk0 F1 N1
    exact k _ _ _ vs' rows' S' n' m0 hmm (GX'.fix (fun p hp => GX'.fx p (List.mem_cons_of_mem _ hp)) (fun p hp => GX'.ax p (List.mem_cons_of_mem _ hp))) G' hr' hl' hn' F1 N1
end
section
theorem grown_turn (prog : Program) (w : World) {oc9 : Value} {od : Option Addr} {name qual : Str} {params : Arguments} {s1 s2 s4 b1 b2 b4 b5 : Stmt} {t1 t2 i1 i2 : Expr} {body2 : List Stmt} {p1 p2 : Pos} {scope : Scope} {dV kV doc pm9 cdv ct9 : Value} {an : Option Addr} {osl : Array (Option Value)}
  (hb : (hd.heap_39 w.params).lookup 481 = some ⟨oc9, od, .func (fnOf name qual params [s1, s2, .For t1 i1 [b1, b2, .For t2 i2 body2 [] p2, b4, b5] [] p1, s4] scope dV kV doc pm9 an cdv ct9), osl⟩)
    (p : Program) (loose : List Str) (mean : ExcName → Option Value) (mg mb : Str → Option Value)
    (dp un : Nat) (gd : Option (List Code)) (cn : Str) (cs : Scope) (ad : Addr) (ccd : Value) (cl : List (Str × Addr)) (outer : List Env) (base g : Heap) (L Lq : Addr) (m : Str → Option Value) (s : Shared)
    (Q : Flow → Shared → Prop) (E : Value → Shared → Prop) (hE : PassesOwn (model prog w) ((ktrTop dp un gd cn cs L ad ccd cl outer).deeper (envOf qual scope Lq 481 cdv)) (envOf qual scope Lq 481 cdv) E) (nw : List (Addr × Obj))
    (B : Below (ktrTop dp un gd cn cs L ad ccd cl outer) base (envX cn cs L ad ccd cl :: outer) g) (F : Fr g Lq s.heap m) (X : (hd.heap_39 w.params).In g) (N : News g Lq s.heap nw) (T : Top p loose mean mg mb g) (hdp : dp + 200 < recursionLimit) (hu : un + 9000 < cLine)
    (src Tr dt R Dk Del Dsc : Addr) (FX0 : List (Addr × Obj)) (vs : List Value) (rows : List NRow) (S : Addr → List Int) (a : Nat) (l : List Nat) (r : NRow) (n : Nat) (ta : Tok) (evs svs : List Value) (ke ks : Nat)
    (GX : GB prog w src Tr dt R Dk ((Del, lob evs ke) :: (Dsc, lob svs ks) :: FX0) vs rows S (scopeF rows S l) n nw) (G : GT rows S a l) (hr : rows[a]? = some r) (hkd : r.kind = Str.ofString "element" ∨ r.kind = Str.ofString "root") (hlen : rows.length < 46) (hn : n ≤ 880)
    (hds : Del ≠ Dsc) (hf0 : ∀ p ∈ FX0, p.1 ≠ Del ∧ p.1 ≠ Dsc) (hev : evs.length < 50) (hsv : svs.length < 50) (hlast : svs.getLast? = some (.ref Dk))
    (m1 : m (Str.ofString "tree") = some (.ref Tr)) (m2 : m (Str.ofString "above") = some (.int (a : Int) ta)) (m3 : m (Str.ofString "elements") = some (.ref Del)) (m4 : m (Str.ofString "scopes") = some (.ref Dsc)) (m5 : m (Str.ofString "source") = some (.ref src))
    (k : ∀ h' tk' nw' vs' rows' S' a' l' r' n' Dn ke' ks' t m', GB prog w src Tr dt R Dn ((Del, lob (evs ++ [.int (a' : Int) t]) ke') :: (Dsc, lob (svs ++ [.ref Dn]) ks') :: FX0) vs' rows' S' (scopeF rows' S' l') n' nw' → GT rows' S' a' l' → rows'[a']? = some r' → r'.kind = Str.ofString "element" → l'.length = l.length + 1 → rows'.length ≤ rows.length + 4 → n' ≤ n + 3 →
      m' (Str.ofString "tree") = some (.ref Tr) → m' (Str.ofString "above") = some (.int (a' : Int) t) → m' (Str.ofString "elements") = some (.ref Del) → m' (Str.ofString "scopes") = some (.ref Dsc) → m' (Str.ofString "source") = some (.ref src) → Fr g Lq h' m' → News g Lq h' nw' → Q .next { s with heap := h', toks := tk' }) :
    wpAny (model prog w) ((ktrTop dp un gd cn cs L ad ccd cl outer).deeper (envOf qual scope Lq 481 cdv)) (execs [b1, b2, .For t2 i2 body2 [] p2, b4, b5] (envOf qual scope Lq 481 cdv)) Q E s := by
  revert hE
  apply bodyA hb
  case hl => k_is
  clear hb; intro hb
  intro hE
  (first | (refine env_let (t := fun e => execs _ e) ?_; intro ev Av) | (refine env_let (t := fun e => exec _ e) ?_; intro ev Av))
  have g1 := GX.TX.inst
  obtain ⟨hh, tk9, g2⟩ := GX.TX.dict
  have hrm := List.mem_of_getElem? hr
  (repeat ((fail_if_success (k_dflt (show wpAny _ _ (call (.ref 313) _) _ _ _))); (first | (k_unfold; (try dsimp only)) | (k_end; wrow_close) | walk1 | (dsimp only; walk1) | fail "no step"))); (try dsimp only [List.nil_append, List.cons_append])
  k_dflt (show wpAny _ _ (call (.ref 313) [.ref Tr, .int (a : Int) ta, .str (Str.ofString "e") _, .str (Str.ofString "") _, .str (Str.ofString "e") _]) _ _ _)
  (k_dflt (refine' con_use (add_element_con _ _ _ Tr dt R vs rows S GX.TX (Nat.lt_trans hlen (by decide)) a _ r hr hkd (Str.ofString "e") (Str.ofString "") (Str.ofString "e") _ _ _ (Nat.lt_of_le_of_lt (G.ln r hrm r.c (by simp)) (Nat.lt_trans hlen (by decide)))) ?uB ?uF ?uX ?uN ?uT ?uk ?ud ?uu ?_; (case uB => k_asm); (case uF => k_asm); (case uX => k_asm); (case uN => k_asm);  (case uT => k_asm); (case uk => first | exact rfl | assumption); (case ud => ktr_room); (case uu => ktr_units)); rintro r9 news9 h9 tk9 F9 N9 ⟨c9, a9, n9, x9, ⟨t9, rfl⟩, TX9, hs9, fr9⟩; (try dsimp only))
  have hnd9 := (List.nodup_cons.mp TX9.nd).2
  have hcb := nd_three hnd9 (List.mem_append_right rows (List.mem_singleton_self _))
  have GX9 := GX.tree ⟨rfl, rfl, rfl⟩ N TX9 hrm (by simp) hs9 fr9
  obtain ⟨G9, hsc9⟩ := G.el_add GX.TX fr9 hcb hr (Str.ofString "e") (by decide +kernel) (Str.ofString "") (Str.ofString "e") (Str.ofString "")
  rw [← hsc9] at GX9
  have hnew : (rows ++ [⟨Str.ofString "element", Str.ofString "e", Str.ofString "", Str.ofString "e", Str.ofString "", some a, c9, a9, n9⟩])[rows.length]? = some (⟨Str.ofString "element", Str.ofString "e", Str.ofString "", Str.ofString "e", Str.ofString "", some a, c9, a9, n9⟩ : NRow) := by rw [List.getElem?_append_right (Nat.le_refl _), Nat.sub_self]; rfl
  (repeat ((fail_if_success (k_dflt (with_reducible show wpAny _ _ (subscriptTail _ _ _ _) _ _ _))); (first | (k_unfold; (try dsimp only)) | (k_end; wrow_close) | walk1 | (dsimp only; walk1) | fail "no step")))
  rename News _ _ _ _ => kN
  k_dflt (refine ls_last kN (GX9.fx _ (List.mem_cons_of_mem _ List.mem_cons_self)) hlast ?_)
  (repeat ((fail_if_success (k_dflt (with_reducible show wpAny _ _ (call _ _) _ _ _))); (first | (k_unfold; (try dsimp only)) | (k_end; wrow_close) | walk1 | (dsimp only; walk1) | fail "no step")))
  k_dflt (refine sc_copy (by k_asm) kN (Top.nolimit (by k_asm)) GX9.Z (by omega) ?_)
  intro Dn hpc oc F1 N1 l1 Z1
  have GX1 := GX9.copy l1 Z1
  clear kN
  (repeat ((fail_if_success (k_dflt (with_reducible show wpAny _ _ (exec (.For _ _ _ _ _) _) _ _ _))); (first | (k_unfold; (try dsimp only)) | (k_end; wrow_close) | walk1 | (dsimp only; walk1) | fail "no step")))
  rename News _ _ _ _ => kN; rename Fr _ _ _ _ => kF
  have hSn : S1 (S3 S c9 a9 n9) r.c rows.length n9 = [] := by
    obtain ⟨y1, y2, y3⟩ := fresh_lists GX.TX fr9 r hrm r.c (by simp)
    simp [S1, S3, Ne.symm y3]
  k_dflt (refine grown_for prog w hb p loose mean mg mb dp un gd cn cs ad ccd cl outer base g L Lq (fun y => if y = Str.ofString "scope" then some (.ref Dn) else if y = Str.ofString "above" then some (.int (rows.length : Int) t9) else m y) _ _ E hE _ B kF X kN T hdp hu src Tr dt R Dn _ _ _ _ rows.length (rows.length :: l) _ n t9 GX1 G9 hnew rfl (by rw [List.length_append]; simp only [List.length_singleton]; omega) (by omega) hSn (by exact m1) rfl rfl (by exact m5) ?_)
  intro h7 tk7 nw7 vs7 rows7 S7 n7 m7 hm7 GX7 G7 hr7 hl7 hn7 F7 N7
  have e1 : m7 (Str.ofString "elements") = some (.ref Del) := by rw [hm7 _ (by decide) (by decide)]; exact m3
  have e2 : m7 (Str.ofString "scopes") = some (.ref Dsc) := by rw [hm7 _ (by decide) (by decide)]; exact m4
  have e3 : m7 (Str.ofString "above") = some (.int (rows.length : Int) t9) := by rw [hm7 _ (by decide) (by decide)]; rfl
  have e4 : m7 (Str.ofString "scope") = some (.ref Dn) := by rw [hm7 _ (by decide) (by decide)]; rfl
  have e5 : m7 (Str.ofString "tree") = some (.ref Tr) := by rw [hm7 _ (by decide) (by decide)]; exact m1
  have e6 : m7 (Str.ofString "source") = some (.ref src) := by rw [hm7 _ (by decide) (by decide)]; exact m5
  have hE1 := GX7.fx _ List.mem_cons_self
  have hE2 := GX7.fx _ (List.mem_cons_of_mem _ List.mem_cons_self)
  clear kN kF
  (repeat ((fail_if_success (k_dflt (with_reducible show wpAny _ _ (call (.builtin _) _) _ _ _))); (first | (k_unfold; (try dsimp only)) | (k_end; wrow_close) | walk1 | (dsimp only; walk1) | fail "no step")))
  rename News _ _ _ _ => kN
  k_dflt (refine ls_append (by k_asm) kN hE1 (by rw [sizeLine_eq]; omega) ?_)
  intro h8 rest8 F8 N8 hup8
  have GX8 := GX7.lsts (FX2 := (Del, lob (evs ++ [.int (rows.length : Int) t9]) (ke + 1)) :: (Dsc, lob svs ks) :: FX0) kN (fun p hp hq => List.mem_cons_of_mem (Del, lob (evs ++ [.int (rows.length : Int) t9]) (ke + 1)) (hup8 p hp hq)) List.mem_cons_self List.mem_cons_self (fun p hp => by
    rcases List.mem_cons.mp hp with rfl | hp
    · exact .inl rfl
    · refine .inr ⟨List.mem_cons_of_mem _ hp, ?_⟩
      rcases List.mem_cons.mp hp with rfl | hp
      · exact Ne.symm hds
      · exact (hf0 p hp).1)
  have hE3 := GX8.fx _ (List.mem_cons_of_mem _ List.mem_cons_self)
  clear kN
  (repeat ((fail_if_success (k_dflt (with_reducible show wpAny _ _ (call (.builtin _) _) _ _ _))); (first | (k_unfold; (try dsimp only)) | (k_end; wrow_close) | walk1 | (dsimp only; walk1) | fail "no step")))
  rename News _ _ _ _ => kN
  k_dflt (refine ls_append (by k_asm) kN hE3 (by rw [sizeLine_eq]; omega) ?_)
  intro h10 rest10 F10 N10 hup10
  have GX10 := GX8.lsts (FX2 := (Del, lob (evs ++ [.int (rows.length : Int) t9]) (ke + 1)) :: (Dsc, lob (svs ++ [.ref Dn]) (ks + 1)) :: FX0) kN (fun p hp hq => List.mem_cons_of_mem (Dsc, lob (svs ++ [.ref Dn]) (ks + 1)) (hup10 p hp hq)) (List.mem_cons_of_mem _ List.mem_cons_self) List.mem_cons_self (fun p hp => by
    rcases List.mem_cons.mp hp with rfl | hp
    · exact .inr ⟨List.mem_cons_self, hds⟩
    · rcases List.mem_cons.mp hp with rfl | hp
      · exact .inl rfl
      · exact .inr ⟨List.mem_cons_of_mem _ (List.mem_cons_of_mem _ hp), (hf0 p hp).2⟩)
  clear kN
  (repeat' (first | (k_unfold; (try dsimp only)) | (k_end; wrow_close) | walk1 | (dsimp only; walk1) | fail "no step"))
  rename News _ _ _ _ => kN; rename Fr _ _ _ _ => kF
  exact k _ _ _ vs7 rows7 S7 rows.length (rows.length :: l) _ n7 Dn _ _ t9 m7 GX10 G7 hr7 rfl rfl (by rw [List.length_append] at hl7; simp only [List.length_singleton] at hl7; omega) hn7 e5 e3 e1 e2 e6 kF kN
end
section
section
variable {prog : Program} {w : World} {A : Around} {E : Value → Shared → Prop} {s : Shared} {env : Env} {h₀ : Heap} {x : Str} {body : List Stmt} {Q : Flow → Shared → Prop}
theorem range_ind {I : Addr} {a : Int} {n : Nat} (Inv : Nat → (Str → Option Value) → List (Addr × Obj) → Prop)
    (turn : ∀ i t m news h tk it, it = itR (a + ((i + 1 : Nat) : Int)) ((n : Int) - ((i + 1 : Nat) : Int)) → i < n → Inv i m news → Fr h₀ env.locals h (fun y => if y = x then some (.int (a + (i : Int)) t) else m y) → News h₀ env.locals h ((I, it) :: news) →
      wpAny (model prog w) A (execs body env) (UnrPost h₀ env.locals { s with heap := h, toks := tk } I it (Inv (i + 1)) Q) E { s with heap := h, toks := tk })
    (done : ∀ m news, Inv n m news → ∀ h tk, Fr h₀ env.locals h m → News h₀ env.locals h news → Q .next { s with heap := h, toks := tk }) :
    ∀ (k i : Nat) (m : Str → Option Value) (news : List (Addr × Obj)), i + k = n → Inv i m news → RangeRest prog w A E h₀ env x body Q s I a n k i m news := by
  intro k
  induction k with
  | zero =>
    intro i m news e hI
    obtain rfl : i = n := by omega
    exact RangeRest.zero (fun h tk F N => done m news hI h tk F N)
  | succ k ih =>
    intro i m news e hI
    refine RangeRest.succ fun t h tk F N => wpAny_mono (turn i t m news h tk _ rfl (by omega) hI F N) (fun f s₂ h₂ => ?_) fun _ _ z => z
    cases f with
    | ret v => exact h₂
    | brk => exact h₂
    | next => obtain ⟨h', tk', m', n', a, b, c, d, e2⟩ := h₂; exact ⟨h', tk', m', n', a, b, c, d, ih (i + 1) m' n' (by omega) e2⟩
    | cont => obtain ⟨h', tk', m', n', a, b, c, d, e2⟩ := h₂; exact ⟨h', tk', m', n', a, b, c, d, ih (i + 1) m' n' (by omega) e2⟩
end
theorem unrEndK_filter {h₀ : Heap} {L I : Addr} {it : Obj} {rest : (Str → Option Value) → List (Addr × Obj) → Prop} {s₁ : Shared} {h' : Heap} {tk : Nat} {m' : Str → Option Value} {all : List (Addr × Obj)} (F : Fr h₀ L h' m') (N : News h₀ L h' all)
    (hI : (I, it) ∈ all) (r : rest m' (all.filter fun p => p.1 != I)) : UnrEnd h₀ L s₁ I it rest { s₁ with heap := h', toks := tk } :=
  UnrEnd.intro F N (all.filter fun p => p.1 != I) (fun p hp => by
    rcases List.mem_cons.mp hp with rfl | hp
    · exact hI
    · exact (List.mem_filter.mp hp).1) (fun p hp => by simpa using (List.mem_filter.mp hp).2) r
structure GD where
  vs : List Value
  rows : List NRow
  S : Addr → List Int
  a : Nat
  l : List Nat
  r : NRow
  n : Nat
  Dk : Addr
  evs : List Value
  svs : List Value
  ke : Nat
  ks : Nat
  ta : Tok
structure GInv (prog : Program) (w : World) (src Tr dt R Del Dsc I : Addr) (news : List (Addr × Obj)) (d : GD) (i : Nat) (m' : Str → Option Value) (nw : List (Addr × Obj)) : Prop where
  GX : GB prog w src Tr dt R d.Dk ((Del, lob d.evs d.ke) :: (Dsc, lob d.svs d.ks) :: news.filter fun p => p.1 != src) d.vs d.rows d.S (scopeF d.rows d.S d.l) d.n nw
  G : GT d.rows d.S d.a d.l
  hr : d.rows[d.a]? = some d.r
  k1 : d.r.kind = Str.ofString "element" ∨ d.r.kind = Str.ofString "root"
  k2 : 0 < i → d.r.kind = Str.ofString "element"
  ll : d.l.length = i + 1
  rl : d.rows.length ≤ 1 + 4 * i
  nl : d.n ≤ 1 + 3 * i
  el : d.evs.length = i
  sl : d.svs.length = i + 1
  la : d.svs.getLast? = some (.ref d.Dk)
  le : 0 < i → d.evs.getLast? = some (.int (d.a : Int) d.ta)
  q1 : m' (Str.ofString "tree") = some (.ref Tr)
  q2 : m' (Str.ofString "above") = some (.int (d.a : Int) d.ta)
  q3 : m' (Str.ofString "elements") = some (.ref Del)
  q4 : m' (Str.ofString "scopes") = some (.ref Dsc)
  q5 : m' (Str.ofString "source") = some (.ref src)
  nI : ∀ p ∈ nw, p.1 ≠ I
theorem len3 {α : Type} {l : List α} (h : l.length = 3) : ∃ a b c, l = [a, b, c] := by
  rcases l with _ | ⟨a, _ | ⟨b, _ | ⟨c, _ | ⟨d, l⟩⟩⟩⟩ <;> first | exact ⟨_, _, _, rfl⟩ | (simp at h)
theorem len4 {α : Type} {l : List α} (h : l.length = 4) : ∃ a b c d, l = [a, b, c, d] := by
  cases l with
  | nil => simp at h
  | cons x l =>
    obtain ⟨a, b, c, rfl⟩ := len3 (l := l) (by simpa using h)
    exact ⟨_, _, _, _, rfl⟩
theorem scopeF_root {c b n : Addr} : scopeF [⟨Str.ofString "root", Str.ofString "", Str.ofString "", Str.ofString "", Str.ofString "", none, c, b, n⟩] (S3 (fun _ => []) c b n) [0] = f0 := by
  rw [scopeF_cons (tl := []) rfl]
  have hS : S3 (fun _ => []) c b n n = [] := by simp [S3]
  show (S3 (fun _ => []) c b n n).foldl _ _ = _
  rw [hS]
  rfl
theorem grown_con (prog : Program) (w : World) (news : List (Addr × Obj)) (src : Addr) (SZ : SrcIs news src) :
    Con prog w 400 9500 481 [.ref src] news (fun v news' => ∃ (Rt : Addr) (kt : Nat) (Del Dsc : Addr) (ke ks : Nat) (Tr dt R : Addr) (vs : List Value) (rows : List NRow) (S : Addr → List Int) (a : Nat) (l : List Nat) (r : NRow) (n : Nat) (Dk : Addr) (FX : List (Addr × Obj)) (e0 e1 s1 s2 : Value) (t : Tok), v = .ref Rt ∧ (Rt, lob [.ref Tr, .ref Del, .ref Dsc] kt) ∈ news' ∧ (Del, lob [e0, e1, .int (a : Int) t] ke) ∈ news' ∧ (Dsc, lob [s1, s2, .ref Dk] ks) ∈ news' ∧
      GB prog w src Tr dt R Dk FX vs rows S (scopeF rows S l) n news' ∧ GT rows S a l ∧ rows[a]? = some r ∧ r.kind = Str.ofString "element" ∧ l.length = 4 ∧ rows.length ≤ 13 ∧ n ≤ 900 ∧ ∀ p ∈ news, p.1 ≠ src → p ∈ news') := by
  unfold Con
  (intro p loose mean mg mb dp un gd cn cs ad ccd cl outer A₀ base h₀ L m s Q E B F X N T hk hdp hu hret; refine wpAny_call ?_; k_dflt ktr_enter; (refine env_let (t := fun e => execs _ e) ?_; intro ev Av); (with_reducible rename Fr _ _ _ (fun _ => _) => kF0; refine fr_let kF0 ?_; clear kF0; intro m0 kF0))
  iterate 6 (first | (k_unfold; (try dsimp only)) | (k_end; wrow_close) | walk1 | (dsimp only; walk1) | fail "no step")
  (try dsimp only [List.nil_append, List.cons_append])
  (k_dflt (refine' con_use (tree_con _ _ _) ?uB ?uF ?uX ?uN ?uT ?uk ?ud ?uu ?_; (case uB => k_asm); (case uF => k_asm); (case uX => k_asm); (case uN => k_asm);  (case uT => k_asm); (case uk => first | exact rfl | assumption); (case ud => ktr_room); (case uu => ktr_units)); rintro r9 news9 h9 tk9 F9 N9 ⟨Tr, dt, R, rfl, TX, hs1, hR1⟩; (try dsimp only))
  have g1 := TX.inst
  obtain ⟨hh, tk9, g2⟩ := TX.dict
  (repeat ((fail_if_success (k_dflt (show wpAny _ _ (call (.ref 299) _) _ _ _))); (first | (k_unfold; (try dsimp only)) | (k_end; wrow_close) | walk1 | (dsimp only; walk1) | fail "no step"))); (try dsimp only [List.nil_append, List.cons_append])
  (k_dflt (refine' con_use (new_root_con _ _ _ Tr dt R _ _ _ TX (by decide)) ?uB ?uF ?uX ?uN ?uT ?uk ?ud ?uu ?_; (case uB => k_asm); (case uF => k_asm); (case uX => k_asm); (case uN => k_asm);  (case uT => k_asm); (case uk => first | exact rfl | assumption); (case ud => ktr_room); (case uu => ktr_units)); rintro r9 news9 h9 tk9 F9 N9 ⟨c9, a9, n9, x9, ⟨t9, rfl⟩, TX9, hs9, fr9⟩; (try dsimp only))
  iterate 39 (first | (k_unfold; (try dsimp only)) | (k_end; wrow_close) | walk1 | (dsimp only; walk1) | fail "no step")
  rename_i Del hp0 lDel hB o0 lo0 kD kFl ap0 lD0 Dsc hC lDsc Dt hD lDt hE1 hF1 mF1 hG1 mG1 hH1 mH1 kF kN hI1 tk2 tt1 tt2 tt3 rg kp I lI
  have TX9' : TreeIs news9 Tr dt R [x9] [⟨Str.ofString "root", Str.ofString "", Str.ofString "", Str.ofString "", Str.ofString "", none, c9, a9, n9⟩] (S3 (fun _ => []) c9 a9 n9) := TX9
  have hR9 : ∀ p ∈ news, p ∈ news9 := fun p hp => hs9 p (hs1 p hp) (Nat.ne_of_lt (hR1 p hp))
  obtain ⟨nR, hRm⟩ := TX9'.lst
  have hsub9 := TX9'.sub
  have up : ∀ p ∈ news9, p ∈ (Dsc, lob [.ref hp0.objs.size] 0) :: (hp0.objs.size, o0) :: (Del, lob [] 0) :: news9 := fun p hp => List.mem_cons_of_mem _ (List.mem_cons_of_mem _ (List.mem_cons_of_mem _ hp))
  have row1 : ∀ (Y : Addr), c9 ≠ Y → a9 ≠ Y → n9 ≠ Y → ∀ q ∈ [(⟨Str.ofString "root", Str.ofString "", Str.ofString "", Str.ofString "", Str.ofString "", none, c9, a9, n9⟩ : NRow)], ∀ D ∈ [q.c, q.a, q.n], D ≠ Y := fun Y h1 h2 h3 q hq D hD => by
    obtain rfl := List.mem_singleton.mp hq
    simp only [List.mem_cons, List.not_mem_nil, or_false] at hD
    rcases hD with rfl | rfl | rfl <;> assumption
  have inl : ∀ D ∈ [c9, a9, n9], ∃ o, (D, o) ∈ news9 := fun D hD => by
    obtain ⟨ys, k, hm, -⟩ := hsub9 _ (List.mem_singleton_self _) D hD
    exact ⟨_, hm⟩
  obtain ⟨oc, hoc⟩ := inl c9 (by simp)
  obtain ⟨oa, hoa⟩ := inl a9 (by simp)
  obtain ⟨on, hon⟩ := inl n9 (by simp)
  have lDel' : ∀ p ∈ news9, @LT.lt Nat _ p.1 Del := lDel
  have lD0' : ∀ p ∈ news9, @LT.lt Nat _ p.1 hp0.objs.size := fun p hp => tb_ltOf lD0.2 p hp
  have lDs' : ∀ p ∈ news9, @LT.lt Nat _ p.1 Dsc := fun p hp => tb_ltOf lDsc.2.2 p hp
  have nlt : ∀ p ∈ news, @LT.lt Nat _ p.1 c9 ∧ @LT.lt Nat _ p.1 a9 ∧ @LT.lt Nat _ p.1 n9 := fun p hp => fr9 p (hs1 p hp)
  obtain ⟨osr, hsr⟩ : ∃ o, (src, o) ∈ news := by obtain ⟨_, _, _, _, _, e, _⟩ := SZ.ex; exact ⟨_, e⟩
  have hsr9 := hR9 _ hsr
  have GB0 : GB prog w src Tr dt R hp0.objs.size ((Del, lob [] 0) :: (Dsc, lob [.ref hp0.objs.size] 0) :: news.filter fun p => p.1 != src) [x9] [⟨Str.ofString "root", Str.ofString "", Str.ofString "", Str.ofString "", Str.ofString "", none, c9, a9, n9⟩] (S3 (fun _ => []) c9 a9 n9) (scopeF [⟨Str.ofString "root", Str.ofString "", Str.ofString "", Str.ofString "", Str.ofString "", none, c9, a9, n9⟩] (S3 (fun _ => []) c9 a9 n9) [0]) 1 ((Dsc, lob [.ref hp0.objs.size] 0) :: (hp0.objs.size, o0) :: (Del, lob [] 0) :: news9) := by
    rw [scopeF_root]
    refine ⟨TX9'.mono up, ⟨lo0, o0, _, _, List.mem_cons_of_mem _ List.mem_cons_self, kD, kFl, Nat.le_refl _, fun k => lk1 _ _ _⟩, rfl, SZ.mono (fun o ho => up _ (hR9 _ ho)), fun p hp => ?_, fun p hp => ?_, Ne.symm (Nat.ne_of_lt (hR1 _ hsr)), row1 src (Ne.symm (Nat.ne_of_lt (nlt _ hsr).1)) (Ne.symm (Nat.ne_of_lt (nlt _ hsr).2.1)) (Ne.symm (Nat.ne_of_lt (nlt _ hsr).2.2))⟩
    · rcases List.mem_cons.mp hp with rfl | hp
      · exact List.mem_cons_of_mem _ (List.mem_cons_of_mem _ List.mem_cons_self)
      rcases List.mem_cons.mp hp with rfl | hp
      · exact List.mem_cons_self
      · exact up _ (hR9 _ (List.mem_filter.mp hp).1)
    · rcases List.mem_cons.mp hp with rfl | hp
      · exact ⟨Ne.symm (Nat.ne_of_lt (lDel' _ hsr9)), Nat.ne_of_lt lD0.1, Ne.symm (Nat.ne_of_lt (lDel' _ hRm)), row1 _ (Nat.ne_of_lt (lDel' _ hoc)) (Nat.ne_of_lt (lDel' _ hoa)) (Nat.ne_of_lt (lDel' _ hon))⟩
      rcases List.mem_cons.mp hp with rfl | hp
      · exact ⟨Ne.symm (Nat.ne_of_lt (lDs' _ hsr9)), Ne.symm (Nat.ne_of_lt lDsc.1), Ne.symm (Nat.ne_of_lt (lDs' _ hRm)), row1 _ (Nat.ne_of_lt (lDs' _ hoc)) (Nat.ne_of_lt (lDs' _ hoa)) (Nat.ne_of_lt (lDs' _ hon))⟩
      · obtain ⟨hp, hq⟩ := List.mem_filter.mp hp
        have z := nlt p hp
        exact ⟨by simpa using hq, Nat.ne_of_lt (lD0' _ (hR9 _ hp)), Nat.ne_of_lt (hR1 p hp), row1 _ (Ne.symm (Nat.ne_of_lt z.1)) (Ne.symm (Nat.ne_of_lt z.2.1)) (Ne.symm (Nat.ne_of_lt z.2.2))⟩
  refine range_ind (fun i m' nw => ∃ d, GInv prog w src Tr dt R Del Dsc I news d i m' nw) ?turn ?done 3 0 _ _ rfl ?init
  case init =>
    refine ⟨⟨_, _, _, 0, [0], _, 1, _, [], [.ref hp0.objs.size], 0, 0, t9⟩, GB0.mono (fun p hp => List.mem_cons_of_mem _ hp), GT.root, rfl, .inr rfl, fun h => absurd h (by decide), rfl, Nat.le_refl _, Nat.le_refl _, rfl, rfl, rfl, fun h => absurd h (by decide), rfl, rfl, rfl, rfl, rfl, fun p hp => ?_⟩
    obtain ⟨i1, i2, i3, i4, i5⟩ := lI
    rcases List.mem_cons.mp hp with rfl | hp
    · exact Nat.ne_of_lt i1
    rcases List.mem_cons.mp hp with rfl | hp
    · exact Nat.ne_of_lt i2
    rcases List.mem_cons.mp hp with rfl | hp
    · exact Nat.ne_of_lt i3
    rcases List.mem_cons.mp hp with rfl | hp
    · exact Nat.ne_of_lt i4
    · exact Nat.ne_of_lt (tb_ltOf i5 p hp)
  case turn =>
    clear kF kN
    rintro i0 t0 m0 nw h tk0 it rfl hi0 ⟨⟨vs, rows, S, a, l, r, n, Dk, evs, svs, ke, ks, ta⟩, GX, GT0, hr, hk1, hk2, hll, hrl, hnl, hel, hsl, hla, hle, q1, q2, q3, q4, q5, hnI⟩ F1 N1
    dsimp only at GX GT0 hr hk1 hk2 hll hrl hnl hel hsl hla hle q1 q2 q3 q4 q5
    have GI := GB.cons_it (h₀ := h) (h := h) (L := src) (it := itR (0 + ((i0 + 1 : Nat) : Int)) ((3 : Nat) - ((i0 + 1 : Nat) : Int))) hnI GX
    have hDelI := hnI _ (GX.fx _ List.mem_cons_self)
    have hDscI := hnI _ (GX.fx _ (List.mem_cons_of_mem _ List.mem_cons_self))
    have GJ := GI.fix (FX2 := (Del, lob evs ke) :: (Dsc, lob svs ks) :: (I, itR (0 + ((i0 + 1 : Nat) : Int)) ((3 : Nat) - ((i0 + 1 : Nat) : Int))) :: news.filter fun p => p.1 != src) (fun p hp => by
      simp only [List.mem_cons] at hp
      rcases hp with rfl | rfl | rfl | hp
      · exact GI.fx _ (List.mem_cons_of_mem _ List.mem_cons_self)
      · exact GI.fx _ (List.mem_cons_of_mem _ (List.mem_cons_of_mem _ List.mem_cons_self))
      · exact GI.fx _ List.mem_cons_self
      · exact GI.fx _ (List.mem_cons_of_mem _ (List.mem_cons_of_mem _ (List.mem_cons_of_mem _ hp)))) (fun p hp => by
      simp only [List.mem_cons] at hp
      rcases hp with rfl | rfl | rfl | hp
      · exact GI.ax _ (List.mem_cons_of_mem _ List.mem_cons_self)
      · exact GI.ax _ (List.mem_cons_of_mem _ (List.mem_cons_of_mem _ List.mem_cons_self))
      · exact GI.ax _ List.mem_cons_self
      · exact GI.ax _ (List.mem_cons_of_mem _ (List.mem_cons_of_mem _ (List.mem_cons_of_mem _ hp))))
    have hf0 : ∀ p ∈ (I, itR (0 + ((i0 + 1 : Nat) : Int)) ((3 : Nat) - ((i0 + 1 : Nat) : Int))) :: news.filter fun p => p.1 != src, p.1 ≠ Del ∧ p.1 ≠ Dsc := fun p hp => by
      rcases List.mem_cons.mp hp with rfl | hp
      · exact ⟨Ne.symm hDelI, Ne.symm hDscI⟩
      · have hp := hR9 _ (List.mem_filter.mp hp).1
        exact ⟨Nat.ne_of_lt (lDel' _ hp), Nat.ne_of_lt (lDs' _ hp)⟩
    have hds : Del ≠ Dsc := Nat.ne_of_lt lDsc.2.1
    k_dflt (refine' grown_turn prog w ?hb p loose mean mg mb dp un gd cn cs ad ccd cl outer base _ L _ (fun y => if y = Str.ofString "turn" then some (.int (0 + (i0 : Int)) t0) else m0 y) _ _ _ ?hE _ ?B F1 ?X N1 ?T ?d1 ?d2 src Tr dt R Dk Del Dsc _ vs rows S a l r n ta evs svs ke ks GJ GT0 hr hk1 (by omega) (by omega) hds hf0 (by omega) (by omega) hla (by exact q1) (by exact q2) (by exact q3) (by exact q4) (by exact q5) ?kk; (case B => k_asm); (case X => k_asm); (case T => k_asm); (case d1 => ktr_room); (case d2 => ktr_units))
    case hb => k_is
    case hE => passes_own
    intro h7 tk7 nw7 vs7 rows7 S7 a7 l7 r7 n7 Dn7 ke7 ks7 t7 m7 GX7 G7 hr7 hk7 hl7 hrl7 hnl7 p1 p2 p3 p4 p5 F7 N7
    have hI7 := GX7.fx _ (List.mem_cons_of_mem _ (List.mem_cons_of_mem _ List.mem_cons_self))
    have GF := GX7.fix (FX2 := (Del, lob (evs ++ [.int (a7 : Int) t7]) ke7) :: (Dsc, lob (svs ++ [.ref Dn7]) ks7) :: news.filter fun p => p.1 != src) (fun p hp => by
      simp only [List.mem_cons] at hp
      rcases hp with rfl | rfl | hp
      · exact GX7.fx _ List.mem_cons_self
      · exact GX7.fx _ (List.mem_cons_of_mem _ List.mem_cons_self)
      · exact GX7.fx _ (List.mem_cons_of_mem _ (List.mem_cons_of_mem _ (List.mem_cons_of_mem _ hp)))) (fun p hp => by
      simp only [List.mem_cons] at hp
      rcases hp with rfl | rfl | hp
      · exact GX7.ax _ List.mem_cons_self
      · exact GX7.ax _ (List.mem_cons_of_mem _ List.mem_cons_self)
      · exact GX7.ax _ (List.mem_cons_of_mem _ (List.mem_cons_of_mem _ (List.mem_cons_of_mem _ hp))))
    refine unrEndK_filter F7 N7 hI7 ⟨⟨vs7, rows7, S7, a7, l7, r7, n7, Dn7, _, _, ke7, ks7, t7⟩, GF.own N7 hI7 (cn := "range_iterator") rfl (by decide) (by decide) (fun p hp => ?_), G7, hr7, .inl hk7, fun _ => hk7, (by dsimp only; omega), (by dsimp only; omega), (by dsimp only; omega), (by dsimp only; rw [List.length_append, hel]; rfl), (by dsimp only; rw [List.length_append, hsl]; rfl), (by dsimp only; rw [List.getLast?_append]; rfl), fun _ => (by dsimp only; rw [List.getLast?_append]; rfl), p1, p2, p3, p4, p5, fun p hp => by simpa using (List.mem_filter.mp hp).2⟩
    simp only [List.mem_cons] at hp
    rcases hp with rfl | rfl | hp
    · exact hDelI
    · exact hDscI
    · exact hnI _ (GX.fx _ (List.mem_cons_of_mem _ (List.mem_cons_of_mem _ hp)))
  case done =>
    clear kF kN
    rintro m0 nw ⟨⟨vs, rows, S, a, l, r, n, Dk, evs, svs, ke, ks, ta⟩, GX, GT0, hr, hk1, hk2, hll, hrl, hnl, hel, hsl, hla, hle, q1, q2, q3, q4, q5, hnI⟩ h tk0 F1 N1
    dsimp only at GX GT0 hr hk1 hk2 hll hrl hnl hel hsl hla hle q1 q2 q3 q4 q5
    obtain ⟨e0, e1, e2, rfl⟩ := len3 hel
    obtain ⟨y0, y1, y2, y3, rfl⟩ := len4 hsl
    have hz := hle (by decide)
    simp only [List.getLast?_cons_cons, List.getLast?_singleton, Option.some.injEq] at hz hla
    subst hz hla
    have hE1 := GX.fx _ List.mem_cons_self
    have hE2 := GX.fx _ (List.mem_cons_of_mem _ List.mem_cons_self)
    (repeat' (first | (k_unfold; (try dsimp only)) | (k_end; wrow_close) | walk1 | (dsimp only; walk1) | fail "no step"))
    (rename News _ _ _ _ => kN; rename Fr _ _ _ _ => kF; refine hret _ _ _ _ kF kN ?_)
    refine ⟨_, _, Del, _, ke, 0, Tr, dt, R, vs, rows, S, a, l, r, n, Dk, _, e0, e1, y1, y2, ta, rfl, List.mem_cons_self, List.mem_cons_of_mem _ (List.mem_cons_of_mem _ hE1), List.mem_cons_of_mem _ List.mem_cons_self, GX.mono (fun p hp => List.mem_cons_of_mem _ (List.mem_cons_of_mem _ hp)), GT0, hr, hk2 (by decide), hll, by omega, by omega, fun p hp hq => List.mem_cons_of_mem _ (List.mem_cons_of_mem _ (GX.fx p (List.mem_cons_of_mem _ (List.mem_cons_of_mem _ (List.mem_filter.mpr ⟨hp, by simpa using hq⟩)))))⟩
end
section
theorem pool_con (prog : Program) (w : World) (p : Program) (loose : List Str) (mean : ExcName → Option Value) (mg mb : Str → Option Value)
    (dp un : Nat) (gd : Option (List Code)) (cn : Str) (cs : Scope) (a : Addr) (ccd : Value) (cl : List (Str × Addr)) (outer : List Env) (A₀ : Around) (base h₀ : Heap) (L : Addr) (m : Str → Option Value) (s : Shared)
    (Q E : Value → Shared → Prop) (news : List (Addr × Obj))
    (B : Below A₀ base outer h₀) (F : Fr h₀ L s.heap m) (X : (hd.heap_39 w.params).In h₀) (N : News h₀ L s.heap news) (T : Top p loose mean mg mb h₀) (hk : cs.kind = .function) (hdp : dp + 10 < recursionLimit) (hu : un + 1000 < cLine)
    (sa : Addr) (vs : List Value) (ws : List Int) (hL : base.IsList sa vs.toArray) (hI : IntsAre vs ws) (hlen : ws.length ≤ 63)
    (hret : ∀ r news' h' tk', Fr h₀ L h' m → News h₀ L h' news' → (∃ src, r = .ref src ∧ SrcIs news' src ∧ (∀ p ∈ news, p ∈ news') ∧ ∀ p ∈ news, p.1 < src) → Q r { s with heap := h', toks := tk' }) :
    wpAny (model prog w) (ktrTop dp un gd cn cs L a ccd cl outer) (call (.ref 460) [.ref sa]) Q E s := by
  refine wpAny_call ?_
  k_dflt ktr_enter
  rename Below _ _ _ _ => B9
  have hLg := stays_list B9.stays hL
  clear hL
  iterate 8 (first | (k_unfold; (try dsimp only)) | (k_end; wrow_close) | walk1 | (dsimp only; walk1) | fail "no step")
  k_dflt (refine' ke_ne_ints (ys := []) (ms := []) ?ha ?hb hI .nil ?hu ?_; (case ha => exact stays_list (Fr.keep (by k_asm)) hLg); (case hb => exact ⟨_, News.get (by k_asm) List.mem_cons_self, rfl, _, rfl⟩); (case hu => ktr_units))
  cases hI with
  | nil =>
    rw [show (!decide (([] : List Int) = [])) = false from rfl]
    (repeat' (first | (k_unfold; (try dsimp only)) | (k_end; wrow_close) | walk1 | (dsimp only; walk1) | fail "no step"))
    rename News _ _ _ _ => kN; rename Fr _ _ _ _ => kF
    refine hret _ _ _ _ kF kN ⟨_, rfl, ⟨_, _, _, _, _, List.mem_cons_self, ?_, Int.fmod_nonneg_of_pos _ (by decide), Int.fmod_lt_of_pos _ (by decide)⟩, fun p hp => List.mem_cons_of_mem _ (List.mem_cons_of_mem _ hp), fun p hp => ?_⟩
    · refine Int.mul_nonneg ?_ ?_ <;> split <;> omega
    · rename (_ ∧ AllLt _ _) => l1
      exact tb_ltOf l1.2 p hp
  | cons x t hI =>
    rw [show (!decide (x :: _ = ([] : List Int))) = true from by simp]
    (repeat' (first | (k_unfold; (try dsimp only)) | (k_end; wrow_close) | walk1 | (dsimp only; walk1) | fail "no step"))
    rename News _ _ _ _ => kN; rename Fr _ _ _ _ => kF
    refine hret _ _ _ _ kF kN ⟨_, rfl, ⟨_, _, _, _, _, List.mem_cons_self, ?_, Int.fmod_nonneg_of_pos _ (by decide), Int.fmod_lt_of_pos _ (by decide)⟩, fun p hp => List.mem_cons_of_mem _ (List.mem_cons_of_mem _ hp), fun p hp => ?_⟩
    · refine Int.mul_nonneg ?_ ?_ <;> split <;> omega
    · rename (_ ∧ AllLt _ _) => l1
      exact tb_ltOf l1.2 p hp
end
section
/-- a row that the law has made -/
noncomputable def RowT (news : List (Addr × Obj)) (v : Value) (r : RowV) : Prop :=
  ∃ (a b : Addr) (n n' : Nat) (tu tl : Tok), v = .ref a ∧ (a, tob [.ref b, .bool r.g] n) ∈ news ∧ (b, tob [ov tu r.u, ov tl r.l] n') ∈ news
inductive RowsT (news : List (Addr × Obj)) : List Value → List RowV → Prop
  | nil : RowsT news [] []
  | cons {v vs r rs} : RowT news v r → RowsT news vs rs → RowsT news (v :: vs) (r :: rs)
theorem RowT.tups {n1 n2 : List (Addr × Obj)} (hs : ∀ p ∈ n1, p.2.cls = .type "tuple" → p ∈ n2) {v : Value} {r : RowV} : RowT n1 v r → RowT n2 v r := by
  rintro ⟨a, b, n, n', tu, tl, e, h1, h2⟩; exact ⟨a, b, n, n', tu, tl, e, hs _ h1 rfl, hs _ h2 rfl⟩
theorem RowsT.tups {n1 n2 : List (Addr × Obj)} (hs : ∀ p ∈ n1, p.2.cls = .type "tuple" → p ∈ n2) : ∀ {vs : List Value} {rs : List RowV}, RowsT n1 vs rs → RowsT n2 vs rs := by
  intro vs rs h
  induction h with
  | nil => exact .nil
  | cons a _ ih => exact .cons (a.tups hs) ih
theorem RowsT.snoc {news : List (Addr × Obj)} {v : Value} {r : RowV} : ∀ {vs : List Value} {rs : List RowV}, RowsT news vs rs → RowT news v r → RowsT news (vs ++ [v]) (rs ++ [r]) := by
  intro vs rs h hr
  induction h with
  | nil => exact .cons hr .nil
  | cons a _ ih => exact .cons a ih
theorem od_dat {news : List (Addr × Obj)} (t : Tok) : ∀ o : Option Str, DatIn news (ov t o) (od o)
  | none => .none
  | some x => .str x t
theorem RowT.dat {news : List (Addr × Obj)} {v : Value} {r : RowV} : RowT news v r → DatIn news v r.dat := by
  rintro ⟨_, _, _, _, tu, tl, rfl, h1, h2⟩; exact .tuple h1 (.cons (.tuple h2 (.cons (od_dat tu r.u) (.cons (od_dat tl r.l) .nil))) (.cons (.bool r.g) .nil))
theorem RowsT.dat {news : List (Addr × Obj)} : ∀ {vs : List Value} {rs : List RowV}, RowsT news vs rs → DatAll news vs (rs.map RowV.dat) := by
  intro vs rs h
  induction h with
  | nil => exact .nil
  | cons a _ ih => exact .cons a.dat ih
section
variable {M : Model} {A : Around} {E : Value → Shared → Prop} {s : Shared} {h₀ : Heap} {L a : Addr} {m : Str → Option Value} {cn : Str} {cs : Scope} {ccd : Value} {cl : List (Str × Addr)}
  {x : Str} {v : Value} {Q : Unit → Shared → Prop} {news : List (Addr × Obj)} {c : Addr} {o : Obj} {v₀ : Option Value}
theorem cell_put (F : Fr h₀ L s.heap m) (N : News h₀ L s.heap news) (hc : cl.lookup x = some c) (hm : (c, o) ∈ news) (hd : o.data = .cell v₀)
    (h : ∀ h' o', Fr h₀ L h' m → News h₀ L h' ((c, o') :: news.filter fun p => p.1 != c) → o'.data = .cell (some v) → Q () { s with heap := h' })
    (hk : cs.kind = .function := by rfl) (hx : (envX cn cs L a ccd cl).kindOf x = some .cell := by rfl) : wpAny M A (storeName (envX cn cs L a ccd cl) x v) Q E s := by
  have hmem := N _ hm
  refine wpAny_storeName_cell hk hx hc ⟨o, hmem.1, hd⟩ fun h' hv hs => ?_
  obtain ⟨o', ho', hd'⟩ := hv
  refine h h' o' ⟨F.ns.sameBut hs (Ne.symm hmem.2.1), fun b ob e => (hs.2 b (fun q => ?_)).trans (F.keep b ob e), F.above⟩ (fun p hp => ?_) hd'
  · rw [q, hmem.2.2] at e; cases e
  · rcases List.mem_cons.mp hp with rfl | hp
    · exact ⟨ho', hmem.2⟩
    · obtain ⟨h1, h2⟩ := List.mem_filter.mp hp
      have z := N p h1
      exact ⟨hs.extBut _ _ (by simpa using h2) z.1, z.2⟩
end
structure LT (src Th Lq : Addr) (tv : List Value) (nw : List (Addr × Obj)) : Prop where
  SZ : SrcIs nw src
  ct : ∃ o, (Lq + 1 + 1, o) ∈ nw ∧ o.data = .cell (some (.ref Th))
  cs : ∃ o, (Lq + 1, o) ∈ nw ∧ o.data = .cell (some (.ref src))
  th : ∃ k, (Th, lob tv k) ∈ nw
  hne : Th ≠ src
  tv : ∀ v ∈ tv, ∃ (b : Addr) (n' : Nat) (tu tl : Tok) (u l : Option Str), v = .ref b ∧ (b, tob [ov tu u, ov tl l] n') ∈ nw ∧ RowV.Ok ⟨u, l, true⟩
  tb : ∃ ps, (497, tabObj ps) ∈ nw
theorem ne_src {h₀ h : Heap} {L src x : Addr} {o : Obj} {n1 : List (Addr × Obj)} (N : News h₀ L h n1) (SZ : SrcIs n1 src) (hm : (x, o) ∈ n1) (hd : o.cls ≠ .type "list" ∨ ∀ vs n, o.data ≠ .seq vs n) : x ≠ src := by
  rintro rfl
  obtain ⟨a, b, ta, tb, n, e, -⟩ := SZ.ex
  have q := Option.some.inj ((N.get hm).symm.trans (N.get e))
  rcases hd with hd | hd
  · exact hd (by rw [q])
  · exact hd _ _ (by rw [q])
theorem LT.srcs {h₀ h : Heap} {L src Th Lq : Addr} {tv : List Value} {n1 n2 : List (Addr × Obj)} (N : News h₀ L h n1) (up : ∀ p ∈ n1, p.1 ≠ src → p ∈ n2) (SZ2 : SrcIs n2 src) (X : LT src Th Lq tv n1) : LT src Th Lq tv n2 where
  SZ := SZ2
  ct := by obtain ⟨o, a, b⟩ := X.ct; exact ⟨o, up _ a (ne_src N X.SZ a (.inr fun _ _ q => by rw [b] at q; cases q)), b⟩
  cs := by obtain ⟨o, a, b⟩ := X.cs; exact ⟨o, up _ a (ne_src N X.SZ a (.inr fun _ _ q => by rw [b] at q; cases q)), b⟩
  th := by obtain ⟨k, a⟩ := X.th; exact ⟨k, up _ a X.hne⟩
  hne := X.hne
  tv := fun v hv => by obtain ⟨b, n', tu, tl, u, l, e, a, c⟩ := X.tv v hv; exact ⟨b, n', tu, tl, u, l, e, up _ a (ne_src N X.SZ a (.inl fun q => nomatch PySem.Value.type.inj q)), c⟩
  tb := by obtain ⟨ps, a⟩ := X.tb; exact ⟨ps, up _ a (ne_src N X.SZ a (.inr fun _ _ q => by cases q))⟩
theorem LT.mono {src Th Lq : Addr} {tv : List Value} {n1 n2 : List (Addr × Obj)} (up : ∀ p ∈ n1, p ∈ n2) (X : LT src Th Lq tv n1) : LT src Th Lq tv n2 where
  SZ := X.SZ.mono fun o h => up _ h
  ct := by obtain ⟨o, a, b⟩ := X.ct; exact ⟨o, up _ a, b⟩
  cs := by obtain ⟨o, a, b⟩ := X.cs; exact ⟨o, up _ a, b⟩
  th := by obtain ⟨k, a⟩ := X.th; exact ⟨k, up _ a⟩
  hne := X.hne
  tv := fun v hv => by obtain ⟨b, n', tu, tl, u, l, e, a, c⟩ := X.tv v hv; exact ⟨b, n', tu, tl, u, l, e, up _ a, c⟩
  tb := by obtain ⟨ps, a⟩ := X.tb; exact ⟨ps, up _ a⟩
theorem RowsT.srcs {h₀ h : Heap} {L src : Addr} {n1 n2 : List (Addr × Obj)} (N : News h₀ L h n1) (SZ : SrcIs n1 src) (up : ∀ p ∈ n1, p.1 ≠ src → p ∈ n2) {vs : List Value} {rs : List RowV} (X : RowsT n1 vs rs) : RowsT n2 vs rs :=
  X.tups fun p hp hc => up p hp (ne_src (o := p.2) N SZ hp (.inl fun q => nomatch PySem.Value.type.inj (hc.symm.trans q)))
theorem body_ofL {K : Frag} {f : Addr} {y : Obj} {P : Prop} {oc : Value} {od : Option Addr} {name qual : Str} {params : Arguments} {body : List Stmt} {scope : Scope} {dV kV doc pm cdv ct : Value} {an : Option Addr} {osl : Array (Option Value)}
  (h1 : K.lookup f = some ⟨oc, od, .func (fnOf name qual params body scope dV kV doc pm an cdv ct), osl⟩) (h2 : K.lookup f = some y) (k : (⟨oc, od, .func (fnOf name qual params body scope dV kV doc pm an cdv ct), osl⟩ : Obj) = y → P) : P := k (Option.some.inj (h1.symm.trans h2))
theorem ok_nn {g : Bool} : RowV.Ok ⟨none, none, g⟩ := ⟨fun _ => rfl, fun _ h => (nomatch h), fun _ h => (nomatch h)⟩
theorem ok_sn {g : Bool} {x : Str} (hx : PyData.strOk x = true) : RowV.Ok ⟨some x, none, g⟩ := ⟨fun _ => rfl, fun _ h => Option.some.inj h ▸ hx, fun _ h => (nomatch h)⟩
theorem ok_ss {g : Bool} {x y : Str} (hx : PyData.strOk x = true) (hy : PyData.strOk y = true) : RowV.Ok ⟨some x, some y, g⟩ := ⟨fun h => (nomatch h), fun _ h => Option.some.inj h ▸ hx, fun _ h => Option.some.inj h ▸ hy⟩
theorem mem_put {c : Addr} {o' : Obj} {l : List (Addr × Obj)} {p : Addr × Obj} (hp : p ∈ l) (hq : p.1 ≠ c) : p ∈ (c, o') :: l.filter fun p => p.1 != c := List.mem_cons_of_mem _ (List.mem_filter.mpr ⟨hp, by simpa using hq⟩)
theorem law_tail2 (prog : Program) (w : World) {oc9 : Value} {od : Option Addr} {name qual : Str} {params : Arguments} {s1 s2 s3 s4 s5 s6 s7 : Stmt} {scope : Scope} {dV kV doc pm9 cdv ct9 : Value} {an : Option Addr} {osl : Array (Option Value)}
  (hb : (hd.heap_39 w.params).lookup 515 = some ⟨oc9, od, .func (fnOf name qual params [s1, s2, s3, s4, s5, s6, s7] scope dV kV doc pm9 an cdv ct9), osl⟩)
    (p : Program) (loose : List Str) (mean : ExcName → Option Value) (mg mb : Str → Option Value) (g : Heap) (Lq fa : Addr) (cd : Value) (m : Str → Option Value) (s : Shared)
    (Q : Flow → Shared → Prop) (E : Value → Shared → Prop) (nw : List (Addr × Obj)) (src Th : Addr) (tv : List Value)
    (B : Below callerA g [] g) (F : Fr g Lq s.heap m) (X : (hd.heap_39 w.params).In g) (N : News g Lq s.heap nw) (T : Top p loose mean mg mb g)
    (LX : LT src Th Lq tv nw) (ht0 : 0 < tv.length) (ht1 : tv.length < 60)
    (k : ∀ h' tk' m' n2, Fr g Lq h' m' → News g Lq h' n2 → (∃ ps, (497, tabObj ps) ∈ n2) → Q (.ret (.bool true)) { s with heap := h', toks := tk' }) :
    wpAny (model prog w) (callerA.deeper (envOfC qual scope Lq fa cd)) (execs [s6, s7] (envOfC qual scope Lq fa cd)) Q E s := by
  apply body7 hb
  case hl => k_is
  clear hb; intro _
  (first | (refine env_let (t := fun e => execs _ e) ?_; intro ev Av) | (refine env_let (t := fun e => exec _ e) ?_; intro ev Av))
  obtain ⟨oC, hcm, hcd⟩ := LX.cs
  (first | (k_unfold; (try dsimp only)) | (k_end; wrow_close) | walk1 | (dsimp only; walk1) | fail "no step")
  k_dflt (refine LCg.Assign_ListComp_U (F₀ := F) (by rfl) (by with_unfolding_all rfl) (by with_unfolding_all rfl) (by decide) (by rfl) (by decide) (by rfl) (by rfl) (by rfl) ?_)
  (repeat ((fail_if_success (k_dflt (show wpAny _ _ (call (.ref 467) _) _ _ _))); (first | (k_unfold; (try dsimp only)) | (k_end; wrow_close) | walk1 | (dsimp only; walk1) | fail "no step"))); (try dsimp only [List.nil_append, List.cons_append])
  k_dflt (show wpAny _ _ (call (.ref 467) [.ref src, .int 6 _]) _ _ _)
  (k_dflt (refine' con_use (take_src _ _ _ src LX.SZ _ _ (by decide) (by decide)) ?uB ?uF ?uX ?uN ?uT ?uk ?ud ?uu ?_; (case uB => k_asm); (case uF => k_asm); (case uX => k_asm); (case uN => k_asm);  (case uT => k_asm); (case uk => first | exact rfl | assumption); (case ud => ktr_room); (case uu => ktr_units)); rintro r9 news9 h9 tk9 F9 N9 ⟨x, t, rfl, hx0, hx1, Z9, hs9⟩; (try dsimp only))
  have LX9 := LX.srcs N hs9 Z9
  iterate 2 (first | (k_unfold; (try dsimp only)) | (k_end; wrow_close) | walk1 | (dsimp only; walk1) | fail "no step")
  rename_i hp0 tk0 t0 u0 v0 hR F0 N0 up0
  obtain ⟨n, rfl⟩ := Int.eq_ofNat_of_zero_le hx0
  have hn6 : n < 6 := Int.ofNat_lt.mp hx1
  clear F N hcm hcd oC LX hs9 Z9 up0
  k_dflt (refine' LCg.CompSrc.range (n := n) (by rfl) F0 N0 hR ?sm ?rs ?sz ?_; (case sm => exact small_one (by omega) (by omega) (by omega) (by omega)); (case rs => rw [rangeSize_nat]; omega); (case sz => rw [sizeLine_eq]; omega))
  intro g'
  refine rest_ind (fun i ys nw => LT src Th Lq tv nw ∧ ∃ rs : List RowV, rs.length = i ∧ RowsT nw ys rs ∧ ∀ r ∈ rs, r.Ok) n ?step ?fin _ 0 _ _ (Nat.add_zero _) ⟨LX9, [], rfl, .nil, fun r hr => nomatch hr⟩
  case step =>
    rintro i ys nz hi ⟨LZ, rs, hrl, hrs, hok⟩ v hv I oI C oC D m₂ h tk E' zQ zH q1 q2 F2 N2 o2 q4
    obtain ⟨oS, hsm, hsd⟩ := LZ.cs
    obtain ⟨oT, htm, htd⟩ := LZ.ct
    obtain ⟨kt, hth⟩ := LZ.th
    have up3 : ∀ p ∈ nz, p ∈ (I, oI) :: (C, oC) :: (D, LCg.lst ys) :: nz := fun p hp => List.mem_cons_of_mem _ (List.mem_cons_of_mem _ (List.mem_cons_of_mem _ hp))
    have hsm' := up3 _ hsm
    have htm' := up3 _ htm
    (with_reducible show wpAny _ _ _ _ _ _); (try k_fold)
    have Nz : True ∧ News g Lq h nz := ⟨trivial, fun p hp => N2 p (up3 p hp)⟩
    (repeat ((fail_if_success (k_dflt (show wpAny _ _ (call (.ref 474) _) _ _ _))); (first | (k_unfold; (try dsimp only)) | (k_end; wrow_close) | walk1 | (dsimp only; walk1) | fail "no step"))); (try dsimp only [List.nil_append, List.cons_append])
    k_dflt (show wpAny _ _ (call (.ref 474) [.ref src, .ref Th]) _ _ _)
    (k_dflt (refine' con_use (one_con _ _ _ src (LZ.SZ.mono fun o ho => up3 _ ho) Th tv kt (up3 _ hth) LZ.hne ht0 ht1 (fun v hv => by obtain ⟨b, _, _, _, _, _, rfl, _⟩ := LZ.tv v hv; rfl)) ?uB ?uF ?uX ?uN ?uT ?uk ?ud ?uu ?_; (case uB => k_asm); (case uF => k_asm); (case uX => k_asm); (case uN => k_asm);  (case uT => k_asm); (case uk => first | exact rfl | assumption); (case ud => ktr_room); (case uu => ktr_units)); rintro r9 news9 h9 tk9 F9 N9 ⟨hr9, Z9, hs9⟩; (try dsimp only))
    obtain ⟨b1, nb, tu, tl, U, V, rfl, hb1, hok1⟩ := LZ.tv _ hr9
    have hne9 : ∀ p ∈ nz, p.1 ≠ src → p ∈ news9 := fun p hp => hs9 p (up3 p hp)
    have hsm9 : (Lq + 1, oS) ∈ news9 := hne9 _ hsm (ne_src Nz.2 LZ.SZ hsm (.inr fun _ _ q => by rw [hsd] at q; cases q))
    (repeat ((fail_if_success (k_dflt (show wpAny _ _ (call (.ref 467) _) _ _ _))); (first | (k_unfold; (try dsimp only)) | (k_end; wrow_close) | walk1 | (dsimp only; walk1) | fail "no step"))); (try dsimp only [List.nil_append, List.cons_append])
    k_dflt (show wpAny _ _ (call (.ref 467) [.ref src, .int 2 _]) _ _ _)
    (k_dflt (refine' con_use (take_src _ _ _ src Z9 _ _ (by decide) (by decide)) ?uB ?uF ?uX ?uN ?uT ?uk ?ud ?uu ?_; (case uB => k_asm); (case uF => k_asm); (case uX => k_asm); (case uN => k_asm);  (case uT => k_asm); (case uk => first | exact rfl | assumption); (case ud => ktr_room); (case uu => ktr_units)); rintro r9 news9 h9 tk9 F9 N9 ⟨x8, t8, rfl, h80, h81, Z8, hs8⟩; (try dsimp only))
    iterate 5 (first | (k_unfold; (try dsimp only)) | (k_end; wrow_close) | walk1 | (dsimp only; walk1) | fail "no step")
    rename_i N7 hh9 tt9 D7 hh7 F8 N8 l8
    have o3 := o2.mem
    have hsn : ∃ o, (src, o) ∈ nz := by obtain ⟨_, _, _, _, _, e, _⟩ := LZ.SZ.ex; exact ⟨_, e⟩
    obtain ⟨osr, hsr⟩ := hsn
    obtain ⟨n1, n2, n3⟩ := o3 _ hsr
    have hup : ∀ p ∈ (I, oI) :: (C, oC) :: (D, LCg.lst ys) :: nz, p.1 ≠ src → p ∈ news9 := fun p hp q => hs8 p (hs9 p hp q) q
    have LN : LT src Th Lq tv (news9.filter fun p => p.1 != I && p.1 != C && p.1 != D) := by
      refine LZ.srcs Nz.2 (fun p hp hq => List.mem_filter.mpr ⟨hup p (up3 p hp) hq, ?_⟩) (Z8.mono fun o ho => List.mem_filter.mpr ⟨ho, ?_⟩)
      · obtain ⟨z1, z2, z3⟩ := o3 p hp
        simp [z1, z2, z3]
      · simp [n1, n2, n3]
    have RN : RowsT (news9.filter fun p => p.1 != I && p.1 != C && p.1 != D) ys rs := by
      refine hrs.srcs Nz.2 LZ.SZ (fun p hp hq => List.mem_filter.mpr ⟨hup p (up3 p hp) hq, ?_⟩)
      obtain ⟨z1, z2, z3⟩ := o3 p hp
      simp [z1, z2, z3]
    have hb2 : (b1, tob [ov tu U, ov tl V] nb) ∈ news9.filter fun p => p.1 != I && p.1 != C && p.1 != D := by
      have hq := ne_src Nz.2 LZ.SZ hb1 (.inl fun q => nomatch PySem.Value.type.inj q)
      obtain ⟨z1, z2, z3⟩ := o3 _ hb1
      refine List.mem_filter.mpr ⟨hup _ (up3 _ hb1) hq, ?_⟩
      simp only [Ne] at z1 z2 z3
      simp [z1, z2, z3]
    have mI := hup (I, oI) List.mem_cons_self (Ne.symm n1)
    have mC := hup (C, oC) (List.mem_cons_of_mem _ List.mem_cons_self) (Ne.symm n2)
    have mD := hup (D, LCg.lst ys) (List.mem_cons_of_mem _ (List.mem_cons_of_mem _ List.mem_cons_self)) (Ne.symm n3)
    have hups : ∀ p ∈ news9.filter (fun p => p.1 != I && p.1 != C && p.1 != D), p ∈ (D7, tob [.ref b1, .bool (x8 == 0)]) :: news9.filter (fun p => p.1 != I && p.1 != C && p.1 != D) := fun p hp => List.mem_cons_of_mem _ hp
    refine zH _ _ ?_; refine LCg.CompEnd.intro F8 N8 ((D7, tob [.ref b1, .bool (x8 == 0)]) :: news9.filter fun p => p.1 != I && p.1 != C && p.1 != D) (fun p hp => ?_) (LCg.Off3.of fun p hp => ?_) trivial ⟨LN.mono hups, rs ++ [⟨U, V, x8 == 0⟩], by rw [List.length_append, hrl]; rfl, (RN.tups fun p hp _ => hups p hp).snoc ⟨_, _, _, _, tu, tl, rfl, List.mem_cons_self, hups _ hb2⟩, fun r hr => ?_⟩
    · simp only [List.mem_cons] at hp
      rcases hp with rfl | rfl | rfl | rfl | hp
      · exact List.mem_cons_of_mem _ mI
      · exact List.mem_cons_of_mem _ mC
      · exact List.mem_cons_of_mem _ mD
      · exact List.mem_cons_self
      · exact List.mem_cons_of_mem _ (List.mem_filter.mp hp).1
    · rcases List.mem_cons.mp hp with rfl | hp
      · exact ⟨Ne.symm (Nat.ne_of_lt (l8 _ mI)), Ne.symm (Nat.ne_of_lt (l8 _ mC)), Ne.symm (Nat.ne_of_lt (l8 _ mD))⟩
      · have := (List.mem_filter.mp hp).2
        simpa [and_assoc] using this
    · rcases List.mem_append.mp hr with hr | hr
      · exact hok r hr
      · obtain rfl := List.mem_singleton.mp hr
        exact ⟨hok1.ul, hok1.su, hok1.sl⟩
  case fin =>
    rintro ys nz ⟨LZ, rs, hrl, hrs, hok⟩
    iterate 1 (first | (k_unfold; (try dsimp only)) | (k_end; wrow_close) | walk1 | (dsimp only; walk1) | fail "no step")
    rename_i D7 hh7 tk7 F8 N8 o8
    (repeat ((fail_if_success (k_dflt (show wpAny _ _ (call (.ref 510) _) _ _ _))); (first | (k_unfold; (try dsimp only)) | (k_end; wrow_close) | walk1 | (dsimp only; walk1) | fail "no step"))); (try dsimp only [List.nil_append, List.cons_append])
    have hLl : LCg.lst ys = lob ys ys.length := rfl
    k_dflt (show wpAny _ _ (call (.ref 510) [.ref D7]) _ _ _)
    (k_dflt (refine' con_use (spaces_con _ _ _ D7 ys ys.length rs List.mem_cons_self (hrs.dat.mono fun p hp => List.mem_cons_of_mem _ hp) (by omega) hok) ?uB ?uF ?uX ?uN ?uT ?uk ?ud ?uu ?_; (case uB => k_asm); (case uF => k_asm); (case uX => k_asm); (case uN => k_asm);  (case uT => k_asm); (case uk => first | exact rfl | assumption); (case ud => ktr_room); (case uu => ktr_units)); rintro r9 news9 h9 tk9 F9 N9 ⟨rfl, hs9⟩; (try dsimp only))
    (repeat' (first | (k_unfold; (try dsimp only)) | (k_end; wrow_close) | walk1 | (dsimp only; walk1) | fail "no step"))
    rename News _ _ _ _ => kN; rename Fr _ _ _ _ => kF
    obtain ⟨ps, hps⟩ := LZ.tb
    exact k _ _ _ _ kF kN ⟨ps, hs9 _ (List.mem_cons_of_mem _ hps)⟩
theorem law_tail (prog : Program) (w : World) {oc9 : Value} {od : Option Addr} {name qual : Str} {params : Arguments} {s1 s2 s3 s4 s5 s6 s7 : Stmt} {scope : Scope} {dV kV doc pm9 cdv ct9 : Value} {an : Option Addr} {osl : Array (Option Value)}
  (hb : (hd.heap_39 w.params).lookup 515 = some ⟨oc9, od, .func (fnOf name qual params [s1, s2, s3, s4, s5, s6, s7] scope dV kV doc pm9 an cdv ct9), osl⟩)
    (p : Program) (loose : List Str) (mean : ExcName → Option Value) (mg mb : Str → Option Value) (g : Heap) (Lq fa : Addr) (cd : Value) (m : Str → Option Value) (s : Shared)
    (Q : Flow → Shared → Prop) (E : Value → Shared → Prop) (nws : List (Addr × Obj)) (src : Addr) (oS oT : Obj) (zT : Option Value) (ps : Array Value)
    (B : Below callerA g [] g) (F : Fr g Lq s.heap m) (X : (hd.heap_39 w.params).In g) (N : News g Lq s.heap ((Lq + 1 + 1, oT) :: (Lq + 1, oS) :: nws)) (T : Top p loose mean mg mb g)
    (dS : oS.data = .cell (some (.ref src))) (dT : oT.data = .cell zT) (SZ : SrcIs nws src) (hof : ∀ p ∈ nws, p.1 ≠ Lq + 1 + 1 ∧ p.1 ≠ Lq + 1) (tbm : (497, tabObj ps) ∈ nws)
    (k : ∀ h' tk' m' n2, Fr g Lq h' m' → News g Lq h' n2 → (∃ ps, (497, tabObj ps) ∈ n2) → Q (.ret (.bool true)) { s with heap := h', toks := tk' }) :
    wpAny (model prog w) (callerA.deeper (envOfC qual scope Lq fa cd)) (execs [s5, s6, s7] (envOfC qual scope Lq fa cd)) Q E s := by
  apply body7 hb
  case hl => k_is
  clear hb; intro hb
  (first | (refine env_let (t := fun e => execs _ e) ?_; intro ev Av) | (refine env_let (t := fun e => exec _ e) ?_; intro ev Av))
  iterate 61 (first | (k_unfold; (try dsimp only)) | (k_end; wrow_close) | walk1 | (dsimp only; walk1) | fail "no step")
  rename News _ _ _ _ => kN; rename Fr _ _ _ _ => kF
  rename_i a1 hh1 l1 a2 hh2 l2 a3 hh3 l3 a4 hh4 l4 a5 hh5 l5 a6 hh6 l6 a7 hh7 l7 Th hh8 l8
  k_dflt (refine' cell_put kF kN ?c ?m dT ?_ ?a ?b; (case c => rfl); (case m => (repeat (first | exact List.mem_cons_self | apply List.mem_cons_of_mem))); (case a => rfl); (case b => rfl))
  intro h1 o1 F1 N1 d1
  have hts : src < Th := by
    obtain ⟨_, _, _, _, _, e, _⟩ := SZ.ex
    exact tb_ltOf l8.2.2.2.2.2.2.2.2.2 _ e
  have hll : (Lq + 1 : Nat) ≠ Lq + 1 + 1 := Nat.ne_of_lt (Nat.lt_succ_self _)
  refine law_tail2 prog w hb p loose mean mg mb g Lq fa cd m _ Q E _ src Th [.ref a1, .ref a2, .ref a3, .ref a4, .ref a5, .ref a6, .ref a7] B F1 X N1 T ⟨?_, ?_, ?_, ?_, ?_, ?_, ?_⟩ (by show 0 < 7; decide) (by show 7 < 60; decide) ?_
  · refine SZ.mono fun o ho => mem_put ?_ (hof _ ho).1
    repeat (first | exact ho | apply List.mem_cons_of_mem)
  · exact ⟨_, List.mem_cons_self, d1⟩
  · exact ⟨_, mem_put (p := (Lq + 1, oS)) (by (repeat (first | exact List.mem_cons_self | apply List.mem_cons_of_mem))) hll, dS⟩
  · exact ⟨0, mem_put (p := (Th, _)) List.mem_cons_self (Ne.symm (Nat.ne_of_lt l8.2.2.2.2.2.2.2.1))⟩
  · exact Ne.symm (Nat.ne_of_lt hts)
  · intro v hv
    simp only [List.mem_cons, List.not_mem_nil, or_false] at hv
    rcases hv with rfl | rfl | rfl | rfl | rfl | rfl | rfl
    · exact ⟨a1, 0, 0, 0, none, none, rfl, mem_put (p := (a1, _)) (by (repeat (first | exact List.mem_cons_self | apply List.mem_cons_of_mem))) (Ne.symm (Nat.ne_of_lt l1.1)), ok_nn⟩
    · exact ⟨a2, 0, _, 0, some (Str.ofString ""), none, rfl, mem_put (p := (a2, _)) (by (repeat (first | exact List.mem_cons_self | apply List.mem_cons_of_mem))) (Ne.symm (Nat.ne_of_lt l2.2.1)), ok_sn (by decide +kernel)⟩
    · exact ⟨a3, 0, _, 0, some (Str.ofString "u:1"), none, rfl, mem_put (p := (a3, _)) (by (repeat (first | exact List.mem_cons_self | apply List.mem_cons_of_mem))) (Ne.symm (Nat.ne_of_lt l3.2.2.1)), ok_sn (by decide +kernel)⟩
    · exact ⟨a4, 0, _, _, some (Str.ofString ""), some (Str.ofString "a"), rfl, mem_put (p := (a4, _)) (by (repeat (first | exact List.mem_cons_self | apply List.mem_cons_of_mem))) (Ne.symm (Nat.ne_of_lt l4.2.2.2.1)), ok_ss (by decide +kernel) (by decide +kernel)⟩
    · exact ⟨a5, 0, _, _, some (Str.ofString "u:1"), some (Str.ofString "a"), rfl, mem_put (p := (a5, _)) (by (repeat (first | exact List.mem_cons_self | apply List.mem_cons_of_mem))) (Ne.symm (Nat.ne_of_lt l5.2.2.2.2.1)), ok_ss (by decide +kernel) (by decide +kernel)⟩
    · exact ⟨a6, 0, _, _, some (Str.ofString "u:1"), some (Str.ofString "b"), rfl, mem_put (p := (a6, _)) (by (repeat (first | exact List.mem_cons_self | apply List.mem_cons_of_mem))) (Ne.symm (Nat.ne_of_lt l6.2.2.2.2.2.1)), ok_ss (by decide +kernel) (by decide +kernel)⟩
    · exact ⟨a7, 0, _, _, some (Str.ofString "u:2"), some (Str.ofString "b"), rfl, mem_put (p := (a7, _)) (by (repeat (first | exact List.mem_cons_self | apply List.mem_cons_of_mem))) (Ne.symm (Nat.ne_of_lt l7.2.2.2.2.2.2.1)), ok_ss (by decide +kernel) (by decide +kernel)⟩
  · refine ⟨ps, mem_put ?_ (hof _ tbm).1⟩
    repeat (first | exact tbm | apply List.mem_cons_of_mem)
  · exact fun h' tk' m' n2 a b c => k h' tk' m' n2 a b c
end
section
section
variable {prog : Program} {w : World} {n1 n2 : List (Addr × Obj)}
theorem TreeIs.nocell {T dt R : Addr} {vs : List Value} {rows : List NRow} {S : Addr → List Int} (hs : ∀ p ∈ n1, (∀ v, p.2.data ≠ .cell v) → p ∈ n2) (X : TreeIs n1 T dt R vs rows S) : TreeIs n2 T dt R vs rows S where
  inst := hs _ X.inst (fun _ q => by cases q)
  dict := by obtain ⟨h, tk, e⟩ := X.dict; exact ⟨h, tk, hs _ e (fun _ q => by cases q)⟩
  lst := by obtain ⟨n, e⟩ := X.lst; exact ⟨n, hs _ e (fun _ q => by cases q)⟩
  len := X.len
  small := X.small
  row := fun i r e => by obtain ⟨v, a, x, d, f, t, u, b, c, d'⟩ := X.row i r e; exact ⟨v, a, x, d, f, t, u, b, hs _ c (fun _ q => by cases q), hs _ d' (fun _ q => by cases q)⟩
  sub := fun r hr D hD => by obtain ⟨ys, k, a, b, c⟩ := X.sub r hr D hD; exact ⟨ys, k, hs _ a (fun _ q => by cases q), b, c⟩
  nd := X.nd
theorem ScopeD.nocell {D : Addr} {f : Str → Option Str} {n : Nat} (hs : ∀ p ∈ n1, (∀ v, p.2.data ≠ .cell v) → p ∈ n2) (Z : ScopeD prog w n1 D f n) : ScopeD prog w n2 D f n :=
  ⟨Z.lo, by obtain ⟨o, kvs, DD, a, b, c⟩ := Z.ex; exact ⟨o, kvs, DD, hs _ a (fun vs q => by obtain ⟨es, ep, -, hd, -⟩ := b; rw [hd] at q; cases q), b, c⟩⟩
theorem SrcIs.nocell {src : Addr} (hs : ∀ p ∈ n1, (∀ v, p.2.data ≠ .cell v) → p ∈ n2) (Z : SrcIs n1 src) : SrcIs n2 src :=
  by obtain ⟨a, b, ta, tb, n, e, r⟩ := Z.ex; exact ⟨a, b, ta, tb, n, hs _ e (fun _ q => by cases q), r⟩
/-- a ledger without two cells -/
theorem off_cells {h₀ h : Heap} {L c d : Addr} {oc od : Obj} {zc zd : Option Value} (N : News h₀ L h n1) (hc : (c, oc) ∈ n1) (hd : (d, od) ∈ n1) (ec : oc.data = .cell zc) (ed : od.data = .cell zd) :
    ∀ p ∈ n1, (∀ v, p.2.data ≠ .cell v) → p ∈ n1.filter fun p => p.1 != c && p.1 != d := fun p hp hv => by
  have k1 : p.1 ≠ c := by
    rintro rfl
    exact hv _ ((congrArg Obj.data (Option.some.inj ((N.get hp).symm.trans (N.get hc)))).trans ec)
  have k2 : p.1 ≠ d := by
    rintro rfl
    exact hv _ ((congrArg Obj.data (Option.some.inj ((N.get hp).symm.trans (N.get hd)))).trans ed)
  exact List.mem_filter.mpr ⟨hp, by simp [k1, k2]⟩
end
theorem ite_nt {P Q : Prop} (h : Q) : (if (!true) = true then P else Q) := h
theorem law_names (prog : Program) (w : World) {oc9 : Value} {od : Option Addr} {name qual : Str} {params : Arguments} {s1 s2 s3 s4 s5 s6 s7 : Stmt} {scope : Scope} {dV kV doc pm9 cdv ct9 : Value} {an : Option Addr} {osl : Array (Option Value)}
  (hb : (hd.heap_39 w.params).lookup 515 = some ⟨oc9, od, .func (fnOf name qual params [s1, s2, s3, s4, s5, s6, s7] scope dV kV doc pm9 an cdv ct9), osl⟩)
    (p : Program) (loose : List Str) (mean : ExcName → Option Value) (mg mb : Str → Option Value) (g : Heap) (Lq fa : Addr) (cd : Value) (m : Str → Option Value) (s : Shared)
    (Q : Flow → Shared → Prop) (E : Value → Shared → Prop) (nw : List (Addr × Obj)) (oS oT : Obj) (zT : Option Value)
    (B : Below callerA g [] g) (F : Fr g Lq s.heap m) (X : (hd.heap_39 w.params).In g) (N : News g Lq s.heap nw) (T : Top p loose mean mg mb g) (CH : CodeHd g 499 497)
    (src Tr dt R Del Dsc Dk : Addr) (FX : List (Addr × Obj)) (vs : List Value) (rows : List NRow) (S : Addr → List Int) (a : Nat) (l : List Nat) (r : NRow) (n : Nat) (e0 e1 y0 y1 : Value) (t : Tok) (ke ks : Nat)
    (c1 : (Lq + 1, oS) ∈ nw) (dS : oS.data = .cell (some (.ref src))) (c2 : (Lq + 1 + 1, oT) ∈ nw) (dT : oT.data = .cell zT) (tbm : (497, tabObj #[]) ∈ nw)
    (mt : m (Str.ofString "tree") = some (.ref Tr)) (me : m (Str.ofString "elements") = some (.ref Del)) (ms : m (Str.ofString "scopes") = some (.ref Dsc))
    (hDel : (Del, lob [e0, e1, .int (a : Int) t] ke) ∈ nw) (hDsc : (Dsc, lob [y0, y1, .ref Dk] ks) ∈ nw)
    (GX : GB prog w src Tr dt R Dk FX vs rows S (scopeF rows S l) n nw) (G : GT rows S a l) (hr : rows[a]? = some r) (hkd : r.kind = Str.ofString "element") (hll : l.length = 4) (hrl : rows.length ≤ 13) (hn : n ≤ 900)
    (k : ∀ h' tk' m' n2, Fr g Lq h' m' → News g Lq h' n2 → (∃ ps, (497, tabObj ps) ∈ n2) → Q (.ret (.bool true)) { s with heap := h', toks := tk' }) :
    wpAny (model prog w) (callerA.deeper (envOfC qual scope Lq fa cd)) (execs [s4, s5, s6, s7] (envOfC qual scope Lq fa cd)) Q E s := by
  apply body7 hb
  case hl => k_is
  clear hb; intro hb
  (first | (refine env_let (t := fun e => execs _ e) ?_; intro ev Av) | (refine env_let (t := fun e => exec _ e) ?_; intro ev Av))
  have hrm := List.mem_of_getElem? hr
  (repeat ((fail_if_success (k_dflt (with_reducible show wpAny _ _ (subscriptTail _ _ _ _) _ _ _))); (first | (k_unfold; (try dsimp only)) | (k_end; wrow_close) | walk1 | (dsimp only; walk1) | fail "no step")))
  rename News _ _ _ _ => kN
  k_dflt (refine ls_sub kN hDel (by decide) (by decide) rfl ?_)
  (repeat ((fail_if_success (k_dflt (with_reducible show wpAny _ _ (subscriptTail _ _ _ _) _ _ _))); (first | (k_unfold; (try dsimp only)) | (k_end; wrow_close) | walk1 | (dsimp only; walk1) | fail "no step")))
  rename News _ _ _ _ => kN
  k_dflt (refine ls_sub kN hDsc (by decide) (by decide) rfl ?_)
  (repeat ((fail_if_success (k_dflt (show wpAny _ _ (call (.ref 500) _) _ _ _))); (first | (k_unfold; (try dsimp only)) | (k_end; wrow_close) | walk1 | (dsimp only; walk1) | fail "no step"))); (try dsimp only [List.nil_append, List.cons_append])
  k_dflt (show wpAny _ _ (call (.ref 500) [.ref src, .ref Tr, .int (a : Int) t, .ref Dk]) _ _ _)
  rename News _ _ _ _ => kN; rename Fr _ _ _ _ => kF
  have off := off_cells kN c1 c2 dS dT
  have hsub : ∀ p ∈ nw.filter (fun p => p.1 != (Lq + 1) && p.1 != (Lq + 1 + 1)), p ∈ nw := fun p hp => (List.mem_filter.mp hp).1
  k_dflt (refine' names_right_con prog w p loose mean mg mb _ _ _ _ _ _ _ _ callerA g g Lq m _ _ _ (nw.filter fun p => p.1 != (Lq + 1) && p.1 != (Lq + 1 + 1)) ?uB ?uF ?uX ?uN ?uT ?hk ?d1 ?d2 X T CH src Tr dt R Dk vs rows S a t r l n #[] (GX.TX.nocell off) ⟨hr, G.up, (by omega), G.ns, (fun j hj => by rw [G.at0 r hrm] at hj; cases hj), G.nm r hrm⟩ (GX.Z.nocell off) (GX.SZ.nocell off) (by omega) (off _ tbm (fun _ q => by cases q)) TabL.nil hkd (G.at0 r hrm) (by omega) GX.hs.1 GX.hs.2 G.xm G.vl [(Lq + 1 + 1, oT), (Lq + 1, oS)] ?hKN ?hKd ?kk; (case uB => exact B); (case uF => exact kF); (case uX => exact X); (case uN => exact fun p hp => kN p (hsub p hp)); (case uT => exact T))
  case hk => rfl
  case d1 => ktr_room
  case d2 => ktr_units
  case hKN =>
    intro p hp
    simp only [List.mem_cons, List.not_mem_nil, or_false] at hp
    rcases hp with rfl | rfl
    · exact kN _ c2
    · exact kN _ c1
  case hKd =>
    intro p hp q hq
    have z := (List.mem_filter.mp hq).2
    simp only [Bool.and_eq_true, bne_iff_ne] at z
    simp only [List.mem_cons, List.not_mem_nil, or_false] at hp
    rcases hp with rfl | rfl
    · exact z.2
    · exact z.1
  case kk =>
    intro h' tk' n2 F' N' SZ2 htb
    obtain ⟨ps, hps⟩ := htb
    simp only [List.cons_append, List.nil_append] at N'
    (first | (k_unfold; (try dsimp only)) | (k_end; wrow_close) | walk1 | (dsimp only; walk1) | fail "no step")
    with_reducible refine ite_nt ?_
    (first | (k_unfold; (try dsimp only)) | (k_end; wrow_close) | walk1 | (dsimp only; walk1) | fail "no step")
    k_dflt (show wpAny _ _ (execs [_, _, _] _) _ _ _)
    rename News _ _ _ _ => kN; rename Fr _ _ _ _ => kF
    have kN2 : True ∧ News g Lq _ n2 := ⟨trivial, fun p hp => kN p (List.mem_cons_of_mem _ (List.mem_cons_of_mem _ hp))⟩
    have off2 : ∀ p ∈ (Lq + 1 + 1, oT) :: (Lq + 1, oS) :: n2, (∀ v, p.2.data ≠ .cell v) → p ∈ ((Lq + 1 + 1, oT) :: (Lq + 1, oS) :: n2).filter fun p => p.1 != (Lq + 1) && p.1 != (Lq + 1 + 1) := off_cells kN (List.mem_cons_of_mem _ List.mem_cons_self) List.mem_cons_self dS dT
    refine' @law_tail prog w _ _ _ _ _ _ _ _ _ _ _ _ _ _ _ _ _ _ _ _ _ hb p loose mean mg mb g Lq fa cd m _ _ _ (((Lq + 1 + 1, oT) :: (Lq + 1, oS) :: n2).filter fun p => p.1 != (Lq + 1) && p.1 != (Lq + 1 + 1)) src oS oT zT ps B ?uF X ?uN T dS dT ?uS ?uO ?uT ?uk
    case uF => exact kF
    case uS => exact SZ2.nocell fun p hp hv => off2 p (List.mem_cons_of_mem _ (List.mem_cons_of_mem _ hp)) hv
    case uT => exact off2 _ (List.mem_cons_of_mem _ (List.mem_cons_of_mem _ hps)) (fun _ q => by cases q)
    case uk => exact fun h' tk' m' n2 a b c => k h' tk' m' n2 a b c
    case uN =>
      intro p hp
      rcases List.mem_cons.mp hp with rfl | hp
      · exact kN _ List.mem_cons_self
      rcases List.mem_cons.mp hp with rfl | hp
      · exact kN _ (List.mem_cons_of_mem _ List.mem_cons_self)
      · exact kN _ (List.mem_filter.mp hp).1
    case uO =>
      intro p hp
      have z := (List.mem_filter.mp hp).2
      simp only [Bool.and_eq_true, bne_iff_ne] at z
      exact ⟨z.2, z.1⟩
end
section
theorem three_ok : ∀ r ∈ [(⟨some (Str.ofString ""), some (Str.ofString "a"), true⟩ : RowV), ⟨some (Str.ofString ""), some (Str.ofString "a"), false⟩, ⟨none, none, true⟩], r.Ok := by
  intro r hr
  simp only [List.mem_cons, List.not_mem_nil, or_false] at hr
  rcases hr with rfl | rfl | rfl
  · exact ok_ss (by decide +kernel) (by decide +kernel)
  · exact ok_ss (by decide +kernel) (by decide +kernel)
  · exact ok_nn
theorem law_body (prog : Program) (w : World) {oc9 : Value} {od : Option Addr} {name qual : Str} {params : Arguments} {s1 s2 s3 s4 s5 s6 s7 : Stmt} {scope : Scope} {dV kV doc pm9 cdv ct9 : Value} {an : Option Addr} {osl : Array (Option Value)}
  (hb : (hd.heap_39 w.params).lookup 515 = some ⟨oc9, od, .func (fnOf name qual params [s1, s2, s3, s4, s5, s6, s7] scope dV kV doc pm9 an cdv ct9), osl⟩)
    (p : Program) (loose : List Str) (mean : ExcName → Option Value) (mg mb : Str → Option Value) (g : Heap) (Lq fa : Addr) (cd : Value) (m : Str → Option Value) (s : Shared)
    (Q : Flow → Shared → Prop) (E : Value → Shared → Prop) (o1 o2 : Obj) (z1 z2 : Option Value)
    (B : Below callerA g [] g) (F : Fr g Lq s.heap m) (X : (hd.heap_39 w.params).In g) (nw : List (Addr × Obj)) (N : News g Lq s.heap nw) (c1 : (Lq + 1, o1) ∈ nw) (c2 : (Lq + 1 + 1, o2) ∈ nw) (tbm : (497, tabObj #[]) ∈ nw) (T : Top p loose mean mg mb g) (CH : CodeHd g 499 497)
    (d1 : o1.data = .cell z1) (d2 : o2.data = .cell z2) (sa : Addr) (vs : List Value) (ws : List Int) (hL : g.IsList sa vs.toArray) (hI : IntsAre vs ws) (hlen : ws.length ≤ 63) (msc : m (Str.ofString "script") = some (.ref sa))
    (k : ∀ h' tk' m' n2, Fr g Lq h' m' → News g Lq h' n2 → (∃ ps, (497, tabObj ps) ∈ n2) → Q (.ret (.bool true)) { s with heap := h', toks := tk' }) :
    wpAny (model prog w) (callerA.deeper (envOfC qual scope Lq fa cd)) (execs [s1, s2, s3, s4, s5, s6, s7] (envOfC qual scope Lq fa cd)) Q E s := by
  apply body7 hb
  case hl => k_is
  clear hb; intro hb
  (first | (refine env_let (t := fun e => execs _ e) ?_; intro ev Av) | (refine env_let (t := fun e => exec _ e) ?_; intro ev Av))
  have HI : True ∧ IntsAre vs ws := ⟨trivial, hI⟩
  have HL : True ∧ g.IsList sa vs.toArray := ⟨trivial, hL⟩
  have HC : True ∧ CodeHd g 499 497 := ⟨trivial, CH⟩
  clear hI hL CH
  iterate 55 (first | (k_unfold; (try dsimp only)) | (k_end; wrow_close) | walk1 | (dsimp only; walk1) | fail "no step")
  rename_i a1 hh1 l1 b1 hh2 l2 a2 hh3 l3 b2 hh4 l4 a3 hh5 l5 b3 hh6 l6 Rw hh7 kF kN l7
  k_dflt (show wpAny _ _ (call (.ref 510) [.ref Rw]) _ _ _)
  (k_dflt (refine' con_use (spaces_con _ _ _ Rw [.ref b1, .ref b2, .ref b3] 0 [⟨some (Str.ofString ""), some (Str.ofString "a"), true⟩, ⟨some (Str.ofString ""), some (Str.ofString "a"), false⟩, ⟨none, none, true⟩] List.mem_cons_self (RowsT.dat (.cons ⟨b1, a1, 0, 0, _, _, rfl, (.tail _ (.tail _ (.tail _ (.tail _ (.tail _ (.head _)))))), (.tail _ (.tail _ (.tail _ (.tail _ (.tail _ (.tail _ (.head _)))))))⟩ (.cons ⟨b2, a2, 0, 0, _, _, rfl, (.tail _ (.tail _ (.tail _ (.head _)))), (.tail _ (.tail _ (.tail _ (.tail _ (.head _)))))⟩ (.cons ⟨b3, a3, 0, 0, 0, 0, rfl, (.tail _ (.head _)), (.tail _ (.tail _ (.head _)))⟩ .nil)))) (by decide) three_ok) ?uB ?uF ?uX ?uN ?uT ?uk ?ud ?uu ?_; (case uB => k_asm); (case uF => k_asm); (case uX => k_asm); (case uN => k_asm);  (case uT => k_asm); (case uk => first | exact rfl | assumption); (case ud => ktr_room); (case uu => ktr_units)); rintro r9 news9 h9 tk9 F9 N9 ⟨rfl, hs9⟩; (try dsimp only))
  have c1' := hs9 _ (List.mem_cons_of_mem _ (List.mem_cons_of_mem _ (List.mem_cons_of_mem _ (List.mem_cons_of_mem _ (List.mem_cons_of_mem _ (List.mem_cons_of_mem _ (List.mem_cons_of_mem _ c1)))))))
  have c2' := hs9 _ (List.mem_cons_of_mem _ (List.mem_cons_of_mem _ (List.mem_cons_of_mem _ (List.mem_cons_of_mem _ (List.mem_cons_of_mem _ (List.mem_cons_of_mem _ (List.mem_cons_of_mem _ c2)))))))
  have tb' := hs9 _ (List.mem_cons_of_mem _ (List.mem_cons_of_mem _ (List.mem_cons_of_mem _ (List.mem_cons_of_mem _ (List.mem_cons_of_mem _ (List.mem_cons_of_mem _ (List.mem_cons_of_mem _ tbm)))))))
  (first | (k_unfold; (try dsimp only)) | (k_end; wrow_close) | walk1 | (dsimp only; walk1) | fail "no step")
  with_reducible refine ite_nt ?_
  iterate 10 (first | (k_unfold; (try dsimp only)) | (k_end; wrow_close) | walk1 | (dsimp only; walk1) | fail "no step")
  k_dflt (show wpAny _ _ (call (.ref 460) [.ref sa]) _ _ _)
  clear kN
  k_dflt (refine' pool_con prog w p loose mean mg mb _ _ _ _ _ _ _ _ [] callerA g g Lq m _ _ _ news9 B ?uF X ?uN T ?uk ?d1 ?d2 sa vs ws HL.2 HI.2 hlen ?kk; (case uF => k_asm); (case uN => k_asm); (case uk => rfl); (case d1 => ktr_room); (case d2 => ktr_units))
  rintro r news8 h8 tk8 F8 N8 ⟨src, rfl, SZ8, hs8, hl8⟩
  have hl8' : True ∧ ∀ p ∈ news9, p.1 < src := ⟨trivial, hl8⟩
  clear hl8
  have c18 := hs8 _ c1'
  have c28 := hs8 _ c2'
  have tb8 := hs8 _ tb'
  try dsimp only
  k_dflt (refine' cell_put F8 N8 ?c c18 d1 ?_ ?a ?b; (case c => rfl); (case a => rfl); (case b => rfl))
  intro h7 o7 F7 N7 d7
  clear F8
  have m7 : ∀ p ∈ news8, p.1 ≠ Lq + 1 → p ∈ (Lq + 1, o7) :: news8.filter fun p => p.1 != (Lq + 1) := fun p hp hq => mem_put hp hq
  have SZ7 : SrcIs ((Lq + 1, o7) :: news8.filter fun p => p.1 != (Lq + 1)) src := SZ8.mono fun o ho => m7 _ ho (Ne.symm (Nat.ne_of_lt (hl8'.2 _ c1')))
  have c27 := m7 _ c28 (Ne.symm (Nat.ne_of_lt (Nat.lt_succ_self (Lq + 1))))
  have tb7 := m7 _ tb8 (fun q => by have h1 := N8.get tb8; have h2 := N8.get c18; dsimp only at q; rw [q] at h1; rw [h1] at h2; cases h2; cases d1)
  have c17 : (Lq + 1, o7) ∈ (Lq + 1, o7) :: news8.filter fun p => p.1 != (Lq + 1) := List.mem_cons_self
  generalize ((Lq + 1, o7) :: news8.filter fun p => p.1 != (Lq + 1)) = n7 at N7 SZ7 c27 tb7 c17
  have N7' : True ∧ News g Lq h7 n7 := ⟨trivial, N7⟩
  clear N8
  iterate 9 (first | (k_unfold; (try dsimp only)) | (k_end; wrow_close) | walk1 | (dsimp only; walk1) | fail "no step")
  k_dflt (show wpAny _ _ (call (.ref 481) [.ref src]) _ _ _)
  (k_dflt (refine' con_use (grown_con prog w _ src SZ7) ?uB ?uF ?uX ?uN ?uT ?uk ?ud ?uu ?_; (case uB => k_asm); (case uF => k_asm); (case uX => k_asm); (case uN => k_asm);  (case uT => k_asm); (case uk => first | exact rfl | assumption); (case ud => ktr_room); (case uu => ktr_units)); rintro r9 news9 h9 tk9 F9 N9 ⟨Rt, kt, Del, Dsc, ke, ks, Tr, dt, R, vs9, rows, S, a, l, r, n, Dk, FX, e0, e1, y0, y1, t, rfl, hRt, hDel, hDsc, GX, G, hr, hkd, hll, hrl, hn, hs6⟩; (try dsimp only))
  have c16 := hs6 _ c17 (ne_src N7'.2 SZ7 c17 (.inr fun _ _ q => by rw [d7] at q; cases q))
  have c26 := hs6 _ c27 (ne_src N7'.2 SZ7 c27 (.inr fun _ _ q => by rw [d2] at q; cases q))
  have tb6 := hs6 _ tb7 (ne_src N7'.2 SZ7 tb7 (.inr fun _ _ q => by cases q))
  iterate 11 (first | (k_unfold; (try dsimp only)) | (k_end; wrow_close) | walk1 | (dsimp only; walk1) | fail "no step")
  k_dflt (show wpAny _ _ (execs [_, _, _, _] _) _ _ _)
  rename News _ _ _ _ => kN; rename Fr _ _ _ _ => kF
  refine' @law_names prog w _ _ _ _ _ _ _ _ _ _ _ _ _ _ _ _ _ _ _ _ _ hb p loose mean mg mb g Lq fa cd _ _ _ _ news9 o7 o2 z2 B ?uF X ?uN T HC.2 src Tr dt R Del Dsc Dk FX vs9 rows S a l r n e0 e1 y0 y1 t ke ks c16 d7 c26 d2 tb6 ?mt ?me ?ms hDel hDsc GX G hr hkd hll hrl hn ?uk
  case uF => exact kF
  case uN => exact kN
  case mt => rfl
  case me => rfl
  case ms => rfl
  case uk => exact fun h' tk' m' n2 a b c => k h' tk' m' n2 a b c
end
end
end Mine
theorem PySem.Challenge.cw_xm0640_01_holds : PySem.Challenge.rw_xm0640_01.Holds :=
  Mine.hd (by
  w_strict (
    k_go0
    (all_goals try k_fold)
    dsimp only
    rename CodeHd _ _ _ => HC
    rename News _ _ _ _ => HN
    rename Fr _ _ _ _ => HF
    rename IntsAre _ _ => HI
    rename Frag.In _ _ => HX
    rename Below _ _ _ _ => HB
    rename Top _ _ _ _ _ (ghostOf _ _) => HT
    refine' Mine.law_body _ _ ?zhb _ _ _ _ _ _ _ _ _ _ _ _ _ _ _ _ _ HB HF HX _ HN (List.mem_cons_of_mem _ List.mem_cons_self) List.mem_cons_self (List.mem_cons_of_mem _ (List.mem_cons_of_mem _ List.mem_cons_self)) HT HC ?zd1 ?zd2 _ _ _ lifted HI ?zhlen ?zmsc ?zk
    case zd1 => assumption
    case zd2 => assumption
    case zhlen => omega
    case zmsc => exact rfl
    case zk =>
      intro h' tk' m' n2 F' N' ht
      obtain ⟨ps, hps⟩ := ht
      refine ⟨?_, ?_⟩
      · wrow_close
      · exact ⟨GrownAt.of N' hps, trivial⟩
    case zhb => k_is
    ))
