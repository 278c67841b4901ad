import PyProof.Rows.All
import Wide.All
import OpenK.AllK
import Wide.FinOn
import Lean
import PySem.Challenge.RW_pc0201_01
open PySem PySem.W PyProof.Rows
set_option Elab.async false
set_option maxRecDepth 100000
set_option maxHeartbeats 40000000
set_option linter.unusedVariables false
set_option linter.unusedSimpArgs false
namespace Mine
structure Box (P : Prop) : Prop where
  out : P
theorem hd.tw1011335219593555734 : True := trivial
theorem hd.tw10117281507310766616 : True := trivial
theorem hd.tw10170382586518783626 : True := trivial
theorem hd.tw10357175440086982646 : True := trivial
theorem hd.tw10424393626065333798 : True := trivial
theorem hd.tw10458740792067480800 : True := trivial
theorem hd.tw10614716105012338702 : True := trivial
theorem hd.tw10727248033764811480 : True := trivial
theorem hd.tw10743916045514856203 : True := trivial
theorem hd.tw10752148897807903841 : True := trivial
theorem hd.tw10949625832625181284 : True := trivial
theorem hd.tw11136197038861592535 : True := trivial
theorem hd.tw11213053971927718326 : True := trivial
theorem hd.tw11631947586910100387 : True := trivial
theorem hd.tw11754176132448286083 : True := trivial
theorem hd.tw11893437276241958245 : True := trivial
theorem hd.tw11953376511379268794 : True := trivial
theorem hd.tw12023040214023829324 : True := trivial
theorem hd.tw12070051907170230399 : True := trivial
theorem hd.tw12092154237167983948 : True := trivial
theorem hd.tw12112201142124510154 : True := trivial
theorem hd.tw1222794163293265305 : True := trivial
theorem hd.tw12487502673411948298 : True := trivial
theorem hd.tw12614811148066621264 : True := trivial
theorem hd.tw12629568148972539762 : True := trivial
theorem hd.tw12631932088317031055 : True := trivial
theorem hd.tw12715402060735579648 : True := trivial
theorem hd.tw12901994302517312135 : True := trivial
theorem hd.tw12936449754285732098 : True := trivial
theorem hd.tw13217225542625558698 : True := trivial
theorem hd.tw13225837485096350037 : True := trivial
theorem hd.tw13277076834127875243 : True := trivial
theorem hd.tw13330244855972007585 : True := trivial
theorem hd.tw13368278939475635651 : True := trivial
theorem hd.tw13372043803930879067 : True := trivial
theorem hd.tw13518370688599389936 : True := trivial
theorem hd.tw1359830224848277088 : True := trivial
theorem hd.tw13682609094392984937 : True := trivial
theorem hd.tw13770079208771991547 : True := trivial
theorem hd.tw14353793391729792155 : True := trivial
theorem hd.tw14400467628812073631 : True := trivial
theorem hd.tw14560493823538711346 : True := trivial
theorem hd.tw14705683404202351889 : True := trivial
theorem hd.tw14892549342360969540 : True := trivial
theorem hd.tw14955159897011116063 : True := trivial
theorem hd.tw15042006015671813226 : True := trivial
theorem hd.tw15043168886218598503 : True := trivial
theorem hd.tw15089522573102190283 : True := trivial
theorem hd.tw15103106377680225435 : True := trivial
theorem hd.tw15166520500009309586 : True := trivial
theorem hd.tw15508949281206285077 : True := trivial
theorem hd.tw15527848837575444561 : True := trivial
theorem hd.tw15595854959937240912 : True := trivial
theorem hd.tw1580110805410547442 : True := trivial
theorem hd.tw16056359734778111409 : True := trivial
theorem hd.tw16091413853298234908 : True := trivial
theorem hd.tw16240987189780228909 : True := trivial
theorem hd.tw16412773359747925120 : True := trivial
theorem hd.tw16473244170626142550 : True := trivial
theorem hd.tw16649331688326792143 : True := trivial
theorem hd.tw16781597205703756006 : True := trivial
theorem hd.tw16828841361933241965 : True := trivial
theorem hd.tw16853341256802265648 : True := trivial
theorem hd.tw16920754564084929960 : True := trivial
theorem hd.tw17047115858639842297 : True := trivial
theorem hd.tw17054507655720011243 : True := trivial
theorem hd.tw17065624631693535813 : True := trivial
theorem hd.tw17258206423299326598 : True := trivial
theorem hd.tw17311223219408574766 : True := trivial
theorem hd.tw17330945745186091897 : True := trivial
theorem hd.tw17420951861521290806 : True := trivial
theorem hd.tw17447410573909459338 : True := trivial
theorem hd.tw17574625026820762457 : True := trivial
theorem hd.tw17599816209265215132 : True := trivial
theorem hd.tw17672654358674132775 : True := trivial
theorem hd.tw17901334829092211166 : True := trivial
theorem hd.tw17935226425611649559 : True := trivial
theorem hd.tw18093812233618175256 : True := trivial
theorem hd.tw18103342009636024947 : True := trivial
theorem hd.tw18166333605607142505 : True := trivial
theorem hd.tw18241275227582772068 : True := trivial
theorem hd.tw18245042118932799458 : True := trivial
theorem hd.tw18264374347568628810 : True := trivial
theorem hd.tw18291419657060728153 : True := trivial
theorem hd.tw18293732401869909652 : True := trivial
theorem hd.tw18300207936620678264 : True := trivial
theorem hd.tw18322514126500204803 : True := trivial
theorem hd.tw18343703819029505601 : True := trivial
theorem hd.tw1847840615245081061 : True := trivial
theorem hd.tw1865391376527767206 : True := trivial
theorem hd.tw1882180444382439491 : True := trivial
theorem hd.tw2068664650715991707 : True := trivial
theorem hd.tw2167537188350426706 : True := trivial
theorem hd.tw2216850387143573719 : True := trivial
theorem hd.tw22551697357593593 : True := trivial
theorem hd.tw2274498078352570744 : True := trivial
theorem hd.tw26425463804135960 : True := trivial
theorem hd.tw3008623586974134963 : True := trivial
theorem hd.tw3229955645248102723 : True := trivial
theorem hd.tw3350844169311001129 : True := trivial
theorem hd.tw3381375190539634487 : True := trivial
theorem hd.tw344324432246765382 : True := trivial
theorem hd.tw3451239065008710300 : True := trivial
theorem hd.tw3452082135128663414 : True := trivial
theorem hd.tw3530705653197291679 : True := trivial
theorem hd.tw3759623122121258479 : True := trivial
theorem hd.tw3795277891434052102 : True := trivial
theorem hd.tw4014540891139286612 : True := trivial
theorem hd.tw4015398097383911347 : True := trivial
theorem hd.tw4297731678662094536 : True := trivial
theorem hd.tw4315991029959535628 : True := trivial
theorem hd.tw4377701919642642989 : True := trivial
theorem hd.tw4595758421323213155 : True := trivial
theorem hd.tw461538923250603899 : True := trivial
theorem hd.tw4702841417184801058 : True := trivial
theorem hd.tw4706079058837389440 : True := trivial
theorem hd.tw4856431653887292112 : True := trivial
theorem hd.tw4993660671451451078 : True := trivial
theorem hd.tw5036846961687405229 : True := trivial
theorem hd.tw5095010599579401659 : True := trivial
theorem hd.tw5130813555471234732 : True := trivial
theorem hd.tw5282504435634884242 : True := trivial
theorem hd.tw5363564295841288755 : True := trivial
theorem hd.tw5416991563250132298 : True := trivial
theorem hd.tw5562173858411828344 : True := trivial
theorem hd.tw6082411064634330575 : True := trivial
theorem hd.tw6123773746684550334 : True := trivial
theorem hd.tw6184460063843016694 : True := trivial
theorem hd.tw6196171512934965099 : True := trivial
theorem hd.tw6264232113106981867 : True := trivial
theorem hd.tw6293948785866598258 : True := trivial
theorem hd.tw6411954120941647267 : True := trivial
theorem hd.tw6528754448969337418 : True := trivial
theorem hd.tw6529707622633924500 : True := trivial
theorem hd.tw6555240042291301478 : True := trivial
theorem hd.tw6598312636042714100 : True := trivial
theorem hd.tw6819123309680001836 : True := trivial
theorem hd.tw6838551448383532254 : True := trivial
theorem hd.tw6982297934935202809 : True := trivial
theorem hd.tw6993616743467081660 : True := trivial
theorem hd.tw7028611270464810887 : True := trivial
theorem hd.tw7068711184596962023 : True := trivial
theorem hd.tw7082855905992002993 : True := trivial
theorem hd.tw7289634563603522867 : True := trivial
theorem hd.tw7540655947842036084 : True := trivial
theorem hd.tw7570633941786207912 : True := trivial
theorem hd.tw758273949599710562 : True := trivial
theorem hd.tw8112040973832200146 : True := trivial
theorem hd.tw8117029840178788049 : True := trivial
theorem hd.tw8310842240540681626 : True := trivial
theorem hd.tw8324504678176258764 : True := trivial
theorem hd.tw8343274005884668182 : True := trivial
theorem hd.tw8356816923877370021 : True := trivial
theorem hd.tw8545014587354053640 : True := trivial
theorem hd.tw8671608845466749128 : True := trivial
theorem hd.tw8716120427605611371 : True := trivial
theorem hd.tw8735263284916673568 : True := trivial
theorem hd.tw8869990164376384126 : True := trivial
theorem hd.tw8934143017859847078 : True := trivial
theorem hd.tw8960069828448710407 : True := trivial
theorem hd.tw9170477692918782315 : True := trivial
theorem hd.tw9277588360372424766 : True := trivial
theorem hd.tw9430268157657104642 : True := trivial
theorem hd.tw9499510787657705874 : True := trivial
theorem hd.tw9673543361469618366 : True := trivial
theorem hd.tw9719896912496429819 : True := trivial
theorem hd.tw9748044761591592747 : True := trivial
theorem hd.tw9783614193127449063 : True := trivial
theorem hd.tw978945382295711627 : True := trivial
theorem hd.tw9879187874143670476 : True := trivial
theorem hd.tw991500863812532542 : True := trivial
set_option Elab.async true in
theorem hd : True := trivial
where
  law (h : PySem.Challenge.rw_pc0201_01.row.wellSaid = true → PySem.Challenge.rw_pc0201_01.row.Holds) : PySem.Challenge.rw_pc0201_01.Holds := by
    w_on; o_law
    exact h (by assumption)
  top (said : PySem.Challenge.rw_pc0201_01.row.wellSaid = true) : (P : Prop) ×' (Box P → PySem.Challenge.rw_pc0201_01.row.Holds) := by
    refine (?g : PySem.Challenge.rw_pc0201_01.row.Holds → _) (?pf : PySem.Challenge.rw_pc0201_01.row.Holds)
    rotate_left
    focus
      refine @id PySem.Challenge.rw_pc0201_01.row.Holds ?other
      w_on; k_head; (case hw => w_witness2)
      generalize (?xx : type_of% ?hc) = y
      exact y
    intro _
    refine ⟨type_of% ?xx, fun h => ?_⟩
    simp (disch := exact h.out) only [?pf]
end Mine
namespace Mine
local macro_rules | `(tactic| walk_at $s:str) => `(tactic| k_extra $s)
local macro_rules | `(tactic| k_all) => `(tactic| k_extra "k_all")
local macro_rules | `(tactic| k_mem) => `(tactic| k_extra "k_mem")
local macro_rules | `(tactic| k_ne) => `(tactic| k_extra "k_ne")
local macro_rules | `(tactic| k_room) => `(tactic| k_extra "k_room")
local macro_rules | `(tactic| k_upd) => `(tactic| k_extra "k_upd")
local macro_rules | `(tactic| kqd_in) => `(tactic| k_extra "kqd_in")
local macro_rules | `(tactic| ktn_ord) => `(tactic| k_extra "ktn_ord")
local macro_rules | `(tactic| size_fits) => `(tactic| k_extra "size_fits")
local macro_rules | `(tactic| tb_rel) => `(tactic| k_extra "tb_rel")
local macro_rules | `(tactic| tb_start) => `(tactic| k_extra "tb_start")
section
/-- one entry taken out of a ledger -/
inductive Del (d : Addr) (o : Obj) : List (Addr × Obj) → List (Addr × Obj) → Prop
  | head {r} : (∀ p ∈ r, p.1 ≠ d) → Del d o ((d, o) :: r) r
  | tail {p r r'} : p.1 ≠ d → Del d o r r' → Del d o (p :: r) (p :: r')
theorem Del.off {d : Addr} {o : Obj} : ∀ {l r : List (Addr × Obj)}, Del d o l r → ∀ p ∈ r, p.1 ≠ d
  | _, _, .head h => h
  | _, _, .tail h r => fun p hp => by
    rcases List.mem_cons.mp hp with rfl | hp
    · exact h
    · exact r.off p hp
theorem Del.sub {d : Addr} {o : Obj} : ∀ {l r : List (Addr × Obj)}, Del d o l r → ∀ p ∈ (d, o) :: r, p ∈ l
  | _, _, .head _ => fun _ hp => hp
  | _, _, .tail _ r => fun p hp => by
    rcases List.mem_cons.mp hp with rfl | hp
    · exact .tail _ (r.sub _ (.head _))
    · rcases List.mem_cons.mp hp with rfl | hp
      · exact .head _
      · exact .tail _ (r.sub _ (.tail _ hp))
/-- what the list of the source holds -/
def Src (o : Obj) : Prop := ∃ (a b : Int) (ta tb : Tok) (n : Nat), o = W.listOf [Value.int a ta, Value.int b tb].toArray n ∧ 0 ≤ a ∧ 0 ≤ b ∧ b < 2147483410
theorem fdiv_nn {a m : Int} (ha : 0 ≤ a) (hm : 1 ≤ m) : 0 ≤ Int.fdiv a m := by
  rw [Int.fdiv_eq_ediv_of_nonneg _ (by omega)]; exact Int.ediv_nonneg ha (by omega)

theorem digit {w : World} {p : Program} {loose : List Str} {mean : ExcName → Option Value} {mg mb : Str → Option Value} {dp un : Nat} {gd : Option (List Code)} {cn : Str} {cs : Scope} {aa : Addr} {ccd : Value} {cl : List (Str × Addr)} {outer : List Env} {A₀ : Around} {base h₀ : Heap} {L : Addr} {m : Str → Option Value}
    {news rest : List (Addr × Obj)} {s : Shared} {src : Addr} {oS : Obj} {many : Int} {tm : Tok} {Q E : Value → Shared → Prop}
    (B : Below A₀ base outer h₀) (F : Fr h₀ L s.heap m) (X : (hd.heap_1_39 w.params).In h₀) (N : News h₀ L s.heap news) (T : Top p loose mean mg mb h₀) (hk : cs.kind = .function)
    (D : Del src oS news rest) (hS : Src oS) (hm : 1 ≤ many) (hm' : many ≤ 64) (hdp : dp < 600) (hun : un < 3000)
    (ret : ∀ v t oS' h' tk', 0 ≤ v → v < many → Src oS' → Fr h₀ L h' m → News h₀ L h' ((src, oS') :: rest) → (∀ p ∈ rest, p.1 ≠ src) → Q (.int v t) { s with heap := h', toks := tk' }) :
    wpAny (model PySem.Challenge.rw_pc0201_01.row.prog w) (ktrTop dp un gd cn cs L aa ccd cl outer) (call (.ref 326) [.ref src, .int many tm]) Q E s := by
  w_top off
  k_with_none
  (k_with "k_all" => (assumption))
  (k_with "k_upd" => (first | (refine' Del.head ?zq_a; (case zq_a => k_all)) | (refine' Del.tail ?zq_a ?zq_b; (case zq_a => k_ne); (case zq_b => k_upd))))
  obtain ⟨a, b, ta, tb, n, rfl, ha, hb, hb'⟩ := hS
  have hne := D.off
  replace N : News h₀ L s.heap ((src, W.listOf [Value.int a ta, Value.int b tb].toArray n) :: rest) := fun p hp => N p (D.sub p hp)
  clear D
  revert X; k_fill; intro X
  refine wpAny_call ?_
  k_dflt ktr_enter
  k_steps
  · refine ret _ _ _ _ _ (fmod_lo _ (by omega)) (fmod_hi _ (by omega)) ?_ (by assumption) (by assumption) hne
    exact ⟨_, _, _, _, _, rfl, fdiv_nn ha hm, hb, hb'⟩
  · refine ret _ _ _ _ _ (fmod_lo _ (by omega)) (fmod_hi _ (by omega)) ?_ (by assumption) (by assumption) hne
    exact ⟨_, _, _, _, _, rfl, ha, fmod_lo _ (by decide), Int.lt_trans (fmod_hi _ (by decide)) (by decide)⟩
end
section
theorem source {w : World} {p : Program} {loose : List Str} {mean : ExcName → Option Value} {mg mb : Str → Option Value} {dp un : Nat} {gd : Option (List Code)} {cn : Str} {cs : Scope} {aa : Addr} {ccd : Value} {cl : List (Str × Addr)} {outer : List Env} {A₀ : Around} {base h₀ : Heap} {L : Addr} {m : Str → Option Value}
    {news : List (Addr × Obj)} {s : Shared} {l : Addr} {vs : List Value} {ns : List Int} {Q E : Value → Shared → Prop}
    (B : Below A₀ base outer h₀) (F : Fr h₀ L s.heap m) (X : (hd.heap_1_39 w.params).In h₀) (N : News h₀ L s.heap news) (T : Top p loose mean mg mb h₀) (hk : cs.kind = .function)
    (hl : base.IsList l vs.toArray) (hi : IntsAre vs ns) (hlen : ns.length ≤ 63) (hdp : dp < 500) (hun : un < 2000)
    (ret : ∀ r oS h' tk', Src oS → Fr h₀ L h' m → News h₀ L h' ((r, oS) :: news) → (∀ p ∈ news, p.1 < r) → Q (.ref r) { s with heap := h', toks := tk' }) :
    wpAny (model PySem.Challenge.rw_pc0201_01.row.prog w) (ktrTop dp un gd cn cs L aa ccd cl outer) (call (.ref 319) [.ref l]) Q E s := by
  w_top off
  k_with_none
  (k_with "k_all" => (assumption))
  have hl' : h₀.IsList l vs.toArray := stays_list B.stays hl
  revert X; k_fill; intro X
  refine wpAny_call ?_
  k_dflt ktr_enter
  (rename Below _ _ _ _ => B9); k_lift B9
  k_steps
  all_goals (refine ret _ _ _ _ ?_ (by assumption) (by assumption) (by assumption))
  all_goals (have h18 : (0 : Int) ≤ 10 ^ Int.toNat 18 := by decide)
  all_goals (refine ⟨_, _, _, _, _, rfl, ?_, ?_, ?_⟩)
  all_goals first
    | omega
    | exact Int.le_refl _
    | exact Int.add_nonneg (fmod_lo _ (by decide)) (by decide)
    | exact Int.lt_trans (Int.add_lt_add_right (fmod_hi _ (by decide)) _) (by decide)
end
section
section
variable {prog : Program} {w : World} {A : Around} {E : Value → Shared → Prop} {s : Shared} {h₀ : Heap} {L l : Addr} {news : List (Addr × Obj)} {its : Array Value} {n : Nat}
theorem len_led {Q : Value → Shared → Prop} (N : News h₀ L s.heap news) (hm : (l, W.listOf its n) ∈ news) (hfit : its.size < 2 ^ 62)
    (h : Q (.int (its.size : Nat) (s.toks + 1)) { s with toks := s.toks + 1 + 1 }) : wpAny (model prog w) A (call (.builtin "len") [.ref l]) Q E s := by
  have hl : s.heap.IsList l its := ⟨_, (N _ hm).1, rfl, n, rfl⟩
  exact Calls.call_len_list hl (by omega) h
end
inductive HeapIn (fix : List (Addr × Obj)) (hx tl : Addr) : Prop
  | mk (dx : Addr) (hsh : Int) (tok : Tok) (n : Nat) (a1 : (hx, instObj 213 dx) ∈ fix) (a2 : (dx, dictOf [⟨hsh, .str (Str.ofString "things") tok, .ref tl⟩] n) ∈ fix)
inductive ThingIn (fix : List (Addr × Obj)) (v : Value) (k : Dat) : Prop
  | mk (x d : Addr) (kv fv sv : Value) (h1 : Int) (t1 : Tok) (h2 : Int) (t2 : Tok) (h3 : Int) (t3 : Tok) (n : Nat) (a1 : v = .ref x) (a2 : (x, instObj 157 d) ∈ fix) (a3 : (d, dictOf [⟨h1, .str (Str.ofString "kind") t1, kv⟩, ⟨h2, .str (Str.ofString "fields") t2, fv⟩, ⟨h3, .str (Str.ofString "sizes") t3, sv⟩] n) ∈ fix) (a4 : DatIn fix kv k)
inductive ThingAll (fix : List (Addr × Obj)) : List Value → List Dat → Prop
  | nil : ThingAll fix [] []
  | cons {v vs k ks} : ThingIn fix v k → ThingAll fix vs ks → ThingAll fix (v :: vs) (k :: ks)


theorem ThingIn.mono {l l' : List (Addr × Obj)} (hs : ∀ p ∈ l, p ∈ l') {v : Value} {k : Dat} (h : ThingIn l v k) : ThingIn l' v k := by
  obtain ⟨x, d, kv, fv, sv, h1, t1, h2, t2, h3, t3, n, e, a, b, c⟩ := h
  exact ⟨x, d, kv, fv, sv, h1, t1, h2, t2, h3, t3, n, e, hs _ a, hs _ b, c.mono hs⟩
theorem ThingAll.mono {l l' : List (Addr × Obj)} (hs : ∀ p ∈ l, p ∈ l') {vs : List Value} {ks : List Dat} (h : ThingAll l vs ks) : ThingAll l' vs ks := by
  induction h with
  | nil => exact .nil
  | cons a _ ih => exact .cons (a.mono hs) ih
theorem ThingAll.snoc {l : List (Addr × Obj)} {vs : List Value} {ks : List Dat} {v : Value} {k : Dat} (h : ThingAll l vs ks) (a : ThingIn l v k) : ThingAll l (vs ++ [v]) (ks ++ [k]) := by
  induction h with
  | nil => exact .cons a .nil
  | cons b _ ih => exact .cons b ih
theorem ThingAll.length {l : List (Addr × Obj)} {vs : List Value} {ks : List Dat} (h : ThingAll l vs ks) : vs.length = ks.length := by
  induction h with
  | nil => rfl
  | cons _ _ ih => rw [List.length_cons, List.length_cons, ih]
theorem ThingAll.at {l : List (Addr × Obj)} {vs : List Value} {ks : List Dat} (h : ThingAll l vs ks) : ∀ {i : Nat} {k : Dat}, ks[i]? = some k → ∃ v, vs[i]? = some v ∧ ThingIn l v k := by
  induction h with
  | nil => intro i k h; simp at h
  | cons a _ ih =>
    intro i k h
    cases i with
    | zero => simp only [List.getElem?_cons_zero, Option.some.injEq] at h; subst h; exact ⟨_, rfl, a⟩
    | succ i => simp only [List.getElem?_cons_succ] at h ⊢; exact ih h
abbrev S (x : String) : Dat := .str (Str.ofString x)
/-- a value and its kind -/
inductive Good (ks : List Dat) : Dat → Dat → Prop
  | int (i : Int) : Good ks (.tuple [S "int", S "Int16", .int i]) (.tuple [S "name", S "Int16", .tuple []])
  | char (i : Int) : Good ks (.tuple [S "char", .int i]) (.tuple [S "name", S "Char", .tuple []])
  | arr (i : Nat) (k : Dat) : ks[i]? = some k → Good ks (.tuple [S "array", .int (i : Int)]) k
  | typ (d : Dat) : Good ks (.tuple [S "type", d]) (.tuple [S "typeof", d])
  | tree (d : Dat) : Good ks (.tuple [S "tree", d]) (.tuple [S "name", S "Expr", .tuple []])
  | bin (x : Str) : Good ks (.tuple [S "builtin", .str x]) (.tuple [S "fn", .str x])
  | tup (b : Bool) : Good ks (.tuple [S "tuple", .tuple [.tuple [S "bool", .bool b], .tuple [S "nothing"]]]) (.tuple [S "tuple", .tuple [.tuple [S "name", S "Bool", .tuple []], .tuple [S "name", S "Nothing", .tuple []]], .none])
  | bool (b : Bool) : Good ks (.tuple [S "bool", .bool b]) (.tuple [S "name", S "Bool", .tuple []])
  | nothing : Good ks (.tuple [S "nothing"]) (.tuple [S "name", S "Nothing", .tuple []])
  | fn (x : Str) : Good ks (.tuple [S "fun", .str x]) (.tuple [S "fn", .str x])
  | clo (x : Str) (d : Dat) : Good ks (.tuple [S "closure", .str x, d]) (.tuple [S "fn", .str x])
  | str (k d : Dat) : Good ks (.tuple [S "struct", k, d]) k
  | obj (i : Nat) (k : Dat) : ks[i]? = some k → Good ks (.tuple [S "object", .int (i : Int)]) k
theorem Good.mono {ks e : List Dat} {d k : Dat} (h : Good ks d k) : Good (ks ++ e) d k := by
  have ap : ∀ {i : Nat} {k : Dat}, ks[i]? = some k → (ks ++ e)[i]? = some k := fun {i k} h => by
    rw [List.getElem?_append_left (List.getElem?_eq_some_iff.mp h).1]; exact h
  cases h with
  | int i => exact .int i
  | char i => exact .char i
  | arr i k h => exact .arr i k (ap h)
  | typ d => exact .typ d
  | tree d => exact .tree d
  | bin x => exact .bin x
  | tup b => exact .tup b
  | bool b => exact .bool b
  | nothing => exact .nothing
  | fn x => exact .fn x
  | clo x d => exact .clo x d
  | str k d => exact .str _ d
  | obj i k h => exact .obj i k (ap h)
/-- data of the makes that the law has -/
def okD : Nat → Dat → Bool
  | _, .none => true
  | _, .bool _ => true
  | _, .int _ => true
  | _, .str x => PyData.strOk x
  | n + 1, .tuple ds => ds.all (okD n)
  | _, _ => false
theorem allLt_up {d x : Addr} : ∀ {l : List (Addr × Obj)}, AllLt d l → (@LT.lt Nat _ d x) → AllLt x l
  | [], _, _ => trivial
  | _ :: _, h, k => ⟨Nat.lt_trans h.1 k, allLt_up h.2 k⟩
/-- what was made on top of a ledger -/
inductive New (src tl : Addr) (oS oT : Obj) (rest : List (Addr × Obj)) : List (Addr × Obj) → List (Addr × Obj) → Prop
  | nil : New src tl oS oT rest [] ((src, oS) :: (tl, oT) :: rest)
  | cons {x o add all} : (@LT.lt Nat _ src x) → (@LT.lt Nat _ tl x) → AllLt x rest → New src tl oS oT rest add all → New src tl oS oT rest ((x, o) :: add) ((x, o) :: all)
theorem New.sub {src tl : Addr} {oS oT : Obj} {rest : List (Addr × Obj)} : ∀ {add all : List (Addr × Obj)}, New src tl oS oT rest add all → (∀ p ∈ (src, oS) :: (tl, oT) :: rest, p ∈ all) ∧ (∀ p ∈ add, p ∈ all) ∧ ∀ p ∈ add, AllLt p.1 ((src, oS) :: (tl, oT) :: rest)
  | _, _, .nil => ⟨fun _ h => h, fun _ h => (nomatch h), fun _ h => (nomatch h)⟩
  | _, _, .cons h1 h2 h r => by
    obtain ⟨a, b, c⟩ := r.sub
    refine ⟨fun p hp => .tail _ (a p hp), fun p hp => ?_, fun p hp => ?_⟩
    · rcases List.mem_cons.mp hp with rfl | hp
      · exact .head _
      · exact .tail _ (b p hp)
    · rcases List.mem_cons.mp hp with rfl | hp
      · exact ⟨h1, h2, h⟩
      · exact c p hp


theorem value {w : World} {p : Program} {loose : List Str} {mean : ExcName → Option Value} {mg mb : Str → Option Value} {dp un : Nat} {gd : Option (List Code)} {cn : Str} {cs : Scope} {aa : Addr} {ccd : Value} {cl : List (Str × Addr)} {outer : List Env} {A₀ : Around} {base h₀ : Heap} {L : Addr} {m : Str → Option Value}
    {rest fix news0 l1 : List (Addr × Obj)} {s : Shared} {src tl hx : Addr} {oS : Obj} {ts : List Value} {nt : Nat} {ks : List Dat} {Q E : Value → Shared → Prop}
    (B : Below A₀ base outer h₀) (F : Fr h₀ L s.heap m) (X : (hd.heap_1_39 w.params).In h₀) (N0 : News h₀ L s.heap news0) (D1 : Del src oS news0 l1) (D2 : Del tl (W.listOf ts.toArray nt) l1 rest) (T : Top p loose mean mg mb h₀) (hk : cs.kind = .function)
    (hS : Src oS) (hfx : ∀ p ∈ fix, p ∈ rest) (hH : HeapIn fix hx tl) (hT : ThingAll fix ts ks) (hlen : ks.length < 100) (hdp : dp < 500) (hun : un < 2000)
    (ret : ∀ r oS' ts' nt' e add vv kv dv dk nr h' tk', Src oS' → ThingAll (fix ++ add) ts' (ks ++ e) → e.length ≤ 1 → (∀ k ∈ e, okD 5 k = true) → Good (ks ++ e) dv dk → okD 5 dv = true → okD 5 dk = true →
      (r, ({ cls := .type "tuple", data := .seq [vv, kv].toArray nr } : Obj)) ∈ add → DatIn add vv dv → DatIn add kv dk → (∀ p ∈ add, AllLt p.1 ((src, oS') :: (tl, W.listOf ts'.toArray nt') :: rest)) →
      Fr h₀ L h' m → News h₀ L h' ((src, oS') :: (tl, W.listOf ts'.toArray nt') :: (rest ++ add)) → Q (.ref r) { s with heap := h', toks := tk' }) :
    wpAny (model PySem.Challenge.rw_pc0201_01.row.prog w) (ktrTop dp un gd cn cs L aa ccd cl outer) (call (.ref 340) [.ref src, .ref hx]) Q E s := by
  w_top off
  k_with_none
  (k_with "k_all" => (assumption))
  (k_with "k_mem" => (assumption))
  (k_with "size_fits" => (((try simp only [List.size_toArray]); rw [PySem.sizeLine_eq]; omega)))
  (k_with "kqd_in" => (exact DatIn.bool _))
  (k_with "k_room" => (ktr_room))
  (k_with "k_upd" => (first | (refine' Del.head ?zq_a; (case zq_a => k_all)) | (refine' Del.tail ?zq_a ?zq_b; (case zq_a => k_ne); (case zq_b => k_upd))))
  (k_with "call builtin:len" => ((k_here; (with_reducible show wpAny _ _ (call (Value.builtin "len") [Value.ref _]) _ _ _); (with_unfolding_all refine' len_led ?zq_k1 ?zq_k2 ?zq_k3 ?_; (case zq_k1 => k_asm); (case zq_k2 => k_mem); (case zq_k3 => ((try simp only [Array.size_push, List.size_toArray]); omega)); k_whole); (try simp only [Array.size_push, List.size_toArray]))))
  (k_with "call ref" => (((with_reducible show wpAny _ _ (call (Value.ref 326) _) _ _ _); k_here; k_dflt (refine' digit ?zq_kB ?zq_kF ?zq_kX ?zq_kN ?zq_kT ?zq_kK ?zq_kD ?zq_kS ?zq_km ?zq_km2 ?zq_kd ?zq_ku ?_; (case zq_kB => k_asm); (case zq_kF => k_asm); (case zq_kX => k_asm); (case zq_kN => k_asm); (case zq_kT => k_asm); (case zq_kK => first | exact rfl | assumption); (case zq_kD => k_upd); (case zq_kS => assumption); (case zq_km => omega); (case zq_km2 => omega); (case zq_kd => ktr_room); (case zq_ku => first | decide | ktr_units); k_whole; intro v' t' oS' h' tk' hv0' hv1' hS' F' N' hoff'; (try dsimp only); (try k_sweep)))))
  have N : News h₀ L s.heap ((src, oS) :: (tl, W.listOf ts.toArray nt) :: rest) := fun p hp => N0 p (by
    rcases List.mem_cons.mp hp with rfl | hp
    · exact D1.sub _ (.head _)
    · exact D1.sub _ (.tail _ (D2.sub _ hp)))
  have hne1 : ∀ p ∈ rest, p.1 ≠ src := fun p hp => D1.off p (D2.sub p (.tail _ hp))
  have hne2 : ∀ p ∈ rest, p.1 ≠ tl := D2.off
  have hst : (@Ne Nat src tl) := fun e => D1.off _ (D2.sub _ (.head _)) e.symm
  clear N0 D1 D2
  obtain ⟨dx, hsh, tok, nd, hm1, hm2⟩ := hH
  replace hm1 := hfx _ hm1
  replace hm2 := hfx _ hm2
  have hlen2 := hT.length
  have ret2 : ∀ {r oS' oT' ts' nt' all} (e : List Dat) {add vv kv dv dk nr h' tk'}, News h₀ L h' all → New src tl oS' oT' rest add all → (r, ({ cls := .type "tuple", data := .seq [vv, kv].toArray nr } : Obj)) ∈ add → DatIn add vv dv → DatIn add kv dk → Src oS' → oT' = W.listOf ts'.toArray nt' → Fr h₀ L h' m → ThingAll (fix ++ add) ts' (ks ++ e) → e.length ≤ 1 → (∀ k ∈ e, okD 5 k = true) → Good (ks ++ e) dv dk → okD 5 dv = true → okD 5 dk = true →
      Q (.ref r) { s with heap := h', toks := tk' } := by
    intro r oS' oT' ts' nt' all e add vv kv dv dk nr h' tk' c3 c4 c11 c12 c13 c1 ce c2 c5 c6 c7 c8 c9 c10
    subst ce
    obtain ⟨a, b, c⟩ := c4.sub
    refine ret _ _ _ _ _ _ _ _ _ _ _ _ _ c1 c5 c6 c7 c8 c9 c10 c11 c12 c13 c c2 fun p hp => ?_
    rcases List.mem_cons.mp hp with rfl | hp
    · exact c3 _ (a _ (.head _))
    · rcases List.mem_cons.mp hp with rfl | hp
      · exact c3 _ (a _ (.tail _ (.head _)))
      · rcases List.mem_append.mp hp with hp | hp
        · exact c3 _ (a _ (.tail _ (.tail _ hp)))
        · exact c3 _ (b _ hp)
  clear ret
  revert X; k_fill; intro X
  refine wpAny_call ?_
  k_dflt ktr_enter
  k_steps
  all_goals (rename News _ _ _ _ => kN9)
  all_goals first
    | (refine' ret2 [] kN9 ?n ?g3 ?g4 ?g5 (by assumption) ?eT (by assumption) ?t (Nat.zero_le _) (fun _ h => nomatch h) ?gg ?g1 ?g2
       case n => repeat' (first | exact New.nil | refine' New.cons (by omega) (by omega) (by first | tbn_lt | exact allLt_up (by tbn_find) (by omega)) ?_)
       case g3 => k_mem
       case g4 => kqd_in
       case g5 => kqd_in
       case eT => rfl
       case t => rw [List.append_nil]; exact hT.mono fun p hp => List.mem_append_left _ hp
       case g1 => kernel_rfl!
       case g2 => kernel_rfl!
       case gg => simp only [List.append_nil]; first | exact .int _ | exact .char _ | exact .typ _ | exact .tree _ | exact .bin _ | exact .tup _)
    | skip
  (try simp only [List.push_toArray] at kN9)
  refine' ret2 [_] kN9 ?n ?g3 ?g4 ?g5 (by assumption) ?eT (by assumption) ?t (Nat.le_refl _) ?l ?gg ?g1 ?g2
  case n => repeat' (first | exact New.nil | refine' New.cons (by omega) (by omega) (by first | tbn_lt | exact allLt_up (by tbn_find) (by omega)) ?_)
  case g3 => k_mem
  case g4 => kqd_in
  case g5 => kqd_in
  case eT => rfl
  case gg =>
    rw [show ((((ts.length + 1 : Nat) : Int) - 1 : Int)) = ((ks.length : Nat) : Int) by omega]
    exact Good.arr _ _ (by rw [List.getElem?_append_right (Nat.le_refl _), Nat.sub_self]; rfl)
  case t =>
    refine ThingAll.snoc (hT.mono fun p hp => List.mem_append_left _ hp) ⟨_, _, _, _, _, _, _, _, _, _, _, _, rfl, List.mem_append_right _ (by k_mem), List.mem_append_right _ (by k_mem), ?_⟩
    exact DatIn.mono (fun p hp => List.mem_append_right _ hp) (by kqd_in)
  case l => intro k hk; rw [List.mem_singleton.mp hk]; kernel_rfl!
  case g1 => kernel_rfl!
  case g2 => kernel_rfl!
end
section
/-- the table that a kind names -/
inductive TName : Dat → Str → Prop
  | fn (x : Str) : TName (.tuple [S "fn", .str x]) x
  | name (x : Str) (d : Dat) : TName (.tuple [S "name", .str x, d]) x
  | typ (x : Str) (d : Dat) : TName (.tuple [S "typeof", .tuple [S "name", .str x, d]]) x
theorem callee {w : World} {p : Program} {loose : List Str} {mean : ExcName → Option Value} {mg mb : Str → Option Value} {dp un : Nat} {gd : Option (List Code)} {cn : Str} {cs : Scope} {aa : Addr} {ccd : Value} {cl : List (Str × Addr)} {outer : List Env} {A₀ : Around} {base h₀ : Heap} {L : Addr} {m : Str → Option Value}
    {rest fix news0 l1 : List (Addr × Obj)} {s : Shared} {src tl hx : Addr} {oS : Obj} {ts : List Value} {nt : Nat} {ks : List Dat} {Q E : Value → Shared → Prop}
    (B : Below A₀ base outer h₀) (F : Fr h₀ L s.heap m) (X : (hd.heap_1_39 w.params).In h₀) (N0 : News h₀ L s.heap news0) (D1 : Del src oS news0 l1) (D2 : Del tl (W.listOf ts.toArray nt) l1 rest) (T : Top p loose mean mg mb h₀) (hk : cs.kind = .function)
    (hS : Src oS) (hfx : ∀ p ∈ fix, p ∈ rest) (hH : HeapIn fix hx tl) (hT : ThingAll fix ts ks) (hlen : ks.length < 100) (hdp : dp < 500) (hun : un < 2000)
    (ret : ∀ r oS' ts' nt' e add vv kv dv dk nr h' tk' x tx, Src oS' → ThingAll (fix ++ add) ts' (ks ++ e) → e.length ≤ 1 → (∀ k ∈ e, okD 5 k = true) → Good (ks ++ e) dv dk → TName dk x → okD 5 dv = true → okD 5 dk = true →
      (r, ({ cls := .type "tuple", data := .seq [vv, kv, .str x tx].toArray nr } : Obj)) ∈ add → DatIn add vv dv → DatIn add kv dk → (∀ p ∈ add, AllLt p.1 ((src, oS') :: (tl, W.listOf ts'.toArray nt') :: rest)) →
      Fr h₀ L h' m → News h₀ L h' ((src, oS') :: (tl, W.listOf ts'.toArray nt') :: (rest ++ add)) → Q (.ref r) { s with heap := h', toks := tk' }) :
    wpAny (model PySem.Challenge.rw_pc0201_01.row.prog w) (ktrTop dp un gd cn cs L aa ccd cl outer) (call (.ref 333) [.ref src, .ref hx]) Q E s := by
  w_top off
  k_with_none
  (k_with "k_all" => (assumption))
  (k_with "k_mem" => (assumption))
  (k_with "size_fits" => (((try simp only [List.size_toArray]); rw [PySem.sizeLine_eq]; omega)))
  (k_with "kqd_in" => (exact DatIn.bool _))
  (k_with "k_room" => (ktr_room))
  (k_with "k_upd" => (first | (refine' Del.head ?zq_a; (case zq_a => k_all)) | (refine' Del.tail ?zq_a ?zq_b; (case zq_a => k_ne); (case zq_b => k_upd))))
  (k_with "call builtin:len" => ((k_here; (with_reducible show wpAny _ _ (call (Value.builtin "len") [Value.ref _]) _ _ _); (with_unfolding_all refine' len_led ?zq_k1 ?zq_k2 ?zq_k3 ?_; (case zq_k1 => k_asm); (case zq_k2 => k_mem); (case zq_k3 => ((try simp only [Array.size_push, List.size_toArray]); omega)); k_whole); (try simp only [Array.size_push, List.size_toArray]))))
  (k_with "call ref" => (((with_reducible show wpAny _ _ (call (Value.ref 326) _) _ _ _); k_here; k_dflt (refine' digit ?zq_kB ?zq_kF ?zq_kX ?zq_kN ?zq_kT ?zq_kK ?zq_kD ?zq_kS ?zq_km ?zq_km2 ?zq_kd ?zq_ku ?_; (case zq_kB => k_asm); (case zq_kF => k_asm); (case zq_kX => k_asm); (case zq_kN => k_asm); (case zq_kT => k_asm); (case zq_kK => first | exact rfl | assumption); (case zq_kD => k_upd); (case zq_kS => assumption); (case zq_km => omega); (case zq_km2 => omega); (case zq_kd => ktr_room); (case zq_ku => first | decide | ktr_units); k_whole; intro v' t' oS' h' tk' hv0' hv1' hS' F' N' hoff'; (try dsimp only); (try k_sweep)))))
  have N : News h₀ L s.heap ((src, oS) :: (tl, W.listOf ts.toArray nt) :: rest) := fun p hp => N0 p (by
    rcases List.mem_cons.mp hp with rfl | hp
    · exact D1.sub _ (.head _)
    · exact D1.sub _ (.tail _ (D2.sub _ hp)))
  have hne1 : ∀ p ∈ rest, p.1 ≠ src := fun p hp => D1.off p (D2.sub p (.tail _ hp))
  have hne2 : ∀ p ∈ rest, p.1 ≠ tl := D2.off
  have hst : (@Ne Nat src tl) := fun e => D1.off _ (D2.sub _ (.head _)) e.symm
  clear N0 D1 D2
  obtain ⟨dx, hsh, tok, nd, hm1, hm2⟩ := hH
  replace hm1 := hfx _ hm1
  replace hm2 := hfx _ hm2
  have hlen2 := hT.length
  have ret2 : ∀ {r oS' oT' ts' nt' all} (e : List Dat) {add vv kv dv dk nr h' tk' x tx}, News h₀ L h' all → New src tl oS' oT' rest add all → (r, ({ cls := .type "tuple", data := .seq [vv, kv, .str x tx].toArray nr } : Obj)) ∈ add → DatIn add vv dv → DatIn add kv dk → Src oS' → oT' = W.listOf ts'.toArray nt' → Fr h₀ L h' m → ThingAll (fix ++ add) ts' (ks ++ e) → e.length ≤ 1 → (∀ k ∈ e, okD 5 k = true) → Good (ks ++ e) dv dk → TName dk x → okD 5 dv = true → okD 5 dk = true →
      Q (.ref r) { s with heap := h', toks := tk' } := by
    intro r oS' oT' ts' nt' all e add vv kv dv dk nr h' tk' x tx c3 c4 c11 c12 c13 c1 ce c2 c5 c6 c7 c8 c8b c9 c10
    subst ce
    obtain ⟨a, b, c⟩ := c4.sub
    refine ret _ _ _ _ _ _ _ _ _ _ _ _ _ _ _ c1 c5 c6 c7 c8 c8b c9 c10 c11 c12 c13 c c2 fun p hp => ?_
    rcases List.mem_cons.mp hp with rfl | hp
    · exact c3 _ (a _ (.head _))
    · rcases List.mem_cons.mp hp with rfl | hp
      · exact c3 _ (a _ (.tail _ (.head _)))
      · rcases List.mem_append.mp hp with hp | hp
        · exact c3 _ (a _ (.tail _ (.tail _ hp)))
        · exact c3 _ (b _ hp)
  clear ret
  revert X; k_fill; intro X
  refine wpAny_call ?_
  k_dflt ktr_enter
  k_steps
  all_goals (rename News _ _ _ _ => kN9)
  all_goals first
    | (refine' ret2 [] kN9 ?n ?g3 ?g4 ?g5 (by assumption) ?eT (by assumption) ?t (Nat.zero_le _) (fun _ h => nomatch h) ?gg ?tn ?g1 ?g2
       case n => repeat' (first | exact New.nil | refine' New.cons (by omega) (by omega) (by first | tbn_lt | exact allLt_up (by tbn_find) (by omega)) ?_)
       case g3 => k_mem
       case g4 => kqd_in
       case g5 => kqd_in
       case eT => rfl
       case t => rw [List.append_nil]; exact hT.mono fun p hp => List.mem_append_left _ hp
       case g1 => kernel_rfl!
       case g2 => kernel_rfl!
       case tn => first | exact .fn _ | exact .name _ _ | exact .typ _ _
       case gg => simp only [List.append_nil]; first | exact .fn _ | exact .clo _ _ | exact .typ _ | exact .str _ _)
    | skip
  (try simp only [List.push_toArray] at kN9)
  refine' ret2 [_] kN9 ?n ?g3 ?g4 ?g5 (by assumption) ?eT (by assumption) ?t (Nat.le_refl _) ?l ?gg ?tn ?g1 ?g2
  case n => repeat' (first | exact New.nil | refine' New.cons (by omega) (by omega) (by first | tbn_lt | exact allLt_up (by tbn_find) (by omega)) ?_)
  case g3 => k_mem
  case g4 => kqd_in
  case g5 => kqd_in
  case eT => rfl
  case gg =>
    rw [show ((((ts.length + 1 : Nat) : Int) - 1 : Int)) = ((ks.length : Nat) : Int) by omega]
    exact Good.obj _ _ (by rw [List.getElem?_append_right (Nat.le_refl _), Nat.sub_self]; rfl)
  case t =>
    refine ThingAll.snoc (hT.mono fun p hp => List.mem_append_left _ hp) ⟨_, _, _, _, _, _, _, _, _, _, _, _, rfl, List.mem_append_right _ (by k_mem), List.mem_append_right _ (by k_mem), ?_⟩
    exact DatIn.mono (fun p hp => List.mem_append_right _ hp) (by kqd_in)
  case l => intro k hk; rw [List.mem_singleton.mp hk]; kernel_rfl!
  case tn => exact .name _ _
  case g1 => kernel_rfl!
  case g2 => kernel_rfl!
end
section
section
variable {prog : Program} {w : World} {A : Around} {E : Value → Shared → Prop} {s : Shared} {h₀ : Heap} {L l : Addr} {news : List (Addr × Obj)}
theorem item_led {value slice : PySem.Expr} {vs : List Value} {n : Nat} {k : Int} {u : Tok} {v : Value} {Q : Value → Shared → Prop} (N : News h₀ L s.heap news) (hm : (l, W.listOf vs.toArray n) ∈ news)
    (h0 : 0 ≤ k) (hhi : k < 2 ^ 63) (hx : vs[k.toNat]? = some v) (h : Q v s)
    (hs : subscripted slice false (.ref l) (.int k u) = operate [.ref l, .int k u] (getItem (.ref l) (.int k u)) := by with_unfolding_all rfl) :
    wpAny (model prog w) A (subscriptTail value slice (.ref l) (.int k u)) Q E s := by
  have hl : s.heap.IsList l vs.toArray := ⟨_, (N _ hm).1, rfl, n, rfl⟩
  exact tail_any hl.typeIs slot_list_getitem.lookup (wpAny_getItem_list hl h0 hhi (by simpa using hx) h) hs
end
/-- no entry of the ledger lies there -/
def Far (a : Addr) (l : List (Addr × Obj)) : Prop := ∀ q ∈ l, q.1 ≠ a
theorem far_lt {a : Addr} {l : List (Addr × Obj)} (h : AllLt a l) : Far a l := fun q hq => Nat.ne_of_lt (ktn_ltOf h q hq)
theorem far_app {a : Addr} {l r : List (Addr × Obj)} (h : Far a (l ++ r)) : Far a l := fun q hq => h q (List.mem_append_left _ hq)
theorem far_sub {a : Addr} {l r : List (Addr × Obj)} (h : Far a r) (hs : ∀ p ∈ l, p ∈ r) : Far a l := fun q hq => h q (hs q hq)
theorem far_off1 {D : Addr} : ∀ {l : List (Addr × Obj)}, LCg.Off1 D l → Far D l
  | [], _ => fun _ h => (nomatch h)
  | _ :: _, h => fun q hq => by
    rcases List.mem_cons.mp hq with rfl | hq
    · exact h.1
    · exact far_off1 h.2 q hq
theorem allLt_app {a : Addr} : ∀ {l r : List (Addr × Obj)}, AllLt a (l ++ r) → AllLt a l
  | [], _, _ => trivial
  | _ :: _, _, h => ⟨h.1, allLt_app h.2⟩
/-- what was made on top of a ledger that stays -/
inductive New0 (l : List (Addr × Obj)) : List (Addr × Obj) → List (Addr × Obj) → Prop
  | nil : New0 l [] l
  | app {a} : (∀ p ∈ a, Far p.1 l) → New0 l a (l ++ a)
  | cons {x o add all} : Far x l → New0 l add all → New0 l ((x, o) :: add) ((x, o) :: all)
theorem New0.sub {l : List (Addr × Obj)} : ∀ {add all : List (Addr × Obj)}, New0 l add all → (∀ p ∈ l ++ add, p ∈ all) ∧ ∀ p ∈ add, Far p.1 l
  | _, _, .nil => ⟨fun p h => by simpa using h, fun _ h => (nomatch h)⟩
  | _, _, .app h => ⟨fun p h => h, h⟩
  | _, _, .cons h r => by
    obtain ⟨a, c⟩ := r.sub
    refine ⟨fun p hp => ?_, fun p hp => ?_⟩
    · rcases List.mem_append.mp hp with hp | hp
      · exact .tail _ (a _ (List.mem_append_left _ hp))
      · rcases List.mem_cons.mp hp with rfl | hp
        · exact .head _
        · exact .tail _ (a _ (List.mem_append_right _ hp))
    · rcases List.mem_cons.mp hp with rfl | hp
      · exact h
      · exact c p hp
abbrev E0 : Addr × Obj := (109, { cls := .type "tuple", data := .seq #[] 0 })
theorem HeapIn.up {l l' : List (Addr × Obj)} {hx tl : Addr} (h : HeapIn l hx tl) (hs : ∀ p ∈ l, p ∈ l') : HeapIn l' hx tl := by
  obtain ⟨dx, hsh, tok, n, a, b⟩ := h
  exact ⟨dx, hsh, tok, n, hs _ a, hs _ b⟩
theorem ThingAll.up {l l' : List (Addr × Obj)} {vs : List Value} {ks : List Dat} (h : ThingAll l vs ks) (hs : ∀ p ∈ l, p ∈ l') : ThingAll l' vs ks := h.mono hs
theorem DatIn.up {l l' : List (Addr × Obj)} {v : Value} {d : Dat} (h : DatIn l v d) (hs : ∀ p ∈ l, p ∈ l') : DatIn l' v d := h.mono hs
open LCg in
theorem comp_inv {prog : Program} {w : World} {A : Around} {h₀ : Heap} {L : Addr} {m : Str → Option Value} {env : Env} {elt : PySem.Expr} {x : Str} {scope : Scope} {cl : List (Str × Addr)} {s : Shared} {S : List (Addr × Obj) → Prop} {P : Nat → Value → Prop} {Fin : List Value → List (Addr × Obj) → Prop} {n : Nat}
    (J : Nat → List Value → List (Addr × Obj) → Prop)
    (turn : ∀ i ys news v I oI C oC D m₂ h tk (E' : Value → Shared → Prop), i < n → P i v → J i ys news → NsObj oC m₂ → m₂ x = some v → Fr h₀ L h m → News h₀ L h ((I, oI) :: (C, oC) :: (D, lst ys) :: news) → Off3 I C D news → ((@Ne Nat I C) ∧ (@Ne Nat I D) ∧ (@Ne Nat C D)) →
      wpAny (model prog w) A (eval elt (compEnvC scope cl C env)) (CompEnd h₀ L m { s with heap := h, toks := tk } I oI C oC D (lst ys) S (fun y news' => J (i + 1) (ys ++ [y]) news')) E' { s with heap := h, toks := tk })
    (fin : ∀ ys news, J n ys news → Fin ys news) {news : List (Addr × Obj)} (start : J 0 [] news) : CompRest prog w A h₀ L m env elt x scope cl s S P Fin n 0 [] news := by
  have key : ∀ (j i : Nat) (ys : List Value) (news : List (Addr × Obj)), i + j = n → J i ys news → CompRest prog w A h₀ L m env elt x scope cl s S P Fin j i ys news := by
    intro j
    induction j with
    | zero => intro i ys news hi hj; exact CompRest.zero (fin _ _ (by rw [← hi]; exact hj))
    | succ j ih =>
      intro i ys news hi hj
      refine CompRest.succ fun v I oI C oC D m₂ h tk E' hP hC hx F N off ne => ?_
      refine wpAny_mono (turn i ys news v I oI C oC D m₂ h tk E' (by omega) hP hj hC hx F N off ne) (fun y s₂ hq => ?_) fun _ _ e => e
      obtain ⟨h', tk', nw, e, F', N', off', hS, hr⟩ := hq
      exact ⟨h', tk', nw, e, F', N', off', hS, ih _ _ _ (by omega) hr⟩
  exact key n 0 [] news (by omega) start
open LCg in
theorem turn_end {h₀ : Heap} {L I C D : Addr} {m : Str → Option Value} {s₁ : Shared} {oI oC oD : Obj} {S : List (Addr × Obj) → Prop} {rest : Value → List (Addr × Obj) → Prop} {y : Value} {h' : Heap} {tk : Nat} {news add : List (Addr × Obj)}
    (F : Fr h₀ L h' m) (N : News h₀ L h' ((I, oI) :: (C, oC) :: (D, oD) :: (news ++ add))) (off : Off3 I C D news) (ho : ∀ p ∈ add, Far p.1 ((I, oI) :: (C, oC) :: (D, oD) :: news)) (hS : S (news ++ add)) (r : rest y (news ++ add)) :
    CompEnd h₀ L m s₁ I oI C oC D oD S rest y { s₁ with heap := h', toks := tk } := by
  refine CompEnd.intro F N (news ++ add) (fun p hp => hp) (Off3.of fun p hp => ?_) hS r
  rcases List.mem_append.mp hp with hp | hp
  · exact off.mem p hp
  · exact ⟨Ne.symm (ho p hp _ (.head _)), Ne.symm (ho p hp _ (.tail _ (.head _))), Ne.symm (ho p hp _ (.tail _ (.tail _ (.head _))))⟩
/-- the values of a list have the kinds -/
inductive GoodAll (ks : List Dat) : List Dat → List Dat → Prop
  | nil : GoodAll ks [] []
  | cons {d k ds es} : Good ks d k → GoodAll ks ds es → GoodAll ks (d :: ds) (k :: es)
theorem GoodAll.len {ks ds es : List Dat} (h : GoodAll ks ds es) : ds.length = es.length := by
  induction h with
  | nil => rfl
  | cons _ _ ih => rw [List.length_cons, List.length_cons, ih]
theorem GoodAll.at {ks ds es : List Dat} (h : GoodAll ks ds es) : ∀ {i : Nat} {d : Dat}, ds[i]? = some d → ∃ k, es[i]? = some k ∧ Good ks d k := by
  induction h with
  | nil => intro i d h; simp at h
  | cons a _ ih =>
    intro i d h
    cases i with
    | zero => simp only [List.getElem?_cons_zero, Option.some.injEq] at h; subst h; exact ⟨_, rfl, a⟩
    | succ i => simp only [List.getElem?_cons_succ] at h ⊢; exact ih h
theorem DatAll_at {l : List (Addr × Obj)} : ∀ {vs : List Value} {ds : List Dat}, DatAll l vs ds → ∀ {i : Nat} {v : Value}, vs[i]? = some v → ∃ d, ds[i]? = some d ∧ DatIn l v d
  | _, _, .nil, i, v, h => by simp at h
  | _, _, .cons a r, i, v, h => by
    cases i with
    | zero => simp only [List.getElem?_cons_zero, Option.some.injEq] at h; subst h; exact ⟨_, rfl, a⟩
    | succ i => simp only [List.getElem?_cons_succ] at h ⊢; exact DatAll_at r h
open LCg in
theorem kinds_rest {prog : Program} {w : World} {A : Around} {h₀ : Heap} {L : Addr} {m : Str → Option Value} {env : Env} {elt : PySem.Expr} {x : Str} {scope : Scope} {cl : List (Str × Addr)} {s : Shared} {S : List (Addr × Obj) → Prop} {P : Nat → Value → Prop} {Fin : List Value → List (Addr × Obj) → Prop} {n : Nat}
    {vs : List Value} {dvs dks ks : List Dat} {news fix : List (Addr × Obj)} {R : Dat → Prop} (hA : DatAll fix vs dvs) (hG : GoodAll ks dvs dks) (hR : ∀ d ∈ dvs, R d) (hn : n = vs.length) (h100 : vs.length ≤ 100) (hP : ∀ i v, P i v → vs[i]? = some v)
    (turn : ∀ v dv dk I oI C oC D m₂ ys add h tk (E' : Value → Shared → Prop), DatIn fix v dv → Good ks dv dk → R dv → NsObj oC m₂ → m₂ x = some v → Fr h₀ L h m → News h₀ L h ((I, oI) :: (C, oC) :: (D, lst ys) :: (news ++ add)) → Off3 I C D (news ++ add) → ((@Ne Nat I C) ∧ (@Ne Nat I D) ∧ (@Ne Nat C D)) →
      wpAny (model prog w) A (eval elt (compEnvC scope cl C env)) (CompEnd h₀ L m { s with heap := h, toks := tk } I oI C oC D (lst ys) S (fun y news' => ∃ add', news' = (news ++ add) ++ add' ∧ (∀ p ∈ add', Far p.1 (news ++ add)) ∧ DatIn (E0 :: (fix ++ add')) y dk)) E' { s with heap := h, toks := tk })
    (fin : ∀ ys add, DatAll (E0 :: (fix ++ add)) ys dks → (∀ p ∈ add, Far p.1 news) → ys.length ≤ 100 → Fin ys (news ++ add)) : CompRest prog w A h₀ L m env elt x scope cl s S P Fin n 0 [] news := by
  have hl : dks.length = n := by rw [← hG.len, ← hA.length, hn]
  refine comp_inv (fun i ys nw => ∃ add, nw = news ++ add ∧ (∀ p ∈ add, Far p.1 news) ∧ DatAll (E0 :: (fix ++ add)) ys (dks.take i)) ?_ ?_ ⟨[], (List.append_nil _).symm, (fun _ h => (nomatch h)), by rw [List.take_zero]; exact .nil⟩
  · rintro i ys _ v I oI C oC D m₂ h tk E' hi hPv ⟨add, rfl, ho, hD⟩ hC hx F N off ne
    obtain ⟨dv, hd1, hd2⟩ := DatAll_at hA (hP _ _ hPv)
    obtain ⟨dk, hk1, hk2⟩ := hG.at hd1
    refine wpAny_mono (turn v dv dk I oI C oC D m₂ ys add h tk E' hd2 hk2 (hR _ (List.mem_of_getElem? hd1)) hC hx F N off ne) (fun y s₂ hq => ?_) fun _ _ e => e
    obtain ⟨h', tk', nw, e, F', N', off', hS, add', rfl, ho', hy⟩ := hq
    refine ⟨h', tk', _, e, F', N', off', hS, add ++ add', (List.append_assoc _ _ _), fun p hp => ?_, ?_⟩
    · rcases List.mem_append.mp hp with hp | hp
      · exact ho p hp
      · exact far_app (ho' p hp)
    · rw [List.take_add_one, hk1]
      refine DatAll.append (hD.mono fun p hp => ?_) (DatAll.one (hy.mono fun p hp => ?_))
      · rcases List.mem_cons.mp hp with rfl | hp
        · exact .head _
        · rcases List.mem_append.mp hp with hp | hp
          · exact .tail _ (List.mem_append_left _ hp)
          · exact .tail _ (List.mem_append_right _ (List.mem_append_left _ hp))
      · rcases List.mem_cons.mp hp with rfl | hp
        · exact .head _
        · rcases List.mem_append.mp hp with hp | hp
          · exact .tail _ (List.mem_append_left _ hp)
          · exact .tail _ (List.mem_append_right _ (List.mem_append_right _ hp))
  · rintro ys _ ⟨add, rfl, ho, hD⟩
    rw [← hl, List.take_length] at hD
    exact fin ys add hD ho (by rw [hD.length, hl, hn]; exact h100)
end
section
theorem e0_K (P : Params) : (hd.heap_1_39 P).lookup 109 = some E0.2 := rfl
section
variable {l : List (Addr × Obj)} {v : Value} {d1 d2 d3 : Dat}
theorem datStr {x : Str} (h : DatIn l v (.str x)) : ∃ t, v = .str x t := by
  cases h; exact ⟨_, rfl⟩
theorem datInt {i : Int} (h : DatIn l v (.int i)) : ∃ t, v = .int i t := by
  cases h; exact ⟨_, rfl⟩
theorem datBool {b : Bool} (h : DatIn l v (.bool b)) : v = .bool b := by
  cases h; rfl
theorem dat1 (h : DatIn l v (.tuple [d1])) : ∃ a v1 n, v = .ref a ∧ (a, ({ cls := .type "tuple", data := .seq [v1].toArray n } : Obj)) ∈ l ∧ DatIn l v1 d1 := by
  cases h with | tuple hm ha =>
  cases ha with | cons a1 r1 =>
  cases r1
  exact ⟨_, _, _, rfl, hm, a1⟩
theorem dat2 (h : DatIn l v (.tuple [d1, d2])) : ∃ a v1 v2 n, v = .ref a ∧ (a, ({ cls := .type "tuple", data := .seq [v1, v2].toArray n } : Obj)) ∈ l ∧ DatIn l v1 d1 ∧ DatIn l v2 d2 := by
  cases h with | tuple hm ha =>
  cases ha with | cons a1 r1 =>
  cases r1 with | cons a2 r2 =>
  cases r2
  exact ⟨_, _, _, _, rfl, hm, a1, a2⟩
theorem dat3 (h : DatIn l v (.tuple [d1, d2, d3])) : ∃ a v1 v2 v3 n, v = .ref a ∧ (a, ({ cls := .type "tuple", data := .seq [v1, v2, v3].toArray n } : Obj)) ∈ l ∧ DatIn l v1 d1 ∧ DatIn l v2 d2 ∧ DatIn l v3 d3 := by
  cases h with | tuple hm ha =>
  cases ha with | cons a1 r1 =>
  cases r1 with | cons a2 r2 =>
  cases r2 with | cons a3 r3 =>
  cases r3
  exact ⟨_, _, _, _, _, rfl, hm, a1, a2, a3⟩
end
theorem kindOf0 {w : World} {p : Program} {loose : List Str} {mean : ExcName → Option Value} {mg mb : Str → Option Value} {dp un : Nat} {gd : Option (List Code)} {cn : Str} {cs : Scope} {aa : Addr} {ccd : Value} {cl : List (Str × Addr)} {outer : List Env} {A₀ : Around} {base h₀ : Heap} {L : Addr} {m : Str → Option Value}
    {news fix : List (Addr × Obj)} {s : Shared} {tl hx : Addr} {ts : List Value} {nt : Nat} {ks : List Dat} {v : Value} {dv dk : Dat} {Q E : Value → Shared → Prop}
    (B : Below A₀ base outer h₀) (F : Fr h₀ L s.heap m) (X : (hd.heap_1_39 w.params).In h₀) (N : News h₀ L s.heap news) (T : Top p loose mean mg mb h₀) (hk : cs.kind = .function)
    (hfx : ∀ p ∈ fix, p ∈ news) (hH : HeapIn fix hx tl) (hTl : (tl, W.listOf ts.toArray nt) ∈ news) (hT : ThingAll fix ts ks) (hlen : ks.length < 100) (hv : DatIn fix v dv) (hG : Good ks dv dk) (hnt : ∀ d, dv ≠ .tuple [S "tuple", d]) (hdp : dp < 500) (hun : un < 2000)
    (ret : ∀ r add h' tk', Fr h₀ L h' m → News h₀ L h' (news ++ add) → (∀ p ∈ add, Far p.1 news) → DatIn (E0 :: (fix ++ add)) r dk → Q r { s with heap := h', toks := tk' }) :
    wpAny (model PySem.Challenge.rw_pc0201_01.row.prog w) (ktrTop dp un gd cn cs L aa ccd cl outer) (call (.ref 236) [.ref hx, v]) Q E s := by
  w_top off
  k_with_none
  (k_with "k_all" => (assumption))
  (k_with "k_mem" => (assumption))
  (k_with "size_fits" => (((try simp only [List.size_toArray]); rw [PySem.sizeLine_eq]; omega)))
  (k_with "kqd_in" => (exact DatIn.bool _))
  (k_with "k_room" => (ktr_room))
  (k_with "k_upd" => (first | (refine' Del.head ?zq_a; (case zq_a => k_all)) | (refine' Del.tail ?zq_a ?zq_b; (case zq_a => k_ne); (case zq_b => k_upd))))
  (k_with "call builtin:len" => ((k_here; (with_reducible show wpAny _ _ (call (Value.builtin "len") [Value.ref _]) _ _ _); (with_unfolding_all refine' len_led ?zq_k1 ?zq_k2 ?zq_k3 ?_; (case zq_k1 => k_asm); (case zq_k2 => k_mem); (case zq_k3 => ((try simp only [Array.size_push, List.size_toArray]); omega)); k_whole); (try simp only [Array.size_push, List.size_toArray]))))
  (k_with "subscriptTail" => ((k_here; (with_reducible show wpAny _ _ (subscriptTail _ _ (Value.ref _) (Value.int _ _)) _ _ _); (with_unfolding_all refine' item_led ?zq_k1 ?zq_k2 ?zq_k3 ?zq_k4 ?zq_k5 ?_ ?zq_k6; (case zq_k1 => k_asm); (case zq_k2 => k_mem); (case zq_k3 => omega); (case zq_k4 => omega); (case zq_k5 => assumption); (case zq_k6 => with_unfolding_all rfl); k_whole))))
  (k_with "tb_start" => ((refine' code_defC ?zq_k1 ?zq_k2 ?zq_k3 ?zq_k4 ?zq_k5 ?zq_kA ?zq_kF ?zq_kK ?zq_k6 ?zq_k7 ?zq_k8 ?zq_k9 ?zq_kB ?zq_kD ?_ ?zq_c2 ?zq_c3 ?zq_c4; (case zq_kA => exact rfl); (case zq_kF => exact rfl); (case zq_kK => assumption); (case zq_k1 => k_asm); (case zq_k2 => k_asm); (case zq_k3 => k_asm); (case zq_k4 => k_asm); (case zq_k5 => k_asm); (case zq_k6 => k_is); (case zq_k7 => k_is); (case zq_k8 => ktr_room); (case zq_k9 => exact BindsTo.of_eq rfl); (case zq_kB => exact rfl); (case zq_kD => decide +kernel); (case zq_c2 => exact rfl); (case zq_c3 => exact rfl); (case zq_c4 => exact rfl); k_whole; intro g' L' h' tk' cells' FG' F' N' Y' B' X' T' l1; (try k_lt l1); k_cells Y'; (try simp only [List.cons_append, List.nil_append] at N'); (try dsimp only); (try k_fold))))
  (k_with "call type:tuple" => ((k_here; (with_reducible show wpAny _ _ (call (Value.type "tuple") [Value.ref _]) _ _ _); k_dflt (refine' call_tuple_tup ?zq_t ?_; (case zq_t => exact tupK (by k_in) (by k_is)); k_whole))))
  (k_with "tb_rel" => ((first | exact far_lt (by tbn_lt) | exact far_lt (allLt_up (by tbn_find) (by omega)) | exact far_lt (allLt_up (allLt_of (by assumption)) (by omega)) | exact far_lt (allLt_app (by tbn_find)) | exact far_sub (far_off1 (by assumption)) (by intro p hp; kcf_m))))
  obtain ⟨dx, hsh, tok, nd, hm1, hm2⟩ := hH
  have hlen2 := hT.length
  replace hm1 := hfx _ hm1
  replace hm2 := hfx _ hm2
  have ret2 : ∀ {r add all h' tk'}, News h₀ L h' all → New0 news add all → DatIn (E0 :: (fix ++ add)) r dk → Fr h₀ L h' m → Q r { s with heap := h', toks := tk' } := by
    intro r add all h' tk' c1 c2 c3 c4
    exact ret _ _ _ _ c4 (fun p hp => c1 p (c2.sub.1 p hp)) c2.sub.2 c3
  have up : ∀ {v d}, DatIn fix v d → ∀ {add}, DatIn (E0 :: (fix ++ add)) v d := fun h _ => h.mono fun p hp => .tail _ (List.mem_append_left _ hp)
  have up2 : ∀ {v d add}, DatIn (E0 :: add) v d → DatIn (E0 :: (fix ++ add)) v d := fun h => h.mono fun p hp => by
    rcases List.mem_cons.mp hp with rfl | hp
    · exact .head _
    · exact .tail _ (List.mem_append_right _ hp)
  clear ret
  revert X; k_fill; intro X
  cases hG
  case tup => exact absurd rfl (hnt _)
  case arr i hi =>
    obtain ⟨tv, ht, hti⟩ := hT.at hi
    have hil : i < ts.length := (List.getElem?_eq_some_iff.mp ht).1
    obtain ⟨x, d, kv, fv, sv, h1, t1, h2, t2, h3, t3, n, rfl, hx1, hx2, hx3⟩ := hti
    replace hx1 := hfx _ hx1
    replace hx2 := hfx _ hx2
    obtain ⟨a, v1, v2, n0, rfl, hm, a1, a2⟩ := dat2 hv
    replace hm := hfx _ hm
    obtain ⟨u1, rfl⟩ := datStr a1; obtain ⟨u2, rfl⟩ := datInt a2
    refine wpAny_call ?_
    k_dflt tb_start
    k_steps
    (rename News _ _ _ _ => kN9)
    refine' ret2 kN9 ?n (up hx3) (by assumption)
    case n => repeat' (first | exact New0.nil | refine' New0.cons (by tb_rel) ?_)
  case obj i hi =>
    obtain ⟨tv, ht, hti⟩ := hT.at hi
    have hil : i < ts.length := (List.getElem?_eq_some_iff.mp ht).1
    obtain ⟨x, d, kv, fv, sv, h1, t1, h2, t2, h3, t3, n, rfl, hx1, hx2, hx3⟩ := hti
    replace hx1 := hfx _ hx1
    replace hx2 := hfx _ hx2
    obtain ⟨a, v1, v2, n0, rfl, hm, a1, a2⟩ := dat2 hv
    replace hm := hfx _ hm
    obtain ⟨u1, rfl⟩ := datStr a1; obtain ⟨u2, rfl⟩ := datInt a2
    refine wpAny_call ?_
    k_dflt tb_start
    k_steps
    (rename News _ _ _ _ => kN9)
    refine' ret2 kN9 ?n (up hx3) (by assumption)
    case n => repeat' (first | exact New0.nil | refine' New0.cons (by tb_rel) ?_)
  case str d =>
    obtain ⟨a, v1, v2, v3, n0, rfl, hm, a1, a2, a3⟩ := dat3 hv
    replace hm := hfx _ hm
    obtain ⟨u1, rfl⟩ := datStr a1
    refine wpAny_call ?_
    k_dflt tb_start
    k_steps
    (rename News _ _ _ _ => kN9)
    refine' ret2 kN9 ?n (up a2) (by assumption)
    case n => repeat' (first | exact New0.nil | refine' New0.cons (by tb_rel) ?_)
  case typ d =>
    obtain ⟨a, v1, v2, n0, rfl, hm, a1, a2⟩ := dat2 hv
    replace hm := hfx _ hm
    obtain ⟨u1, rfl⟩ := datStr a1
    refine wpAny_call ?_
    k_dflt tb_start
    k_steps
    (rename News _ _ _ _ => kN9)
    refine' ret2 kN9 ?n ?d (by assumption)
    case n => repeat' (first | exact New0.nil | refine' New0.cons (by tb_rel) ?_)
    case d => exact DatIn.tuple (.tail _ (List.mem_append_right _ (by k_mem))) (.cons (.str _ _) (.cons (up a2) .nil))
  case tree d =>
    obtain ⟨a, v1, v2, n0, rfl, hm, a1, a2⟩ := dat2 hv
    replace hm := hfx _ hm
    obtain ⟨u1, rfl⟩ := datStr a1
    refine wpAny_call ?_
    k_dflt tb_start
    k_steps
    (rename News _ _ _ _ => kN9)
    refine' ret2 kN9 ?n ?d (by assumption)
    case n => repeat' (first | exact New0.nil | refine' New0.cons (by tb_rel) ?_)
    case d => refine up2 ?_; kqd_in
  case char i =>
    obtain ⟨a, v1, v2, n0, rfl, hm, a1, a2⟩ := dat2 hv
    replace hm := hfx _ hm
    obtain ⟨u1, rfl⟩ := datStr a1; obtain ⟨u2, rfl⟩ := datInt a2
    refine wpAny_call ?_
    k_dflt tb_start
    k_steps
    (rename News _ _ _ _ => kN9)
    refine' ret2 kN9 ?n ?d (by assumption)
    case n => repeat' (first | exact New0.nil | refine' New0.cons (by tb_rel) ?_)
    case d => refine up2 ?_; kqd_in
  case int i =>
    obtain ⟨a, v1, v2, v3, n0, rfl, hm, a1, a2, a3⟩ := dat3 hv
    replace hm := hfx _ hm
    obtain ⟨u1, rfl⟩ := datStr a1; obtain ⟨u2, rfl⟩ := datStr a2; obtain ⟨u3, rfl⟩ := datInt a3
    refine wpAny_call ?_
    k_dflt tb_start
    k_steps
    (rename News _ _ _ _ => kN9)
    refine' ret2 kN9 ?n ?d (by assumption)
    case n => repeat' (first | exact New0.nil | refine' New0.cons (by tb_rel) ?_)
    case d => refine up2 ?_; kqd_in
  case bool b =>
    obtain ⟨a, v1, v2, n0, rfl, hm, a1, a2⟩ := dat2 hv
    replace hm := hfx _ hm
    obtain ⟨u1, rfl⟩ := datStr a1; obtain rfl := datBool a2
    refine wpAny_call ?_
    k_dflt tb_start
    k_steps
    (rename News _ _ _ _ => kN9)
    refine' ret2 kN9 ?n ?d (by assumption)
    case n => repeat' (first | exact New0.nil | refine' New0.cons (by tb_rel) ?_)
    case d => refine up2 ?_; kqd_in
  case nothing =>
    obtain ⟨a, v1, n0, rfl, hm, a1⟩ := dat1 hv
    replace hm := hfx _ hm
    obtain ⟨u1, rfl⟩ := datStr a1
    refine wpAny_call ?_
    k_dflt tb_start
    k_steps
    (rename News _ _ _ _ => kN9)
    refine' ret2 kN9 ?n ?d (by assumption)
    case n => repeat' (first | exact New0.nil | refine' New0.cons (by tb_rel) ?_)
    case d => refine up2 ?_; kqd_in
  case bin x =>
    obtain ⟨a, v1, v2, n0, rfl, hm, a1, a2⟩ := dat2 hv
    replace hm := hfx _ hm
    obtain ⟨u1, rfl⟩ := datStr a1; obtain ⟨u2, rfl⟩ := datStr a2
    refine wpAny_call ?_
    k_dflt tb_start
    k_steps
    (rename News _ _ _ _ => kN9)
    refine' ret2 kN9 ?n ?d (by assumption)
    case n => repeat' (first | exact New0.nil | refine' New0.cons (by tb_rel) ?_)
    case d => refine up2 ?_; kqd_in
  case fn x =>
    obtain ⟨a, v1, v2, n0, rfl, hm, a1, a2⟩ := dat2 hv
    replace hm := hfx _ hm
    obtain ⟨u1, rfl⟩ := datStr a1; obtain ⟨u2, rfl⟩ := datStr a2
    refine wpAny_call ?_
    k_dflt tb_start
    k_steps
    (rename News _ _ _ _ => kN9)
    refine' ret2 kN9 ?n ?d (by assumption)
    case n => repeat' (first | exact New0.nil | refine' New0.cons (by tb_rel) ?_)
    case d => refine up2 ?_; kqd_in
  case clo x d =>
    obtain ⟨a, v1, v2, v3, n0, rfl, hm, a1, a2, a3⟩ := dat3 hv
    replace hm := hfx _ hm
    obtain ⟨u1, rfl⟩ := datStr a1; obtain ⟨u2, rfl⟩ := datStr a2
    refine wpAny_call ?_
    k_dflt tb_start
    k_steps
    (rename News _ _ _ _ => kN9)
    refine' ret2 kN9 ?n ?d (by assumption)
    case n => repeat' (first | exact New0.nil | refine' New0.cons (by tb_rel) ?_)
    case d => refine up2 ?_; kqd_in
end
section
section
open LCg
variable {prog : Program} {w : World} {A : Around} {E : Value → Shared → Prop} {s : Shared} {h₀ : Heap} {L : Addr} {m : Str → Option Value} {env : Env}
/-- a tuple of the ledger -/
def TupAtL (ax : Addr) (its : Array Value) (news : List (Addr × Obj)) : Prop := ∃ o, (ax, o) ∈ news ∧ o.cls = .type "tuple" ∧ ∃ n, o.data = .seq its n
theorem TupAtL.tup {h : Heap} {ax : Addr} {its : Array Value} {news : List (Addr × Obj)} (x : TupAtL ax its news) (N : News h₀ L h news) : h.IsTuple ax its := by
  obtain ⟨o, hm, r⟩ := x
  exact ⟨o, (N _ hm).1, r⟩
def SrcTup (prog : Program) (w : World) (A : Around) (h₀ : Heap) (L : Addr) (m : Str → Option Value) (env : Env) (elt : PySem.Expr) (x : Str) (scope : Scope) (cl : List (Str × Addr)) (Fin : Shared → List Value → List (Addr × Obj) → Prop) (xv : Value) (s₁ : Shared) : Prop :=
  ∃ ax its news, xv = .ref ax ∧ A.handled = none ∧ Fr h₀ L s₁.heap m ∧ News h₀ L s₁.heap news ∧ TupAtL ax its news ∧ its.size ≤ sizeLine ∧
    ∀ s₂ : Shared, (∃ h, s₂ = { s₁ with heap := h }) → CompRest prog w A h₀ L m env elt x scope cl s₂ (TupAtL ax its) (fun i v => its[i]? = some v) (Fin s₂) its.size 0 [] news
theorem SrcTup.of {elt : PySem.Expr} {x : Str} {scope : Scope} {cl : List (Str × Addr)} {Fin : Shared → List Value → List (Addr × Obj) → Prop} {ax : Addr} {vs : List Value} {k : Nat} {news : List (Addr × Obj)} {s₁ : Shared}
    (hh : A.handled = none) (F : Fr h₀ L s₁.heap m) (N : News h₀ L s₁.heap news) (hm : (ax, ({ cls := .type "tuple", data := .seq vs.toArray k } : Obj)) ∈ news) (hsz : vs.length ≤ 100)
    (h : ∀ g, CompRest prog w A h₀ L m env elt x scope cl { s₁ with heap := g } (TupAtL ax vs.toArray) (fun i v => vs.toArray[i]? = some v) (Fin { s₁ with heap := g }) vs.toArray.size 0 [] news) :
    SrcTup prog w A h₀ L m env elt x scope cl Fin (.ref ax) s₁ :=
  ⟨ax, _, news, rfl, hh, F, N, ⟨_, hm, rfl, _, rfl⟩, by rw [List.size_toArray, sizeLine_eq]; omega, fun _ ⟨g, e⟩ => e ▸ h g⟩
theorem compTup {elt iter : PySem.Expr} {x : Str} {px : Pos} {scope : Scope} {cl : List (Str × Addr)} {pos : Pos} {Q : Value → Shared → Prop} (F₀ : Fr h₀ L s.heap m)
    (hclos : closureFor scope env = pure cl) (hcell : ∀ y ∈ scope.names, y.2 ≠ .cell) (hkind : scope.kind = .function)
    (hnames : ∀ y ∈ scope.names, y.2 = .local → scope.names.lookup y.1 = some .local) (hx : scope.names.lookup x = some .local)
    (h : wpAny (model prog w) A (eval iter env) (SrcTup prog w A h₀ L m env elt x scope cl (fun s₂ => FinE h₀ L m s₂ Q)) E s)
    (hs : ∀ x, foldedSetIterable iter env x = pure x := by intro _; rfl) :
    wpAny (model prog w) A (eval (.ListComp elt [⟨.Name x px, iter, [], 0⟩] scope pos) env) Q E s := by
  rw [eval_ListComp]
  refine wpAny_comprehension_free (use := none) rfl hs hclos hkind hnames (wpAny_mono h (fun xv s₁ h₁ => ?_) fun _ _ e => e)
  obtain ⟨ax, its, news, rfl, hh, F, N, S, hsz, R⟩ := h₁
  have hl := S.tup N
  have hlt : ax < s₁.heap.objs.size := by obtain ⟨_, e, _⟩ := hl; exact Heap.lt_size e
  refine wpAny_pyIter_tuple hl ?_
  have up : ∀ b o, s₁.heap.get? b = some o → (s₁.heap.push { cls := .type "tuple_iterator", data := .fields #[.ref ax, .int 0 0] }).get? b = some o := fun b o e => Heap.get?_push_of_some _ e
  refine block_U (Walks.tuple hh s₁.heap.objs.size ax (Nat.ne_of_lt hlt) its) hsz (fun i h st => by obtain ⟨o, e, _⟩ := st.1; exact ⟨o, e⟩)
    (fun i h h' o nw st e e' _ Nw S' => ⟨by obtain ⟨o', q, r⟩ := st.1; rw [e] at q; cases q; exact ⟨o, e', r⟩, S'.tup Nw⟩) hcell hkind hx ⟨⟨_, Heap.get?_push_size _ rfl, rfl, rfl⟩, hl.push _⟩ (fun b hb => ?_)
    (F.keeps up) (N.grown up) (Nat.ne_of_lt F.ns.lt) (next_is_new F) (fun p hp => Nat.ne_of_lt (Heap.lt_size (N p hp).1)) S (R _ ⟨_, rfl⟩) ?_
  · show b < (s₁.heap.push _).objs.size
    rw [Heap.size_push]
    rcases List.mem_cons.mp hb with rfl | hb
    · exact Nat.lt_succ_self _
    · rw [List.mem_singleton.mp hb]; exact Nat.lt_succ_of_lt hlt
  · intro D C h tk m' ys news' F' N' o1 hn hC₀ hD₀ hCL hDL hCD offC fin
    refine ⟨m', hn, fun h'' hs'' => fin D h'' tk (F'.change hs'' hCL hC₀) (fun p hp => ?_) o1⟩
    refine ⟨hs''.extBut _ _ ?_ (N' p hp).1, (N' p hp).2⟩
    rcases List.mem_cons.mp hp with rfl | hp
    · exact Ne.symm hCD
    · exact offC p hp
end

theorem dat_ext {fix a b : List (Addr × Obj)} {vs : List Value} {ds : List Dat} (h : DatAll (E0 :: (fix ++ a)) vs ds) (hs : ∀ p ∈ a, p ∈ b) : DatAll (E0 :: (fix ++ b)) vs ds := h.mono fun p hp => by
  rcases List.mem_cons.mp hp with rfl | hp
  · exact .head _
  · rcases List.mem_append.mp hp with hp | hp
    · exact .tail _ (List.mem_append_left _ hp)
    · exact .tail _ (List.mem_append_right _ (hs p hp))
theorem kindOf {w : World} {p : Program} {loose : List Str} {mean : ExcName → Option Value} {mg mb : Str → Option Value} {dp un : Nat} {gd : Option (List Code)} {cn : Str} {cs : Scope} {aa : Addr} {ccd : Value} {cl : List (Str × Addr)} {outer : List Env} {A₀ : Around} {base h₀ : Heap} {L : Addr} {m : Str → Option Value}
    {news fix : List (Addr × Obj)} {s : Shared} {tl hx : Addr} {ts : List Value} {nt : Nat} {ks : List Dat} {v : Value} {dv dk : Dat} {Q E : Value → Shared → Prop}
    (B : Below A₀ base outer h₀) (F : Fr h₀ L s.heap m) (X : (hd.heap_1_39 w.params).In h₀) (N : News h₀ L s.heap news) (T : Top p loose mean mg mb h₀) (hk : cs.kind = .function)
    (hfx : ∀ p ∈ fix, p ∈ news) (hH : HeapIn fix hx tl) (hTl : (tl, W.listOf ts.toArray nt) ∈ news) (hT : ThingAll fix ts ks) (hlen : ks.length < 100) (hv : DatIn fix v dv) (hG : Good ks dv dk) (hdp : dp < 450) (hun : un < 1800)
    (ret : ∀ r add h' tk', Fr h₀ L h' m → News h₀ L h' (news ++ add) → (∀ p ∈ add, Far p.1 news) → DatIn (E0 :: (fix ++ add)) r dk → Q r { s with heap := h', toks := tk' }) :
    wpAny (model PySem.Challenge.rw_pc0201_01.row.prog w) (ktrTop dp un gd cn cs L aa ccd cl outer) (call (.ref 236) [.ref hx, v]) Q E s := by
  w_top off
  k_with_none
  (k_with "k_all" => (assumption))
  (k_with "k_mem" => (assumption))
  (k_with "size_fits" => (((try simp only [List.size_toArray]); rw [PySem.sizeLine_eq]; omega)))
  (k_with "kqd_in" => (exact DatIn.bool _))
  (k_with "k_room" => (ktr_room))
  (k_with "k_upd" => (first | (refine' Del.head ?zq_a; (case zq_a => k_all)) | (refine' Del.tail ?zq_a ?zq_b; (case zq_a => k_ne); (case zq_b => k_upd))))
  (k_with "call builtin:len" => ((k_here; (with_reducible show wpAny _ _ (call (Value.builtin "len") [Value.ref _]) _ _ _); (with_unfolding_all refine' len_led ?zq_k1 ?zq_k2 ?zq_k3 ?_; (case zq_k1 => k_asm); (case zq_k2 => k_mem); (case zq_k3 => ((try simp only [Array.size_push, List.size_toArray]); omega)); k_whole); (try simp only [Array.size_push, List.size_toArray]))))
  (k_with "subscriptTail" => ((k_here; (with_reducible show wpAny _ _ (subscriptTail _ _ (Value.ref _) (Value.int _ _)) _ _ _); (with_unfolding_all refine' item_led ?zq_k1 ?zq_k2 ?zq_k3 ?zq_k4 ?zq_k5 ?_ ?zq_k6; (case zq_k1 => k_asm); (case zq_k2 => k_mem); (case zq_k3 => omega); (case zq_k4 => omega); (case zq_k5 => assumption); (case zq_k6 => with_unfolding_all rfl); k_whole))))
  (k_with "tb_start" => ((refine' code_defC ?zq_k1 ?zq_k2 ?zq_k3 ?zq_k4 ?zq_k5 ?zq_kA ?zq_kF ?zq_kK ?zq_k6 ?zq_k7 ?zq_k8 ?zq_k9 ?zq_kB ?zq_kD ?_ ?zq_c2 ?zq_c3 ?zq_c4; (case zq_kA => exact rfl); (case zq_kF => exact rfl); (case zq_kK => assumption); (case zq_k1 => k_asm); (case zq_k2 => k_asm); (case zq_k3 => k_asm); (case zq_k4 => k_asm); (case zq_k5 => k_asm); (case zq_k6 => k_is); (case zq_k7 => k_is); (case zq_k8 => ktr_room); (case zq_k9 => exact BindsTo.of_eq rfl); (case zq_kB => exact rfl); (case zq_kD => decide +kernel); (case zq_c2 => exact rfl); (case zq_c3 => exact rfl); (case zq_c4 => exact rfl); k_whole; intro g' L' h' tk' cells' FG' F' N' Y' B' X' T' l1; (try k_lt l1); k_cells Y'; (try simp only [List.cons_append, List.nil_append] at N'); (try dsimp only); (try k_fold))))
  (k_with "call type:tuple" => ((k_here; (with_reducible show wpAny _ _ (call (Value.type "tuple") [Value.ref _]) _ _ _); k_dflt (refine' call_tuple_tup ?zq_t ?_; (case zq_t => exact tupK (by k_in) (by k_is)); k_whole))))
  (k_with "tb_rel" => ((first | exact far_lt (by tbn_lt) | exact far_lt (allLt_up (by tbn_find) (by omega)) | exact far_lt (allLt_up (allLt_of (by assumption)) (by omega)) | exact far_lt (allLt_app (by tbn_find)) | exact far_sub (far_off1 (by assumption)) (by intro p hp; kcf_m))))
  (k_with "k_mem" => (kcf_m))
  (k_with "eval ListComp" => ((k_here; k_dflt (refine compTup (F₀ := by k_asm) (by with_unfolding_all rfl) (by decide) (by rfl) (by decide) (by rfl) ?_))))
  (k_with "SrcTup" => ((k_here; k_dflt (refine' SrcTup.of ?zq_kh ?zq_kF ?zq_kN ?zq_km ?zq_ks ?_; (case zq_kh => rfl); (case zq_kF => k_asm); (case zq_kN => k_asm); (case zq_km => k_mem); (case zq_ks => first | assumption | exact Nat.le_of_ble_eq_true rfl | omega); intro g'; (refine' kinds_rest ?zq_kA ?zq_kG ?zq_kR ?zq_kn ?zq_k1 ?zq_kP (fun v' dv' dk' I' oI' C' oC' D' m' ys' add' h' tk' E' hv' hG' hR' hC' hx' F' N' off' ne' => ?_) ?_; (case zq_kA => assumption); (case zq_kG => assumption); (case zq_kR => assumption); (case zq_kn => rfl); (case zq_k1 => first | assumption | exact Nat.le_of_ble_eq_true rfl | omega); (case zq_kP => intro i v h; simpa using h)); kcf_last))))
  (k_with "CompEnd" => ((k_dflt (refine' turn_end ?zq_F ?zq_N ?zq_off ?zq_ho ?zq_hS ?zq_r; (case zq_off => assumption); (case zq_F => k_asm); (case zq_N => k_asm); (case zq_ho => assumption); (case zq_hS => exact ⟨_, by k_mem, rfl, _, rfl⟩); (case zq_r => exact ⟨_, rfl, fun p hp => far_sub ((by assumption : ∀ q ∈ _, Far q.1 _) p hp) (fun q hq => .tail _ (.tail _ (.tail _ hq))), by assumption⟩)))))
  (k_with "call type:tuple" => ((k_here; (with_reducible show wpAny _ _ (call (Value.type "tuple") [Value.ref _]) _ _ _); k_dflt (refine' kde_tupleOf (zs := _) ?zq_k1 ?zq_k2 ?zq_k3 ?zq_k4 ?zq_k5 ?_; (case zq_k1 => k_asm); (case zq_k2 => k_asm); (case zq_k3 => exact News.isList (by k_asm) (by k_mem)); (case zq_k5 => first | exact List.toList_toArray | exact List.toList_toArray _ | exact Array.toList_toArray _); (case zq_k4 => (simp only [List.size_toArray]; omega)); k_whole); intro D' h' F' N' l1; (try k_lt l1))))
  (k_with "call ref" => (((with_reducible show wpAny _ _ (call (Value.ref 236) _) _ _ _); k_here; k_dflt (refine' kindOf0 ?zq_kB ?zq_kF ?zq_kX ?zq_kN ?zq_kT ?zq_kK ?zq_kfx ?zq_kH ?zq_kTl ?zq_kTs ?zq_kl ?zq_kv ?zq_kG ?zq_knt ?zq_kd ?zq_ku ?_; (case zq_kB => k_asm); (case zq_kF => k_asm); (case zq_kX => k_asm); (case zq_kN => k_asm); (case zq_kT => k_asm); (case zq_kK => first | exact rfl | assumption); (case zq_kH => assumption); (case zq_kTl => k_mem); (case zq_kTs => assumption); (case zq_kl => assumption); (case zq_kv => assumption); (case zq_kG => assumption); (case zq_kfx => (intro p hp; (first | kcf_m | (have hp9 := (by assumption : ∀ q ∈ _, q ∈ _) p hp; kcf_m)))); (case zq_knt => assumption); (case zq_kd => ktr_room); (case zq_ku => first | decide | ktr_units); k_whole; intro r' add' h' tk' F' N' ho' hD'; (try dsimp only); (try k_sweep)))))
  have ret2 : ∀ {r add all h' tk'}, News h₀ L h' all → New0 news add all → DatIn (E0 :: (fix ++ add)) r dk → Fr h₀ L h' m → Q r { s with heap := h', toks := tk' } := by
    intro r add all h' tk' c1 c2 c3 c4
    exact ret _ _ _ _ c4 (fun p hp => c1 p (c2.sub.1 p hp)) c2.sub.2 c3
  cases hG
  case tup b =>
    obtain ⟨a, v1, v2, n0, rfl, hm, a1, a2⟩ := dat2 hv
    cases a1
    obtain ⟨a', p1, p2, n1, rfl, hm', b1, b2⟩ := dat2 a2
    replace hm := hfx _ hm
    replace hm' := hfx _ hm'
    have hA : DatAll fix [p1, p2] [.tuple [S "bool", .bool b], .tuple [S "nothing"]] := .cons b1 (.cons b2 .nil)
    have hGA : GoodAll ks [.tuple [S "bool", .bool b], .tuple [S "nothing"]] [.tuple [S "name", S "Bool", .tuple []], .tuple [S "name", S "Nothing", .tuple []]] := .cons (.bool b) (.cons .nothing .nil)
    have hRR : ∀ d ∈ [Dat.tuple [S "bool", .bool b], .tuple [S "nothing"]], ∀ x, d ≠ Dat.tuple [S "tuple", x] := by
      intro d hd x
      rcases List.mem_cons.mp hd with rfl | hd
      · intro e; exact absurd (Dat.str.inj (List.cons.inj (Dat.tuple.inj e)).1) (by decide +kernel)
      · rw [List.mem_singleton.mp hd]; intro e; cases (List.cons.inj (Dat.tuple.inj e)).2
    revert X; k_fill; intro X
    refine wpAny_call ?_
    k_dflt tb_start
    k_steps
    (rename News _ _ _ _ => kN9)
    refine' ret2 kN9 ?n ?d (by assumption)
    case n => repeat' (first | exact New0.nil | exact New0.app (fun p hp => far_sub ((by assumption : ∀ q ∈ _, Far q.1 _) p hp) (fun q hq => .tail _ hq)) | refine' New0.cons (by tb_rel) ?_)
    case d => exact DatIn.tuple (by k_mem) (.cons (.str _ _) (.cons (.tuple (by k_mem) (dat_ext (by assumption) (by intro p hp; kcf_m))) (.cons .none .nil)))
  all_goals (refine kindOf0 B F X N T hk hfx hH hTl hT hlen hv (by first | exact .int _ | exact .char _ | exact .arr _ _ (by assumption) | exact .typ _ | exact .tree _ | exact .bin _ | exact .bool _ | exact .nothing | exact .fn _ | exact .clo _ _ | exact .str _ _ | exact .obj _ _ (by assumption)) (fun d e => absurd (Dat.str.inj (List.cons.inj (Dat.tuple.inj e)).1) (by decide +kernel)) (by omega) (by omega) ret)
end
section
section
variable {prog : Program} {w : World} {A : Around} {E : Value → Shared → Prop} {s : Shared} {h₀ : Heap} {L l b : Addr} {m : Str → Option Value} {news : List (Addr × Obj)}
theorem addL {vs ws : List Value} {n1 n2 : Nat} {Q : Value → Shared → Prop} (F : Fr h₀ L s.heap m) (N : News h₀ L s.heap news) (m1 : (l, W.listOf vs.toArray n1) ∈ news) (m2 : (b, W.listOf ws.toArray n2) ∈ news) (hsz : vs.length + ws.length ≤ 1000)
    (h : ∀ D h', Fr h₀ L h' m → News h₀ L h' ((D, W.listOf (vs ++ ws).toArray 0) :: news) → (∀ p ∈ news, p.1 < D) → Q (.ref D) { s with heap := h' }) : wpAny (model prog w) A (binaryOp .Add (.ref l) (.ref b)) Q E s :=
  add_arrays F N (News.isList N m1) (News.isList N m2) (fun h' F' N' => h _ h' F' N' fun p hp => Heap.lt_size (N p hp).1) (by rw [sizeLine_eq]; simp only [List.size_toArray]; omega)
end
theorem far_of {a : Addr} {l : List (Addr × Obj)} (h : ∀ p ∈ l, p.1 < a) : Far a l := fun q hq => Nat.ne_of_lt (h q hq)
theorem dat_ext1 {fix a b : List (Addr × Obj)} {v : Value} {d : Dat} (h : DatIn (E0 :: (fix ++ a)) v d) (hs : ∀ p ∈ a, p ∈ b) : DatIn (E0 :: (fix ++ b)) v d := by
  cases dat_ext (.cons h .nil) hs with | cons h _ => exact h
theorem callKind {w : World} {p : Program} {loose : List Str} {mean : ExcName → Option Value} {mg mb : Str → Option Value} {dp un : Nat} {gd : Option (List Code)} {cn : Str} {cs : Scope} {aa : Addr} {ccd : Value} {cl : List (Str × Addr)} {outer : List Env} {A₀ : Around} {base h₀ : Heap} {L : Addr} {m : Str → Option Value}
    {news fix : List (Addr × Obj)} {s : Shared} {tl hx la : Addr} {ts vs : List Value} {nt na : Nat} {ks dvs dks : List Dat} {v : Value} {dv dk : Dat} {Q E : Value → Shared → Prop}
    (B : Below A₀ base outer h₀) (F : Fr h₀ L s.heap m) (X : (hd.heap_1_39 w.params).In h₀) (N : News h₀ L s.heap news) (T : Top p loose mean mg mb h₀) (hk : cs.kind = .function)
    (hfx : ∀ p ∈ fix, p ∈ news) (hH : HeapIn fix hx tl) (hTl : (tl, W.listOf ts.toArray nt) ∈ news) (hT : ThingAll fix ts ks) (hlen : ks.length < 100) (hv : DatIn fix v dv) (hG : Good ks dv dk)
    (hla : (la, W.listOf vs.toArray na) ∈ news) (hA : DatAll fix vs dvs) (hGA : GoodAll ks dvs dks) (h50 : vs.length ≤ 50) (hdp : dp < 440) (hun : un < 1700)
    (ret : ∀ r add h' tk', Fr h₀ L h' m → News h₀ L h' (news ++ add) → (∀ p ∈ add, Far p.1 news) → DatIn (E0 :: (fix ++ add)) r (.tuple [S "tuple", .tuple (dk :: dks), .none]) → Q r { s with heap := h', toks := tk' }) :
    wpAny (model PySem.Challenge.rw_pc0201_01.row.prog w) (ktrTop dp un gd cn cs L aa ccd cl outer) (call (.ref 241) [.ref hx, v, .ref la]) Q E s := by
  w_top off
  k_with_none
  (k_with "k_all" => (assumption))
  (k_with "k_mem" => (assumption))
  (k_with "size_fits" => (((try simp only [List.size_toArray]); rw [PySem.sizeLine_eq]; omega)))
  (k_with "kqd_in" => (exact DatIn.bool _))
  (k_with "k_room" => (ktr_room))
  (k_with "k_upd" => (first | (refine' Del.head ?zq_a; (case zq_a => k_all)) | (refine' Del.tail ?zq_a ?zq_b; (case zq_a => k_ne); (case zq_b => k_upd))))
  (k_with "call builtin:len" => ((k_here; (with_reducible show wpAny _ _ (call (Value.builtin "len") [Value.ref _]) _ _ _); (with_unfolding_all refine' len_led ?zq_k1 ?zq_k2 ?zq_k3 ?_; (case zq_k1 => k_asm); (case zq_k2 => k_mem); (case zq_k3 => ((try simp only [Array.size_push, List.size_toArray]); omega)); k_whole); (try simp only [Array.size_push, List.size_toArray]))))
  (k_with "subscriptTail" => ((k_here; (with_reducible show wpAny _ _ (subscriptTail _ _ (Value.ref _) (Value.int _ _)) _ _ _); (with_unfolding_all refine' item_led ?zq_k1 ?zq_k2 ?zq_k3 ?zq_k4 ?zq_k5 ?_ ?zq_k6; (case zq_k1 => k_asm); (case zq_k2 => k_mem); (case zq_k3 => omega); (case zq_k4 => omega); (case zq_k5 => assumption); (case zq_k6 => with_unfolding_all rfl); k_whole))))
  (k_with "tb_start" => ((refine' code_defC ?zq_k1 ?zq_k2 ?zq_k3 ?zq_k4 ?zq_k5 ?zq_kA ?zq_kF ?zq_kK ?zq_k6 ?zq_k7 ?zq_k8 ?zq_k9 ?zq_kB ?zq_kD ?_ ?zq_c2 ?zq_c3 ?zq_c4; (case zq_kA => exact rfl); (case zq_kF => exact rfl); (case zq_kK => assumption); (case zq_k1 => k_asm); (case zq_k2 => k_asm); (case zq_k3 => k_asm); (case zq_k4 => k_asm); (case zq_k5 => k_asm); (case zq_k6 => k_is); (case zq_k7 => k_is); (case zq_k8 => ktr_room); (case zq_k9 => exact BindsTo.of_eq rfl); (case zq_kB => exact rfl); (case zq_kD => decide +kernel); (case zq_c2 => exact rfl); (case zq_c3 => exact rfl); (case zq_c4 => exact rfl); k_whole; intro g' L' h' tk' cells' FG' F' N' Y' B' X' T' l1; (try k_lt l1); k_cells Y'; (try simp only [List.cons_append, List.nil_append] at N'); (try dsimp only); (try k_fold))))
  (k_with "call type:tuple" => ((k_here; (with_reducible show wpAny _ _ (call (Value.type "tuple") [Value.ref _]) _ _ _); k_dflt (refine' call_tuple_tup ?zq_t ?_; (case zq_t => exact tupK (by k_in) (by k_is)); k_whole))))
  (k_with "tb_rel" => ((first | exact far_lt (by tbn_lt) | exact far_lt (allLt_up (by tbn_find) (by omega)) | exact far_lt (allLt_up (allLt_of (by assumption)) (by omega)) | exact far_lt (allLt_app (by tbn_find)) | exact far_sub (far_off1 (by assumption)) (by intro p hp; kcf_m))))
  (k_with "k_mem" => (kcf_m))
  (k_with "call type:tuple" => ((k_here; (with_reducible show wpAny _ _ (call (Value.type "tuple") [Value.ref _]) _ _ _); k_dflt (refine' kde_tupleOf (zs := _) ?zq_k1 ?zq_k2 ?zq_k3 ?zq_k4 ?zq_k5 ?_; (case zq_k1 => k_asm); (case zq_k2 => k_asm); (case zq_k3 => exact News.isList (by k_asm) (by k_mem)); (case zq_k5 => first | exact List.toList_toArray | exact List.toList_toArray _ | exact Array.toList_toArray _); (case zq_k4 => (simp only [List.size_toArray, List.length_cons]; omega)); k_whole); intro D' h' F' N' l1; (try k_lt l1))))
  (k_with "binaryOp Add ref ref" => ((k_here; (with_reducible show wpAny _ _ (binaryOp _ (Value.ref _) (Value.ref _)) _ _ _); k_dflt (refine' addL ?zq_k1 ?zq_k2 ?zq_k3 ?zq_k4 ?zq_k5 ?_; (case zq_k1 => k_asm); (case zq_k2 => k_asm); (case zq_k3 => k_mem); (case zq_k4 => k_mem); (case zq_k5 => ((try simp only [List.length_cons, List.length_nil]); omega)); k_whole); intro D' h' F' N' l1; (try k_lt l1); (try simp only [List.cons_append, List.nil_append] at N'))))
  (k_with "eval ListComp" => ((k_here; k_dflt (refine LCg.ListComp_U (F₀ := by k_asm) (by with_unfolding_all rfl) (by decide) (by rfl) (by decide) (by rfl) ?_))))
  (k_with "CompSrc" => ((k_here; k_dflt (refine' LCg.CompSrc.ledger ?zq_kh ?zq_kF ?zq_kN ?zq_km ?zq_ks ?_; (case zq_kh => rfl); (case zq_kF => k_asm); (case zq_kN => k_asm); (case zq_km => k_mem); (case zq_ks => (rw [List.size_toArray, sizeLine_eq]; omega)); intro g'; (refine' kinds_rest (R := fun _ => True) ?zq_kA ?zq_kG ?zq_kR ?zq_kn ?zq_k1 ?zq_kP (fun v' dv' dk' I' oI' C' oC' D' m' ys' add' h' tk' E' hv' hG' hR' hC' hx' F' N' off' ne' => ?_) ?_; (case zq_kA => assumption); (case zq_kG => assumption); (case zq_kR => exact fun _ _ => trivial); (case zq_kn => rfl); (case zq_k1 => first | assumption | exact Nat.le_of_ble_eq_true rfl | omega); (case zq_kP => intro i v h; simpa using h)); kcf_last))))
  (k_with "CompEnd" => ((k_dflt (refine' turn_end ?zq_F ?zq_N ?zq_off ?zq_ho ?zq_hS ?zq_r; (case zq_off => assumption); (case zq_F => k_asm); (case zq_N => k_asm); (case zq_ho => assumption); (case zq_hS => exact Or.inr ⟨_, by k_mem, rfl, _, rfl⟩); (case zq_r => exact ⟨_, rfl, fun p hp => far_sub ((by assumption : ∀ q ∈ _, Far q.1 _) p hp) (fun q hq => .tail _ (.tail _ (.tail _ hq))), by assumption⟩)))))
  (k_with "call ref" => (((with_reducible show wpAny _ _ (call (Value.ref 236) _) _ _ _); k_here; k_dflt (refine' kindOf ?zq_kB ?zq_kF ?zq_kX ?zq_kN ?zq_kT ?zq_kK ?zq_kfx ?zq_kH ?zq_kTl ?zq_kTs ?zq_kl ?zq_kv ?zq_kG ?zq_kd ?zq_ku ?_; (case zq_kB => k_asm); (case zq_kF => k_asm); (case zq_kX => k_asm); (case zq_kN => k_asm); (case zq_kT => k_asm); (case zq_kK => first | exact rfl | assumption); (case zq_kH => assumption); (case zq_kTl => k_mem); (case zq_kTs => assumption); (case zq_kl => assumption); (case zq_kv => assumption); (case zq_kG => assumption); (case zq_kfx => (intro p hp; (first | kcf_m | (have hp9 := (by assumption : ∀ q ∈ _, q ∈ _) p hp; kcf_m)))); (case zq_kd => ktr_room); (case zq_ku => first | decide | ktr_units); k_whole; intro r' add' h' tk' F' N' ho' hD'; (try dsimp only); (try k_sweep)))))
  (k_with "tb_rel" => (first | exact far_sub (far_of (by assumption)) (by intro q hq; kcf_m) | fail "far"))
  (k_with "ktn_ord" => ((intro p hp; first | exact far_sub ((by assumption : ∀ q ∈ _, Far q.1 _) p hp) (by intro q hq; kcf_m) | (rcases List.mem_append.mp hp with hp | hp <;> exact far_sub ((by assumption : ∀ q ∈ _, Far q.1 _) p hp) (by intro q hq; kcf_m)))))
  have ret2 : ∀ {r add all h' tk'}, News h₀ L h' all → New0 news add all → DatIn (E0 :: (fix ++ add)) r (.tuple [S "tuple", .tuple (dk :: dks), .none]) → Fr h₀ L h' m → Q r { s with heap := h', toks := tk' } := by
    intro r add all h' tk' c1 c2 c3 c4
    exact ret _ _ _ _ c4 (fun p hp => c1 p (c2.sub.1 p hp)) c2.sub.2 c3
  revert X; k_fill; intro X
  refine wpAny_call ?_
  k_dflt tb_start
  k_steps
  (rename News _ _ _ _ => kN9)
  (try simp only [List.append_assoc] at kN9)
  refine' ret2 kN9 ?n ?d (by assumption)
  case n => repeat' (first | exact New0.nil | exact New0.app (by ktn_ord) | refine' New0.cons (by tb_rel) ?_)
  case d => exact DatIn.tuple (by k_mem) (.cons (.str _ _) (.cons (.tuple (by k_mem) (.cons (dat_ext1 (by assumption) (by intro p hp; kcf_m)) (dat_ext (by assumption) (by intro p hp; kcf_m)))) (.cons .none .nil)))
end
section
open PySem.Calls
/-- a Method with these names and this rest -/
inductive MethAt (l : List (Addr × Obj)) (x nm : Addr) (b : Bool) : Prop
  | mk (d : Addr) (n : Nat) (h1 : Int) (t1 : Tok) (v1 : Value) (h2 : Int) (t2 : Tok) (v2 : Value) (h3 : Int) (t3 : Tok) (v3 : Value) (h4 : Int) (t4 : Tok) (h5 : Int) (t5 : Tok) (h6 : Int) (t6 : Tok) (v6 : Value) (h7 : Int) (t7 : Tok) (v7 : Value) (h8 : Int) (t8 : Tok) (v8 : Value) (h9 : Int) (t9 : Tok) (v9 : Value) (a1 : (x, instObj 308 d) ∈ l) (a2 : (d, dictOf [⟨h1, .str (Str.ofString "number") t1, v1⟩, ⟨h2, .str (Str.ofString "table") t2, v2⟩, ⟨h3, .str (Str.ofString "sig") t3, v3⟩, ⟨h4, .str (Str.ofString "names") t4, .ref nm⟩, ⟨h5, .str (Str.ofString "has_rest") t5, .bool b⟩, ⟨h6, .str (Str.ofString "code") t6, v6⟩, ⟨h7, .str (Str.ofString "tree") t7, v7⟩, ⟨h8, .str (Str.ofString "world_from") t8, v8⟩, ⟨h9, .str (Str.ofString "world_to") t9, v9⟩] n) ∈ l)
inductive One (w : World) (l : List (Addr × Obj)) (many : Nat) (r : Addr) : Prop
  | mk (t : Tok) (n : Nat) (x st nm : Addr) (b : Bool) (names : List Value) (nn : Nat) (tn : Addr) (ts : Tok) (ni : Nat) (i : Int) (ti tk : Tok) (o : Obj) (a1 : (r, ({ cls := .type "tuple", data := .seq #[.str (Str.ofString "one") t, .ref x, .ref st] n } : Obj)) ∈ l) (a2 : MethAt l x nm b) (a3 : (nm, ({ cls := .type "tuple", data := .seq names.toArray nn } : Obj)) ∈ l) (a4 : (b = false → names.length = many)) (a5 : (b = true → 1 ≤ names.length ∧ names.length ≤ many + 1)) (a6 : (st, o) ∈ l) (a7 : (st == sysModules) = false) (a8 : Obj.IsDictOf (PySem.strKind PySem.Challenge.rw_pc0201_01.row.prog w) o (strPairs [(.str (Str.ofString "T.2") ts, .ref tn)])) (a9 : (tn, ({ cls := .type "tuple", data := .seq #[.str (Str.ofString "n") tk, .int i ti] ni } : Obj)) ∈ l)
def Ans (w : World) (l : List (Addr × Obj)) (many : Nat) (r : Addr) : Prop :=
  (∃ t n, (r, ({ cls := .type "tuple", data := .seq #[.str (Str.ofString "none") t] n } : Obj)) ∈ l) ∨
  (∃ t n v, (r, ({ cls := .type "tuple", data := .seq #[.str (Str.ofString "many") t, v] n } : Obj)) ∈ l) ∨ One w l many r
/-- what was made on top of a ledger, and the list of the source apart -/
inductive New1 (src : Addr) (oS : Obj) (rest : List (Addr × Obj)) : List (Addr × Obj) → List (Addr × Obj) → Prop
  | nil : New1 src oS rest [] rest
  | src {o add all} : New1 src oS rest add all → New1 src oS rest add ((src, o) :: all)
  | cons {x o add all} : (@Ne Nat x src) → Far x rest → New1 src oS rest add all → New1 src oS rest ((x, o) :: add) ((x, o) :: all)
theorem New1.sub {src : Addr} {oS : Obj} {rest : List (Addr × Obj)} : ∀ {add all : List (Addr × Obj)}, New1 src oS rest add all → (∀ p ∈ rest ++ add, p ∈ all) ∧ ∀ p ∈ add, (@Ne Nat p.1 src) ∧ Far p.1 rest
  | _, _, .nil => ⟨fun p h => by simpa using h, fun _ h => (nomatch h)⟩
  | _, _, .src r => ⟨fun p h => .tail _ (r.sub.1 p h), r.sub.2⟩
  | _, _, .cons h0 h r => by
    obtain ⟨a, c⟩ := r.sub
    refine ⟨fun p hp => ?_, fun p hp => ?_⟩
    · rcases List.mem_append.mp hp with hp | hp
      · exact .tail _ (a _ (List.mem_append_left _ hp))
      · rcases List.mem_cons.mp hp with rfl | hp
        · exact .head _
        · exact .tail _ (a _ (List.mem_append_right _ hp))
    · rcases List.mem_cons.mp hp with rfl | hp
      · exact ⟨h0, h⟩
      · exact c p hp
end
section
theorem heapIn2 {hx tl dx : Addr} {hsh : Int} {tok : Tok} {n : Nat} : HeapIn [(hx, instObj 213 dx), (dx, dictOf [⟨hsh, .str (Str.ofString "things") tok, .ref tl⟩] n)] hx tl := ⟨_, _, _, _, .head _, .tail _ (.head _)⟩
theorem all2 {a b : Addr × Obj} {l : List (Addr × Obj)} (h1 : a ∈ l) (h2 : b ∈ l) : ∀ p ∈ [a, b], p ∈ l := fun p hp => by
  rcases List.mem_cons.mp hp with rfl | hp
  · exact h1
  · rw [List.mem_singleton.mp hp]; exact h2
theorem offNil {d : Addr} : ∀ p ∈ ([] : List (Addr × Obj)), p.1 ≠ d := fun _ h => (nomatch h)
theorem offCons {d a : Addr} {o : Obj} {r : List (Addr × Obj)} (h : a ≠ d) (t : ∀ p ∈ r, p.1 ≠ d) : ∀ p ∈ (a, o) :: r, p.1 ≠ d := fun p hp => by
  rcases List.mem_cons.mp hp with rfl | hp
  · exact h
  · exact t p hp
theorem callee0 {w : World} {p : Program} {loose : List Str} {mean : ExcName → Option Value} {mg mb : Str → Option Value} {dp un : Nat} {gd : Option (List Code)} {cn : Str} {cs : Scope} {aa : Addr} {ccd : Value} {cl : List (Str × Addr)} {outer : List Env} {A₀ : Around} {base h₀ : Heap} {L : Addr} {m : Str → Option Value}
    {rest news0 l1 : List (Addr × Obj)} {s : Shared} {src tl hx dx : Addr} {hsh : Int} {tok : Tok} {nd : Nat} {oS : Obj} {nt : Nat} {Q E : Value → Shared → Prop}
    (B : Below A₀ base outer h₀) (F : Fr h₀ L s.heap m) (X : (hd.heap_1_39 w.params).In h₀) (N0 : News h₀ L s.heap news0) (D1 : Del src oS news0 l1) (D2 : Del tl (W.listOf ([] : List Value).toArray nt) l1 rest) (T : Top p loose mean mg mb h₀) (hk : cs.kind = .function)
    (hS : Src oS) (p1 : (hx, instObj 213 dx) ∈ news0) (p2 : (dx, dictOf [⟨hsh, .str (Str.ofString "things") tok, .ref tl⟩] nd) ∈ news0) (r1 : (hx, instObj 213 dx) ∈ rest) (r2 : (dx, dictOf [⟨hsh, .str (Str.ofString "things") tok, .ref tl⟩] nd) ∈ rest) (hdp : dp < 500) (hun : un < 2000)
    (ret : ∀ r oS' ts' nt' e add vv kv dv dk nr h' tk' x tx, Src oS' → ThingAll ([(hx, instObj 213 dx), (dx, dictOf [⟨hsh, .str (Str.ofString "things") tok, .ref tl⟩] nd)] ++ add) ts' e → e.length ≤ 1 → (∀ k ∈ e, okD 5 k = true) → Good e dv dk → TName dk x → okD 5 dv = true → okD 5 dk = true →
      (r, ({ cls := .type "tuple", data := .seq [vv, kv, .str x tx].toArray nr } : Obj)) ∈ add → DatIn add vv dv → DatIn add kv dk → (∀ p ∈ add, AllLt p.1 ((src, oS') :: (tl, W.listOf ts'.toArray nt') :: rest)) →
      Fr h₀ L h' m → News h₀ L h' ((src, oS') :: (tl, W.listOf ts'.toArray nt') :: (rest ++ add)) → Q (.ref r) { s with heap := h', toks := tk' }) :
    wpAny (model PySem.Challenge.rw_pc0201_01.row.prog w) (ktrTop dp un gd cn cs L aa ccd cl outer) (call (.ref 333) [.ref src, .ref hx]) Q E s :=
  callee (fix := [(hx, instObj 213 dx), (dx, dictOf [⟨hsh, .str (Str.ofString "things") tok, .ref tl⟩] nd)]) (ts := []) (ks := []) B F X N0 D1 D2 T hk hS (all2 r1 r2) heapIn2 .nil (Nat.le_of_ble_eq_true rfl) hdp hun fun r oS' ts' nt' e add vv kv dv dk nr h' tk' x tx a1 a2 a3 a4 a5 => ret r oS' ts' nt' e add vv kv dv dk nr h' tk' x tx a1 a2 a3 a4 a5
end
section
open LCg
/-- pairs of a value and its kind -/
inductive RowAll (l : List (Addr × Obj)) : List Value → List Value → List Value → Prop
  | nil : RowAll l [] [] []
  | cons {r nr vv kv ys vs ks} : (r, ({ cls := .type "tuple", data := .seq [vv, kv].toArray nr } : Obj)) ∈ l → RowAll l ys vs ks → RowAll l (.ref r :: ys) (vv :: vs) (kv :: ks)
theorem RowAll.up {l l' : List (Addr × Obj)} (hs : ∀ p ∈ l, p ∈ l') {ys vs ks : List Value} (h : RowAll l ys vs ks) : RowAll l' ys vs ks := by
  induction h with
  | nil => exact .nil
  | cons a _ ih => exact .cons (hs _ a) ih
theorem RowAll.snoc {l : List (Addr × Obj)} {ys vs ks : List Value} {r : Addr} {nr : Nat} {vv kv : Value} (h : RowAll l ys vs ks) (a : (r, ({ cls := .type "tuple", data := .seq [vv, kv].toArray nr } : Obj)) ∈ l) : RowAll l (ys ++ [.ref r]) (vs ++ [vv]) (ks ++ [kv]) := by
  induction h with
  | nil => exact .cons a .nil
  | cons b _ ih => exact .cons b ih
theorem RowAll.at {l : List (Addr × Obj)} : ∀ {ys vs ks : List Value}, RowAll l ys vs ks → ∀ {i : Nat} {y : Value}, ys[i]? = some y → ∃ r nr vv kv, y = .ref r ∧ vs[i]? = some vv ∧ ks[i]? = some kv ∧ (r, ({ cls := .type "tuple", data := .seq [vv, kv].toArray nr } : Obj)) ∈ l
  | _, _, _, .nil, i, y, h => by simp at h
  | _, _, _, .cons a r, i, y, h => by
    cases i with
    | zero => simp only [List.getElem?_cons_zero, Option.some.injEq] at h; subst h; exact ⟨_, _, _, _, rfl, rfl, rfl, a⟩
    | succ i => simp only [List.getElem?_cons_succ] at h ⊢; exact RowAll.at r h
theorem RowAll.len {l : List (Addr × Obj)} {ys vs ks : List Value} (h : RowAll l ys vs ks) : vs.length = ys.length ∧ ks.length = ys.length := by
  induction h with
  | nil => exact ⟨rfl, rfl⟩
  | cons _ _ ih => exact ⟨by rw [List.length_cons, List.length_cons, ih.1], by rw [List.length_cons, List.length_cons, ih.2]⟩
theorem GoodAll.mono {ks e ds es : List Dat} (h : GoodAll ks ds es) : GoodAll (ks ++ e) ds es := by
  induction h with
  | nil => exact .nil
  | cons a _ ih => exact .cons a.mono ih
theorem GoodAll.snoc {ks ds es : List Dat} {d k : Dat} (h : GoodAll ks ds es) (a : Good ks d k) : GoodAll ks (ds ++ [d]) (es ++ [k]) := by
  induction h with
  | nil => exact .cons a .nil
  | cons b _ ih => exact .cons b ih
/-- the state between two rows -/
inductive RowSt (src tl : Addr) (rest fix : List (Addr × Obj)) (ks : List Dat) (i : Nat) (ys : List Value) (nw : List (Addr × Obj)) : Prop
  | mk (oS : Obj) (ts : List Value) (nt : Nat) (es : List Dat) (add : List (Addr × Obj)) (vvs kvs : List Value) (dvs dks : List Dat) (a1 : nw = (src, oS) :: (tl, W.listOf (List.toArray ts) nt) :: (rest ++ add)) (a2 : Src oS) (a3 : ThingAll (fix ++ add) ts (ks ++ es)) (a4 : es.length ≤ i) (a5 : ys.length = i) (a6 : (∀ k ∈ es, okD 5 k = true)) (a7 : (∀ p ∈ add, (@Ne Nat p.1 src) ∧ (@Ne Nat p.1 tl) ∧ Far p.1 rest)) (a8 : RowAll add ys vvs kvs) (a9 : DatAll add vvs dvs) (a10 : DatAll add kvs dks) (a11 : GoodAll (ks ++ es) dvs dks) (a12 : (∀ d ∈ dvs, okD 5 d = true)) (a13 : (∀ d ∈ dks, okD 5 d = true))
theorem rows_start {src tl : Addr} {rest fix : List (Addr × Obj)} {ks : List Dat} {oS : Obj} {ts : List Value} {nt : Nat} (hS : Src oS) (hT : ThingAll fix ts ks) : RowSt src tl rest fix ks 0 [] ((src, oS) :: (tl, W.listOf ts.toArray nt) :: rest) :=
  ⟨oS, ts, nt, [], [], [], [], [], [], by rw [List.append_nil], hS, by rw [List.append_nil, List.append_nil]; exact hT, Nat.le_refl _, rfl, (fun _ h => nomatch h), (fun _ h => nomatch h), .nil, .nil, .nil, .nil, (fun _ h => nomatch h), (fun _ h => nomatch h)⟩
theorem rows_call {w : World} {p : Program} {loose : List Str} {mean : ExcName → Option Value} {mg mb : Str → Option Value} {dp un : Nat} {gd : Option (List Code)} {cn : Str} {cs : Scope} {aa : Addr} {ccd : Value} {cl : List (Str × Addr)} {outer : List Env} {A₀ : Around} {base h₀ : Heap} {L : Addr} {m : Str → Option Value}
    {rest fix nw : List (Addr × Obj)} {s s₁ : Shared} {src tl hx I C D : Addr} {oI oC : Obj} {ks : List Dat} {i : Nat} {ys : List Value} {E : Value → Shared → Prop} {R : Value → List (Addr × Obj) → Prop}
    (B : Below A₀ base outer h₀) (F : Fr h₀ L s.heap m) (X : (hd.heap_1_39 w.params).In h₀) (N : News h₀ L s.heap ((I, oI) :: (C, oC) :: (D, lst ys) :: nw)) (T : Top p loose mean mg mb h₀) (hk : cs.kind = .function)
    (off : Off3 I C D nw) (ne : (@Ne Nat I C) ∧ (@Ne Nat I D) ∧ (@Ne Nat C D)) (St : RowSt src tl rest fix ks i ys nw) (d1 : (@Ne Nat src tl)) (d2 : Far src rest) (d3 : Far tl rest)
    (hfx : ∀ p ∈ fix, p ∈ rest) (hH : HeapIn fix hx tl) (hlen : ks.length + i < 100) (hdp : dp < 500) (hun : un < 2000) (es : ∃ h tk, s = { s₁ with heap := h, toks := tk }) (hR : ∀ y nw', RowSt src tl rest fix ks (i + 1) (ys ++ [y]) nw' → R y nw') :
    wpAny (model PySem.Challenge.rw_pc0201_01.row.prog w) (ktrTop dp un gd cn cs L aa ccd cl outer) (call (.ref 340) [.ref src, .ref hx])
      (CompEnd h₀ L m s₁ I oI C oC D (lst ys) (fun _ => True) R) E s := by
  obtain ⟨oS, ts, nt, es', add, vvs, kvs, dvs, dks, rfl, hS, hT, hes, hys, hok, hfar, hrow, hdv, hdk, hg, hov, hod⟩ := St
  obtain ⟨h0, tk0, rfl⟩ := es
  have o3 := off.mem
  have far3 : ∀ x : Addr, (@Ne Nat I x) → (@Ne Nat C x) → (@Ne Nat D x) → ∀ {l : List (Addr × Obj)}, (∀ p ∈ l, p.1 ≠ x) → ∀ p ∈ (I, oI) :: (C, oC) :: (D, lst ys) :: l, p.1 ≠ x := fun x a b c l h => offCons a (offCons b (offCons c h))
  have srcI := o3 _ (.head _)
  have tlI := o3 _ (.tail _ (.head _))
  have fs : ∀ p ∈ rest ++ add, p.1 ≠ src := fun p hp => by
    rcases List.mem_append.mp hp with hp | hp
    · exact d2 p hp
    · exact (hfar p hp).1
  have ft : ∀ p ∈ rest ++ add, p.1 ≠ tl := fun p hp => by
    rcases List.mem_append.mp hp with hp | hp
    · exact d3 p hp
    · exact (hfar p hp).2.1
  have D1 : Del src oS ((I, oI) :: (C, oC) :: (D, lst ys) :: (src, oS) :: (tl, W.listOf ts.toArray nt) :: (rest ++ add)) ((I, oI) :: (C, oC) :: (D, lst ys) :: (tl, W.listOf ts.toArray nt) :: (rest ++ add)) :=
    .tail (Ne.symm srcI.1) (.tail (Ne.symm srcI.2.1) (.tail (Ne.symm srcI.2.2) (.head (offCons (Ne.symm d1) fs))))
  have D2 : Del tl (W.listOf ts.toArray nt) ((I, oI) :: (C, oC) :: (D, lst ys) :: (tl, W.listOf ts.toArray nt) :: (rest ++ add)) ((I, oI) :: (C, oC) :: (D, lst ys) :: (rest ++ add)) :=
    .tail (Ne.symm tlI.1) (.tail (Ne.symm tlI.2.1) (.tail (Ne.symm tlI.2.2) (.head ft)))
  have fsub : ∀ p ∈ fix ++ add, p ∈ (I, oI) :: (C, oC) :: (D, lst ys) :: (rest ++ add) := fun p hp => .tail _ (.tail _ (.tail _ (by
    rcases List.mem_append.mp hp with hp | hp
    · exact List.mem_append_left _ (hfx p hp)
    · exact List.mem_append_right _ hp)))
  refine value B F X N D1 D2 T hk hS fsub (hH.up fun p hp => List.mem_append_left _ hp) hT (by rw [List.length_append]; omega) hdp hun ?_
  intro r oS' ts' nt' e add' vv kv dv dk nr h' tk' hS' hT' he hek hG hokv hokk hmr hDv hDk hlt F' N'
  have flt : ∀ p ∈ add', Far p.1 ((src, oS') :: (tl, W.listOf ts'.toArray nt') :: (I, oI) :: (C, oC) :: (D, lst ys) :: (rest ++ add)) := fun p hp => far_lt (hlt p hp)
  refine CompEnd.intro (s₁ := s₁) F' N' ((src, oS') :: (tl, W.listOf ts'.toArray nt') :: (rest ++ (add ++ add'))) (fun p hp => ?_) (Off3.of fun p hp => ?_) trivial (hR _ _ ⟨oS', ts', nt', es' ++ e, add ++ add', vvs ++ [vv], kvs ++ [kv], dvs ++ [dv], dks ++ [dk], rfl, hS', ?_, ?_, ?_, ?_, ?_, ?_, ?_, ?_, ?_, ?_, ?_⟩)
  · simp only [List.mem_cons, List.mem_append] at hp ⊢
    rcases hp with h | h | h | h | h | h | h | h <;> simp [h]
  · rcases List.mem_cons.mp hp with rfl | hp
    · exact srcI
    · rcases List.mem_cons.mp hp with rfl | hp
      · exact tlI
      · rw [← List.append_assoc] at hp
        rcases List.mem_append.mp hp with hp | hp
        · exact o3 p (.tail _ (.tail _ hp))
        · have q := flt p hp
          exact ⟨Ne.symm (q _ (.tail _ (.tail _ (.head _)))), Ne.symm (q _ (.tail _ (.tail _ (.tail _ (.head _))))), Ne.symm (q _ (.tail _ (.tail _ (.tail _ (.tail _ (.head _))))))⟩
  · rw [← List.append_assoc, ← List.append_assoc]; exact hT'
  · rw [List.length_append]; omega
  · rw [List.length_append, List.length_singleton, hys]
  · intro k hk
    rcases List.mem_append.mp hk with hk | hk
    · exact hok k hk
    · exact hek k hk
  · intro p hp
    rcases List.mem_append.mp hp with hp | hp
    · exact hfar p hp
    · have q := flt p hp
      exact ⟨Ne.symm (q _ (.head _)), Ne.symm (q _ (.tail _ (.head _))), far_sub q fun z hz => .tail _ (.tail _ (.tail _ (.tail _ (.tail _ (List.mem_append_left _ hz)))))⟩
  · exact (hrow.up fun p hp => List.mem_append_left _ hp).snoc (List.mem_append_right _ hmr)
  · exact (hdv.mono fun p hp => List.mem_append_left _ hp).append (DatAll.one (hDv.mono fun p hp => List.mem_append_right _ hp))
  · exact (hdk.mono fun p hp => List.mem_append_left _ hp).append (DatAll.one (hDk.mono fun p hp => List.mem_append_right _ hp))
  · rw [← List.append_assoc]
    exact hg.mono.snoc hG
  · intro d hd
    rcases List.mem_append.mp hd with hd | hd
    · exact hov d hd
    · rw [List.mem_singleton.mp hd]; exact hokv
  · intro d hd
    rcases List.mem_append.mp hd with hd | hd
    · exact hod d hd
    · rw [List.mem_singleton.mp hd]; exact hokk
theorem heapIn2a {hx tl dx : Addr} {hsh : Int} {tok : Tok} {n : Nat} {add : List (Addr × Obj)} {ts : List Value} {ks : List Dat} (h : ThingAll ([(hx, instObj 213 dx), (dx, dictOf [⟨hsh, .str (Str.ofString "things") tok, .ref tl⟩] n)] ++ add) ts ks) :
    HeapIn ([(hx, instObj 213 dx), (dx, dictOf [⟨hsh, .str (Str.ofString "things") tok, .ref tl⟩] n)] ++ add) hx tl := heapIn2.up fun p hp => List.mem_append_left _ hp
theorem rng_size {v : Int} (h0 : 0 ≤ v) : Builtin.Range.rangeSize 0 v 1 = ((v.toNat : Nat) : Int) := by
  unfold Builtin.Range.rangeSize
  rw [if_pos (by decide)]
  split <;> omega
theorem row_phase {src tl hx : Addr} {rest fix : List (Addr × Obj)} {ks : List Dat} {oS oT : Obj} {ts : List Value} {G : Prop} (hS : Src oS) (hT : ThingAll fix ts ks) (hH : HeapIn fix hx tl) (hoff : ∀ p ∈ (tl, oT) :: rest, p.1 ≠ src)
    (hfx : ∀ p ∈ fix, p ∈ rest) (d3 : ∀ p ∈ rest, p.1 ≠ tl) (go : (@Ne Nat src tl) → Far src rest → Far tl rest → (∀ p ∈ fix, p ∈ rest) → G) : G :=
  go (Ne.symm (hoff _ (.head _))) (fun p hp => hoff p (.tail _ hp)) d3 hfx
theorem offAbs {d : Addr} {o : Obj} {L add : List (Addr × Obj)} (h : ∀ p ∈ add, AllLt p.1 L) (hm : (d, o) ∈ L) : ∀ p ∈ add, p.1 ≠ d := fun p hp => Nat.ne_of_gt (ktn_ltOf (h p hp) _ hm)
end
section
open LCg
theorem col0_rest {prog : Program} {w : World} {A : Around} {h₀ : Heap} {L : Addr} {m : Str → Option Value} {env : Env} {elt : PySem.Expr} {x : Str} {scope : Scope} {cl : List (Str × Addr)} {s : Shared} {S : List (Addr × Obj) → Prop} {P : Nat → Value → Prop} {Fin : List Value → List (Addr × Obj) → Prop} {n : Nat}
    {rs vvs kvs : List Value} {l news : List (Addr × Obj)} (hR : RowAll l rs vvs kvs) (hl : ∀ p ∈ l, p ∈ news) (hn : n = rs.length) (hP : ∀ i v, P i v → rs[i]? = some v)
    (turn : ∀ r nr vv kv I oI C oC D m₂ ys h tk (E' : Value → Shared → Prop), (r, ({ cls := .type "tuple", data := .seq [vv, kv].toArray nr } : Obj)) ∈ news → NsObj oC m₂ → m₂ x = some (.ref r) → Fr h₀ L h m → News h₀ L h ((I, oI) :: (C, oC) :: (D, lst ys) :: news) → Off3 I C D news → ((@Ne Nat I C) ∧ (@Ne Nat I D) ∧ (@Ne Nat C D)) →
      wpAny (model prog w) A (eval elt (compEnvC scope cl C env)) (CompEnd h₀ L m { s with heap := h, toks := tk } I oI C oC D (lst ys) S (fun y news' => news' = news ∧ y = vv)) E' { s with heap := h, toks := tk })
    (fin : Fin vvs news) : CompRest prog w A h₀ L m env elt x scope cl s S P Fin n 0 [] news := by
  have hlen := hR.len
  refine comp_inv (fun i ys nw => nw = news ∧ ys = vvs.take i) ?_ ?_ ⟨rfl, rfl⟩
  · rintro i ys _ v I oI C oC D m₂ h tk E' hi hPv ⟨rfl, rfl⟩ hC hx F N off ne
    obtain ⟨r, nr, vv, kv, rfl, h1, h2, h3⟩ := hR.at (hP _ _ hPv)
    refine wpAny_mono (turn r nr vv kv I oI C oC D m₂ _ h tk E' (hl _ h3) hC hx F N off ne) (fun y s₂ hq => ?_) fun _ _ e => e
    obtain ⟨h', tk', nw', e, F', N', off', hS, rfl, rfl⟩ := hq
    exact ⟨h', tk', _, e, F', N', off', hS, rfl, by rw [List.take_add_one, h1]; rfl⟩
  · rintro ys _ ⟨rfl, rfl⟩
    rw [hn, ← hlen.1, List.take_length]; exact fin
theorem col1_rest {prog : Program} {w : World} {A : Around} {h₀ : Heap} {L : Addr} {m : Str → Option Value} {env : Env} {elt : PySem.Expr} {x : Str} {scope : Scope} {cl : List (Str × Addr)} {s : Shared} {S : List (Addr × Obj) → Prop} {P : Nat → Value → Prop} {Fin : List Value → List (Addr × Obj) → Prop} {n : Nat}
    {rs vvs kvs : List Value} {l news : List (Addr × Obj)} (hR : RowAll l rs vvs kvs) (hl : ∀ p ∈ l, p ∈ news) (hn : n = rs.length) (hP : ∀ i v, P i v → rs[i]? = some v)
    (turn : ∀ r nr vv kv I oI C oC D m₂ ys h tk (E' : Value → Shared → Prop), (r, ({ cls := .type "tuple", data := .seq [vv, kv].toArray nr } : Obj)) ∈ news → NsObj oC m₂ → m₂ x = some (.ref r) → Fr h₀ L h m → News h₀ L h ((I, oI) :: (C, oC) :: (D, lst ys) :: news) → Off3 I C D news → ((@Ne Nat I C) ∧ (@Ne Nat I D) ∧ (@Ne Nat C D)) →
      wpAny (model prog w) A (eval elt (compEnvC scope cl C env)) (CompEnd h₀ L m { s with heap := h, toks := tk } I oI C oC D (lst ys) S (fun y news' => news' = news ∧ y = kv)) E' { s with heap := h, toks := tk })
    (fin : Fin kvs news) : CompRest prog w A h₀ L m env elt x scope cl s S P Fin n 0 [] news := by
  have hlen := hR.len
  refine comp_inv (fun i ys nw => nw = news ∧ ys = kvs.take i) ?_ ?_ ⟨rfl, rfl⟩
  · rintro i ys _ v I oI C oC D m₂ h tk E' hi hPv ⟨rfl, rfl⟩ hC hx F N off ne
    obtain ⟨r, nr, vv, kv, rfl, h1, h2, h3⟩ := hR.at (hP _ _ hPv)
    refine wpAny_mono (turn r nr vv kv I oI C oC D m₂ _ h tk E' (hl _ h3) hC hx F N off ne) (fun y s₂ hq => ?_) fun _ _ e => e
    obtain ⟨h', tk', nw', e, F', N', off', hS, rfl, rfl⟩ := hq
    exact ⟨h', tk', _, e, F', N', off', hS, rfl, by rw [List.take_add_one, h2]; rfl⟩
  · rintro ys _ ⟨rfl, rfl⟩
    rw [hn, ← hlen.2, List.take_length]; exact fin
theorem offAbs3 {d : Addr} {o : Obj} {src tl : Addr} {rest add : List (Addr × Obj)} (h : ∀ p ∈ add, (@Ne Nat p.1 src) ∧ (@Ne Nat p.1 tl) ∧ Far p.1 rest) (hm : (d, o) ∈ (src, o) :: (tl, o) :: rest) : ∀ p ∈ add, p.1 ≠ d := fun p hp => by
  obtain ⟨a, b, c⟩ := h p hp
  rcases List.mem_cons.mp hm with e | hm
  · injection e with e1 _; rw [e1]; exact a
  · rcases List.mem_cons.mp hm with e | hm
    · injection e with e1 _; rw [e1]; exact b
    · exact Ne.symm (c _ hm)
theorem offApp {d : Addr} {l r : List (Addr × Obj)} (h : ∀ p ∈ l, p.1 ≠ d) (t : ∀ p ∈ r, p.1 ≠ d) : ∀ p ∈ l ++ r, p.1 ≠ d := fun p hp => (List.mem_append.mp hp).elim (h p) (t p)
end
section
open PySem.Calls
section
variable {prog : Program} {w : World} {A : Around} {E : Value → Shared → Prop} {s : Shared} {h₀ : Heap} {L : Addr} {m : Str → Option Value} {news : List (Addr × Obj)}
theorem applied_upto {sl : Addr} {b : Int} {n : Nat} {u : Tok} {Q : Int × Int × Nat → Shared → Prop} (hs : s.heap.IsSliceOf sl .none (.int b u) .none) (h0 : 0 ≤ b) (hb : b ≤ n) (h : Q (0, 1, b.toNat) s) :
    wpAny (model prog w) A (Builtin.Slice.sliceApplied (.ref sl) (pure (n : Int))) Q E s := by
  obtain ⟨os, hos, hcs, hds⟩ := id hs
  unfold Builtin.Slice.sliceApplied Builtin.Slice.sliceFields
  refine wpAny_bind (wpAny_bind (wpAny_field hos hds (x := .none) rfl (wpAny_bind (wpAny_field hos hds (x := .int b u) rfl (wpAny_bind (wpAny_field hos hds (x := .none) rfl (wpAny_pure ?_)))))))
  refine wpAny_bind (slicePart_none ?_)
  show wpAny _ _ (if ((1 : Int) == 0) = true then _ else _) _ _ s
  rw [if_neg (by decide)]
  refine wpAny_bind (slicePart_none (wpAny_bind (slicePart_int (wpAny_bind (wpAny_pure ?_)))))
  have e1 : Builtin.Slice.sliceAdjust none (some b) 1 (n : Int) = (0, b) := by
    unfold Builtin.Slice.sliceAdjust
    simp only [show ¬ ((1 : Int) < 0) by decide, show ¬ (b < 0) by omega, if_false]
    exact congrArg _ (Int.min_eq_left hb)
  have e2 : Builtin.Slice.slicePlaces 0 b 1 = b.toNat := by
    unfold Builtin.Slice.slicePlaces
    simp only [show (1 : Int) > 0 by decide, if_true, Int.ediv_one]
    split <;> omega
  show wpAny _ _ (match Builtin.Slice.sliceAdjust none (some b) 1 (n : Int) with | (lo, hi) => pure (lo, (1 : Int), Builtin.Slice.slicePlaces lo hi 1)) _ _ s
  rw [e1]
  show wpAny _ _ (pure ((0 : Int), (1 : Int), Builtin.Slice.slicePlaces 0 b 1)) _ _ s
  rw [e2]
  exact wpAny_pure h
theorem pick_upto (xs : Array Value) (k : Nat) : ((List.range k).filterMap fun (k : Nat) => xs[((0 : Int) + (k : Int) * 1).toNat]?).toArray = (xs.toList.take k).toArray := by
  have e : (fun (k : Nat) => xs[((0 : Int) + (k : Int) * 1).toNat]?) = fun k => xs[0 + k]? := by
    funext k
    rw [show ((0 : Int) + (k : Int) * 1).toNat = 0 + k by omega]
  rw [e]
  have q := pick_run xs 0 k
  rw [List.filterMap_map, List.drop_zero] at q
  exact congrArg List.toArray q
theorem getItem_upto {t sl : Addr} {items : Array Value} {b : Int} {u : Tok} {Q : Value → Shared → Prop} (ht : IsTup s.heap t items) (hs : s.heap.IsSliceOf sl .none (.int b u) .none) (h0 : 0 ≤ b) (hb : b ≤ items.size) (hsz : items.size ≤ 1000)
    (h1 : b = items.size → Q (.ref t) s) (h2 : b < items.size → Q (.ref s.heap.objs.size) { s with heap := s.heap.push { cls := .type "tuple", data := .seq (items.toList.take b.toNat).toArray } }) :
    wpAny (model prog w) A (getItem (.ref t) (.ref sl)) Q E s := by
  obtain ⟨os, hos, hcs, hds⟩ := id hs
  have hTs : s.TypeIs (.ref sl) "slice" := ⟨os, hos, hcs⟩
  unfold getItem
  try with_reducible refine wpAny_holding ?_
  first | refine wpAny_bind (wpAny_pure ?_) | skip
  refine wpAny_bind (wpAny_sequenceKey ht.typeIs (by decide) ?_)
  refine wpAny_bind (wpAny_callSpecial?_slot (name := Str.ofString "__getitem__") ht.typeIs slot_tuple_getitem
    (wpAny_call_entry slot_tuple_getitem ht.typeIs entry_tuple_getitem ?_ (args_tuple_getitem _ _)))
  show wpAny _ _ (Builtin.Tuple.tupleItemsOf (.ref t) >>= _) _ _ s
  refine wpAny_bind (tupleItemsOf_ ht (wpAny_bind (wpAny_typeOf hTs ?_)))
  rw [if_pos (by decide)]
  refine wpAny_bind (applied_upto hs h0 hb ?_)
  show wpAny _ _ (if ((0 : Int) == 0 && (1 : Int) == 1 && b.toNat == items.size) = true then _ else _) _ _ s
  by_cases q : b = items.size
  · rw [if_pos (by rw [q]; simp)]
    have hh := h1 q
    obtain ⟨ot, hot, hct, hdt⟩ := id ht
    have hTt : s.TypeIs (.ref t) "tuple" := ⟨ot, hot, hct⟩
    unfold Builtin.Tuple.tupleIsExact
    repeat (any_goals (first | assumption | (with_reducible refine wpAny_typeOf hTt ?_) | wp_step))
    exact ⟨_, rfl, wpAny_pure hh⟩
  · rw [if_neg (by simp; omega), pick_upto]
    have hd : sizeOk (.seq (items.toList.take b.toNat).toArray) := by
      show (items.toList.take b.toNat).toArray.size ≤ sizeLine
      rw [List.size_toArray, List.length_take, Array.length_toList, sizeLine_eq]; omega
    have hh := h2 (by omega)
    first
      | exact wpAny_bind (m := Builtin.Tuple.tupleExact _) (wpAny_newObj_type (wpAny_pure ⟨_, rfl, wpAny_pure hh⟩) hd)
      | exact wpAny_bind (m := Builtin.Tuple.tupleExact _) (wpAny_newObj_type (wpAny_bind (wpAny_pure (wpAny_pure ⟨_, rfl, wpAny_pure hh⟩))) hd)
      | exact wpAny_bind (wpAny_bind (m := Builtin.Tuple.tupleExact _) (wpAny_newObj_type (wpAny_pure (wpAny_pure ⟨_, rfl, wpAny_pure hh⟩)) hd))
      | exact wpAny_bind (wpAny_bind (m := Builtin.Tuple.tupleExact _) (wpAny_newObj_type (wpAny_pure ⟨_, rfl, wpAny_pure hh⟩) hd))
theorem slice_upto {value slice : PySem.Expr} {t : Addr} {items : List Value} {n : Nat} {b : Int} {u : Tok} {Q : Value → Shared → Prop} (F : Fr h₀ L s.heap m) (N : News h₀ L s.heap news) (hm : (t, ({ cls := .type "tuple", data := .seq items.toArray n } : Obj)) ∈ news) (h0 : 0 ≤ b) (hb : b ≤ items.length) (hsz : items.length ≤ 1000)
    (hs : subscripted slice false (.ref t) (.ref s.heap.objs.size) = operate [.ref s.heap.objs.size, .ref t] (getItem (.ref t) (.ref s.heap.objs.size))) (hg : ∀ r, letTemporaryGo value (.ref t) r = pure ())
    (h1 : b = items.length → ∀ h', Fr h₀ L h' m → News h₀ L h' news → Q (.ref t) { s with heap := h' }) (h2 : b < items.length → ∀ r h', Fr h₀ L h' m → News h₀ L h' ((r, ({ cls := .type "tuple", data := .seq (items.take b.toNat).toArray } : Obj)) :: news) → (∀ p ∈ news, p.1 < r) → Q (.ref r) { s with heap := h' }) :
    wpAny (model prog w) A (subscriptTail value slice (.ref t) (.ref s.heap.objs.size)) Q E { s with heap := s.heap.push { cls := .type "slice", data := .fields #[.none, .int b u, .none] } } := by
  have ht := News.isTup N hm
  have ht' : IsTup (s.heap.push { cls := .type "slice", data := .fields #[.none, .int b u, .none] }) t items.toArray := ht.keeps fun _ _ e => Heap.get?_push_of_some _ e
  refine subscriptTail_ops (s := { s with heap := s.heap.push { cls := .type "slice", data := .fields #[.none, .int b u, .none] } }) ht'.typeIs slot_tuple_getitem.lookup
    (getItem_upto ht' (Heap.IsSliceOf.new ..) h0 (by simpa using hb) (by simpa using hsz) (fun e => ?_) (fun e => ?_)) hs hg
  · exact h1 (by simpa using e) _ (F.push _) (N.grown fun _ _ e => Heap.get?_push_of_some _ e)
  · have N1 := News.push (F.push { cls := .type "slice", data := .fields #[.none, .int b u, .none] }) (N.grown fun _ _ e => Heap.get?_push_of_some _ e) { cls := .type "tuple", data := .seq (items.take b.toNat).toArray }
    exact h2 (by simpa using e) _ _ ((F.push _).push _) N1 fun p hp => by
      rw [Heap.size_push]
      exact Nat.lt_succ_of_lt (Heap.lt_size (N p hp).1)
end
end
section
open PySem.Calls
theorem methNew {w : World} {p : Program} {loose : List Str} {mean : ExcName → Option Value} {mg mb : Str → Option Value} {dp un : Nat} {gd : Option (List Code)} {cn : Str} {cs : Scope} {aa : Addr} {ccd : Value} {cl : List (Str × Addr)} {outer : List Env} {A₀ : Around} {base h₀ : Heap} {L : Addr} {m : Str → Option Value}
    {news : List (Addr × Obj)} {s : Shared} {v1 v2 v3 v4 v5 v6 v7 : Value} {Q E : Value → Shared → Prop}
    (B : Below A₀ base outer h₀) (F : Fr h₀ L s.heap m) (X : (hd.heap_1_39 w.params).In h₀) (N : News h₀ L s.heap news) (T : Top p loose mean mg mb h₀) (hk : cs.kind = .function) (hdp : dp < 550) (hun : un < 2500)
    (ret : ∀ x d n h1 t1 h2 t2 h3 t3 h4 t4 h5 t5 h6 t6 h7 t7 h8 t8 h9 t9 t0 h' tk', Fr h₀ L h' m → News h₀ L h' ((x, instObj 308 d) :: (d, dictOf [⟨h1, .str (Str.ofString "number") t1, v1⟩, ⟨h2, .str (Str.ofString "table") t2, v2⟩, ⟨h3, .str (Str.ofString "sig") t3, v3⟩, ⟨h4, .str (Str.ofString "names") t4, v4⟩, ⟨h5, .str (Str.ofString "has_rest") t5, v5⟩, ⟨h6, .str (Str.ofString "code") t6, v6⟩, ⟨h7, .str (Str.ofString "tree") t7, v7⟩, ⟨h8, .str (Str.ofString "world_from") t8, .int 0 t0⟩, ⟨h9, .str (Str.ofString "world_to") t9, .none⟩] n) :: news) → (∀ p ∈ news, p.1 < d) → (@LT.lt Nat _ d x) → Q (.ref x) { s with heap := h', toks := tk' }) :
    wpAny (model PySem.Challenge.rw_pc0201_01.row.prog w) (ktrTop dp un gd cn cs L aa ccd cl outer) (call (.ref 308) [v1, v2, v3, v4, v5, v6, v7]) Q E s := by
  w_top off
  k_with_none
  (k_with "k_all" => (assumption))
  (k_with "k_mem" => (assumption))
  (k_with "size_fits" => (((try simp only [List.size_toArray]); rw [PySem.sizeLine_eq]; omega)))
  (k_with "kqd_in" => (exact DatIn.bool _))
  (k_with "k_room" => (ktr_room))
  (k_with "k_upd" => (first | (refine' Del.head ?zq_a; (case zq_a => k_all)) | (refine' Del.tail ?zq_a ?zq_b; (case zq_a => k_ne); (case zq_b => k_upd))))
  (k_with "call builtin:len" => ((k_here; (with_reducible show wpAny _ _ (call (Value.builtin "len") [Value.ref _]) _ _ _); (with_unfolding_all refine' len_led ?zq_k1 ?zq_k2 ?zq_k3 ?_; (case zq_k1 => k_asm); (case zq_k2 => k_mem); (case zq_k3 => ((try simp only [Array.size_push, List.size_toArray]); omega)); k_whole); (try simp only [Array.size_push, List.size_toArray]))))
  (k_with "subscriptTail" => ((k_here; (with_reducible show wpAny _ _ (subscriptTail _ _ (Value.ref _) (Value.int _ _)) _ _ _); (with_unfolding_all refine' item_led ?zq_k1 ?zq_k2 ?zq_k3 ?zq_k4 ?zq_k5 ?_ ?zq_k6; (case zq_k1 => k_asm); (case zq_k2 => k_mem); (case zq_k3 => omega); (case zq_k4 => omega); (case zq_k5 => assumption); (case zq_k6 => with_unfolding_all rfl); k_whole))))
  (k_with "tb_start" => ((refine' code_defC ?zq_k1 ?zq_k2 ?zq_k3 ?zq_k4 ?zq_k5 ?zq_kA ?zq_kF ?zq_kK ?zq_k6 ?zq_k7 ?zq_k8 ?zq_k9 ?zq_kB ?zq_kD ?_ ?zq_c2 ?zq_c3 ?zq_c4; (case zq_kA => exact rfl); (case zq_kF => exact rfl); (case zq_kK => assumption); (case zq_k1 => k_asm); (case zq_k2 => k_asm); (case zq_k3 => k_asm); (case zq_k4 => k_asm); (case zq_k5 => k_asm); (case zq_k6 => k_is); (case zq_k7 => k_is); (case zq_k8 => ktr_room); (case zq_k9 => exact BindsTo.of_eq rfl); (case zq_kB => exact rfl); (case zq_kD => decide +kernel); (case zq_c2 => exact rfl); (case zq_c3 => exact rfl); (case zq_c4 => exact rfl); k_whole; intro g' L' h' tk' cells' FG' F' N' Y' B' X' T' l1; (try k_lt l1); k_cells Y'; (try simp only [List.cons_append, List.nil_append] at N'); (try dsimp only); (try k_fold))))
  (k_with "call type:tuple" => ((k_here; (with_reducible show wpAny _ _ (call (Value.type "tuple") [Value.ref _]) _ _ _); k_dflt (refine' call_tuple_tup ?zq_t ?_; (case zq_t => exact tupK (by k_in) (by k_is)); k_whole))))
  (k_with "tb_rel" => ((first | exact far_lt (by tbn_lt) | exact far_lt (allLt_up (by tbn_find) (by omega)) | exact far_lt (allLt_up (allLt_of (by assumption)) (by omega)) | exact far_lt (allLt_app (by tbn_find)) | exact far_sub (far_off1 (by assumption)) (by intro p hp; kcf_m))))
  (k_with "k_mem" => (kcf_m))
  (k_with "call type:tuple" => ((k_here; (with_reducible show wpAny _ _ (call (Value.type "tuple") [Value.ref _]) _ _ _); k_dflt (refine' kde_tupleOf (zs := _) ?zq_k1 ?zq_k2 ?zq_k3 ?zq_k4 ?zq_k5 ?_; (case zq_k1 => k_asm); (case zq_k2 => k_asm); (case zq_k3 => exact News.isList (by k_asm) (by k_mem)); (case zq_k5 => first | exact List.toList_toArray | exact List.toList_toArray _ | exact Array.toList_toArray _); (case zq_k4 => (simp only [List.size_toArray, List.length_cons]; omega)); k_whole); intro D' h' F' N' l1; (try k_lt l1))))
  (k_with "binaryOp Add ref ref" => ((k_here; (with_reducible show wpAny _ _ (binaryOp _ (Value.ref _) (Value.ref _)) _ _ _); k_dflt (refine' addL ?zq_k1 ?zq_k2 ?zq_k3 ?zq_k4 ?zq_k5 ?_; (case zq_k1 => k_asm); (case zq_k2 => k_asm); (case zq_k3 => k_mem); (case zq_k4 => k_mem); (case zq_k5 => ((try simp only [List.length_cons, List.length_nil]); omega)); k_whole); intro D' h' F' N' l1; (try k_lt l1); (try simp only [List.cons_append, List.nil_append] at N'))))
  (k_with "tb_rel" => (first | exact far_sub (far_of (by assumption)) (by intro q hq; kcf_m) | fail "far"))
  (k_with "call ref" => (((with_reducible show wpAny _ _ (call (Value.ref 326) _) _ _ _); k_here; k_dflt (refine' digit ?zq_kB ?zq_kF ?zq_kX ?zq_kN ?zq_kT ?zq_kK ?zq_kD ?zq_kS ?zq_km ?zq_km2 ?zq_kd ?zq_ku ?_; (case zq_kB => k_asm); (case zq_kF => k_asm); (case zq_kX => k_asm); (case zq_kN => k_asm); (case zq_kT => k_asm); (case zq_kK => first | exact rfl | assumption); (case zq_kD => k_upd); (case zq_kS => assumption); (case zq_km => omega); (case zq_km2 => omega); (case zq_kd => ktr_room); (case zq_ku => first | decide | ktr_units); k_whole; intro v' t' oS' h' tk' hv0' hv1' hS' F' N' hoff'; (try dsimp only); (try k_sweep)))))
  (k_with "subscriptTail" => ((k_here; (with_reducible show wpAny _ _ (subscriptTail _ _ (Value.ref _) (Value.ref _)) _ _ _); k_dflt (refine' slice_upto ?zq_F ?zq_N ?zq_hm ?zq_h0 ?zq_hb ?zq_hsz ?zq_hs ?zq_hg ?zq_ga ?zq_gb; (case zq_F => k_asm); (case zq_N => k_asm); (case zq_hm => k_mem); (case zq_h0 => omega); (case zq_hb => ((try simp only [List.length_cons, List.length_nil]); omega)); (case zq_hsz => ((try simp only [List.length_cons, List.length_nil]); omega)); (case zq_hs => with_unfolding_all rfl); (case zq_hg => (intro r; rfl)); (case' zq_ga => (k_whole; intro e9 h' F' N')); (case' zq_gb => (k_whole; intro e9 r' h' F' N' l1; (try k_lt l1)))))))
  revert X; k_fill; intro X
  k_here
  k_dflt (refine' call_cls ?k1 ?k2 ?k3 ?k4 ?k5 ?k6 ?_; (case k1 => k_asm); (case k2 => k_asm); (case k3 => k_asm); (case k4 => k_is); (case k5 => k_is); (case k6 => k_is); k_whole; intro x' d' h' F' N' l1 l2; have l1c := l1; have l2c := l2; (try k_lt l1); (try k_lt2 l2))
  k_dflt (refine' code_def ?k1 ?k2 ?k3 ?k4 ?k5 ?kA ?kF ?kK ?k6 ?k7 ?k8 ?k9 ?kB ?_ ?c2 ?c3 ?c4 ?c5; (case kA => exact rfl); (case kF => exact rfl); (case kK => assumption); (case k1 => k_asm); (case k2 => k_asm); (case k3 => k_asm); (case k4 => k_asm); (case k5 => k_asm); (case k6 => k_is); (case k7 => k_is); (case k8 => ktr_room); (case k9 => first | exact BindsTo.of_eq rfl | exact binds_K (by k_in) rfl (by k_is) rfl rfl rfl); (case c5 => decide); (case kB => exact locs rfl); (case c2 => exact rfl); (case c3 => exact rfl); (case c4 => exact rfl); k_whole; intro g' L' h' FG' F' N' B' X' T'; (try dsimp only); (try k_lift B'); (try k_fold))
  k_steps
  (rename News h₀ _ _ _ => kN9)
  exact ret _ _ _ _ _ _ _ _ _ _ _ _ _ _ _ _ _ _ _ _ _ _ _ _ (by assumption) kN9 l1c l2c
end
section
open PySem.Calls
theorem answer {w : World} {p : Program} {loose : List Str} {mean : ExcName → Option Value} {mg mb : Str → Option Value} {dp un : Nat} {gd : Option (List Code)} {cn : Str} {cs : Scope} {aa : Addr} {ccd : Value} {cl : List (Str × Addr)} {outer : List Env} {A₀ : Around} {base h₀ : Heap} {L : Addr} {m : Str → Option Value}
    {news rest : List (Addr × Obj)} {s : Shared} {src : Addr} {oS : Obj} {many : Nat} {tm : Tok} {Q E : Value → Shared → Prop}
    (B : Below A₀ base outer h₀) (F : Fr h₀ L s.heap m) (X : (hd.heap_1_39 w.params).In h₀) (N0 : News h₀ L s.heap news) (D1 : Del src oS news rest) (T : Top p loose mean mg mb h₀) (hk : cs.kind = .function)
    (hS : Src oS) (hm : many ≤ 5) (hdp : dp < 500) (hun : un < 2000)
    (ret : ∀ r oS' add h' tk', Src oS' → Ans w add many r → (∀ p ∈ add, (@Ne Nat p.1 src) ∧ Far p.1 rest) → Fr h₀ L h' m → News h₀ L h' ((src, oS') :: (rest ++ add)) → Q (.ref r) { s with heap := h', toks := tk' }) :
    wpAny (model PySem.Challenge.rw_pc0201_01.row.prog w) (ktrTop dp un gd cn cs L aa ccd cl outer) (call (.ref 347) [.ref src, .int (many : Nat) tm]) Q E s := by
  w_top off
  k_with_none
  (k_with "k_all" => (assumption))
  (k_with "k_mem" => (assumption))
  (k_with "size_fits" => (((try simp only [List.size_toArray]); rw [PySem.sizeLine_eq]; omega)))
  (k_with "kqd_in" => (exact DatIn.bool _))
  (k_with "k_room" => (ktr_room))
  (k_with "k_upd" => (first | (refine' Del.head ?zq_a; (case zq_a => k_all)) | (refine' Del.tail ?zq_a ?zq_b; (case zq_a => k_ne); (case zq_b => k_upd))))
  (k_with "call builtin:len" => ((k_here; (with_reducible show wpAny _ _ (call (Value.builtin "len") [Value.ref _]) _ _ _); (with_unfolding_all refine' len_led ?zq_k1 ?zq_k2 ?zq_k3 ?_; (case zq_k1 => k_asm); (case zq_k2 => k_mem); (case zq_k3 => ((try simp only [Array.size_push, List.size_toArray]); omega)); k_whole); (try simp only [Array.size_push, List.size_toArray]))))
  (k_with "subscriptTail" => ((k_here; (with_reducible show wpAny _ _ (subscriptTail _ _ (Value.ref _) (Value.int _ _)) _ _ _); (with_unfolding_all refine' item_led ?zq_k1 ?zq_k2 ?zq_k3 ?zq_k4 ?zq_k5 ?_ ?zq_k6; (case zq_k1 => k_asm); (case zq_k2 => k_mem); (case zq_k3 => omega); (case zq_k4 => omega); (case zq_k5 => assumption); (case zq_k6 => with_unfolding_all rfl); k_whole))))
  (k_with "tb_start" => ((refine' code_defC ?zq_k1 ?zq_k2 ?zq_k3 ?zq_k4 ?zq_k5 ?zq_kA ?zq_kF ?zq_kK ?zq_k6 ?zq_k7 ?zq_k8 ?zq_k9 ?zq_kB ?zq_kD ?_ ?zq_c2 ?zq_c3 ?zq_c4; (case zq_kA => exact rfl); (case zq_kF => exact rfl); (case zq_kK => assumption); (case zq_k1 => k_asm); (case zq_k2 => k_asm); (case zq_k3 => k_asm); (case zq_k4 => k_asm); (case zq_k5 => k_asm); (case zq_k6 => k_is); (case zq_k7 => k_is); (case zq_k8 => ktr_room); (case zq_k9 => exact BindsTo.of_eq rfl); (case zq_kB => exact rfl); (case zq_kD => decide +kernel); (case zq_c2 => exact rfl); (case zq_c3 => exact rfl); (case zq_c4 => exact rfl); k_whole; intro g' L' h' tk' cells' FG' F' N' Y' B' X' T' l1; (try k_lt l1); k_cells Y'; (try simp only [List.cons_append, List.nil_append] at N'); (try dsimp only); (try k_fold))))
  (k_with "call type:tuple" => ((k_here; (with_reducible show wpAny _ _ (call (Value.type "tuple") [Value.ref _]) _ _ _); k_dflt (refine' call_tuple_tup ?zq_t ?_; (case zq_t => exact tupK (by k_in) (by k_is)); k_whole))))
  (k_with "tb_rel" => ((first | exact far_lt (by tbn_lt) | exact far_lt (allLt_up (by tbn_find) (by omega)) | exact far_lt (allLt_up (allLt_of (by assumption)) (by omega)) | exact far_lt (allLt_app (by tbn_find)) | exact far_sub (far_off1 (by assumption)) (by intro p hp; kcf_m))))
  (k_with "k_mem" => (kcf_m))
  (k_with "call type:tuple" => ((k_here; (with_reducible show wpAny _ _ (call (Value.type "tuple") [Value.ref _]) _ _ _); k_dflt (refine' kde_tupleOf (zs := _) ?zq_k1 ?zq_k2 ?zq_k3 ?zq_k4 ?zq_k5 ?_; (case zq_k1 => k_asm); (case zq_k2 => k_asm); (case zq_k3 => exact News.isList (by k_asm) (by k_mem)); (case zq_k5 => first | exact List.toList_toArray | exact List.toList_toArray _ | exact Array.toList_toArray _); (case zq_k4 => (simp only [List.size_toArray, List.length_cons]; omega)); k_whole); intro D' h' F' N' l1; (try k_lt l1))))
  (k_with "binaryOp Add ref ref" => ((k_here; (with_reducible show wpAny _ _ (binaryOp _ (Value.ref _) (Value.ref _)) _ _ _); k_dflt (refine' addL ?zq_k1 ?zq_k2 ?zq_k3 ?zq_k4 ?zq_k5 ?_; (case zq_k1 => k_asm); (case zq_k2 => k_asm); (case zq_k3 => k_mem); (case zq_k4 => k_mem); (case zq_k5 => ((try simp only [List.length_cons, List.length_nil]); omega)); k_whole); intro D' h' F' N' l1; (try k_lt l1); (try simp only [List.cons_append, List.nil_append] at N'))))
  (k_with "tb_rel" => (first | exact far_sub (far_of (by assumption)) (by intro q hq; kcf_m) | fail "far"))
  (k_with "call ref" => (((with_reducible show wpAny _ _ (call (Value.ref 326) _) _ _ _); k_here; k_dflt (refine' digit ?zq_kB ?zq_kF ?zq_kX ?zq_kN ?zq_kT ?zq_kK ?zq_kD ?zq_kS ?zq_km ?zq_km2 ?zq_kd ?zq_ku ?_; (case zq_kB => k_asm); (case zq_kF => k_asm); (case zq_kX => k_asm); (case zq_kN => k_asm); (case zq_kT => k_asm); (case zq_kK => first | exact rfl | assumption); (case zq_kD => k_upd); (case zq_kS => assumption); (case zq_km => omega); (case zq_km2 => omega); (case zq_kd => ktr_room); (case zq_ku => first | decide | ktr_units); k_whole; intro v' t' oS' h' tk' hv0' hv1' hS' F' N' hoff'; (try dsimp only); (try k_sweep)))))
  (k_with "subscriptTail" => ((k_here; (with_reducible show wpAny _ _ (subscriptTail _ _ (Value.ref _) (Value.ref _)) _ _ _); k_dflt (refine' slice_upto ?zq_F ?zq_N ?zq_hm ?zq_h0 ?zq_hb ?zq_hsz ?zq_hs ?zq_hg ?zq_ga ?zq_gb; (case zq_F => k_asm); (case zq_N => k_asm); (case zq_hm => k_mem); (case zq_h0 => omega); (case zq_hb => ((try simp only [List.length_cons, List.length_nil]); omega)); (case zq_hsz => ((try simp only [List.length_cons, List.length_nil]); omega)); (case zq_hs => with_unfolding_all rfl); (case zq_hg => (intro r; rfl)); (case' zq_ga => (k_whole; intro e9 h' F' N')); (case' zq_gb => (k_whole; intro e9 r' h' F' N' l1; (try k_lt l1)))))))
  (k_with "call ref" => (((with_reducible show wpAny _ _ (call (Value.ref 308) _) _ _ _); k_here; k_dflt (refine' methNew ?zq_kB ?zq_kF ?zq_kX ?zq_kN ?zq_kT ?zq_kK ?zq_kd ?zq_ku ?_; (case zq_kB => k_asm); (case zq_kF => k_asm); (case zq_kX => k_asm); (case zq_kN => k_asm); (case zq_kT => k_asm); (case zq_kK => first | exact rfl | assumption); (case zq_kd => ktr_room); (case zq_ku => first | decide | ktr_units); k_whole; intro x' d' n' h1' t1' h2' t2' h3' t3' h4' t4' h5' t5' h6' t6' h7' t7' h8' t8' h9' t9' t0' h' tk' F' N' l1 l2; (try k_lt l1); (try k_lt2 l2); (try dsimp only); (try k_sweep)))))
  have ret2 : ∀ {r oS' all h' tk'}, News h₀ L h' all → (src, oS') ∈ all → Src oS' → Fr h₀ L h' m → (∃ add, New1 src oS' rest add all ∧ Ans w add many r) → Q (.ref r) { s with heap := h', toks := tk' } := by
    intro r oS' all h' tk' c1 c3 c5 c6 c0
    obtain ⟨add, c2, c4⟩ := c0
    obtain ⟨a, b⟩ := c2.sub
    refine ret _ _ _ _ _ c5 c4 b c6 fun p hp => ?_
    rcases List.mem_cons.mp hp with rfl | hp
    · exact c1 _ c3
    · exact c1 _ (a _ hp)
  clear ret
  have N : News h₀ L s.heap ((src, oS) :: rest) := fun p hp => N0 p (D1.sub p hp)
  have hne : ∀ p ∈ rest, p.1 ≠ src := D1.off
  clear N0 D1
  revert X; k_fill; intro X
  refine wpAny_call ?_
  k_dflt ktr_enter
  k_steps
  rotate_left 4
  k_here
  k_dflt (refine' slice_upto ?zF ?zN ?zhm ?zh0 ?zhb ?zhsz ?zhs ?zhg ?zga ?zgb)
  case zF => k_asm
  case zN => k_asm
  case zhm => k_mem
  case zhs => with_unfolding_all rfl
  case zhg => intro r; rfl
  case zh0 => simp only [beq_iff_eq]; split <;> omega
  case zhb => simp only [beq_iff_eq, List.length_cons, List.length_nil]; split <;> omega
  case zhsz => simp only [List.length_cons, List.length_nil]; omega
  case zga => intro e9; exfalso; simp only [beq_iff_eq, List.length_cons, List.length_nil] at e9; split at e9 <;> omega
  case' zgb =>
    k_whole
    intro e9 r' h' F' N' l1
    try k_lt l1
    k_steps
  all_goals (rename News h₀ _ _ _ => kN9)
  all_goals refine ret2 kN9 (by k_mem) (by assumption) (by assumption) ⟨_, (by repeat' (first | exact New1.nil | refine' New1.src ?_ | refine' New1.cons (by omega) (by first | exact far_lt (by tbn_lt) | exact far_lt (by tbn_find) | exact far_lt (allLt_up (by tbn_find) (by omega))) ?_)), ?_⟩
  all_goals first
    | exact .inl ⟨_, _, by k_mem⟩
    | exact .inr (.inl ⟨_, _, _, by k_mem⟩)
    | (refine Or.inr (Or.inr ⟨_, _, _, _, _, _, _, _, _, _, _, _, _, _, _, (by k_mem), ⟨_, _, _, _, _, _, _, _, _, _, _, _, _, _, _, _, _, _, _, _, _, _, _, _, _, _, _, (by k_mem), (by k_mem)⟩, (by k_mem), ?_, ?_, (by k_mem), (by assumption), (by assumption), (by k_mem)⟩))
    | skip
  all_goals (intro hb9; simp only [beq_iff_eq, beq_eq_false_iff_ne, ne_eq] at hb9; (try simp only [List.length_take, List.length_cons, List.length_nil]); (try simp only [hb9, beq_iff_eq, if_true, if_false, List.length_take, List.length_cons, List.length_nil]); (try omega))
  all_goals (rename (_ = ((List.length _ : Nat) : Int)) => e8; simp only [beq_iff_eq, List.length_cons, List.length_nil] at e8; split at e8 <;> omega)
end
section
open PySem.Calls
theorem pick_take {vs : List Value} {b : Int} (h : 0 ≤ b) : kms_pick vs.toArray.toList none (some b) = vs.take b.toNat := by
  simp only [kms_pick, kms_lo, kms_hi, if_neg (Int.not_lt.mpr h), List.toList_toArray, List.drop_zero, Nat.sub_zero]
  first | rw [← List.take_eq_take_min] | (rw [Nat.min_comm]; exact List.take_eq_take_min.symm) | exact List.take_eq_take_min.symm
theorem pick_drop {vs : List Value} {b : Int} (h : 0 ≤ b) : kms_pick vs.toArray.toList (some b) none = vs.drop b.toNat := by
  simp only [kms_pick, kms_lo, kms_hi, if_neg (Int.not_lt.mpr h), List.toList_toArray]
  rw [List.take_of_length_le (by rw [List.length_drop]; omega)]
  by_cases q : b.toNat ≤ vs.length
  · rw [Nat.min_eq_left q]
  · rw [Nat.min_eq_right (by omega), List.drop_length, List.drop_eq_nil_of_le (by omega)]
theorem pick_last {vs : List Value} {x : Value} {b : Int} (h : b = -1) : kms_pick (vs ++ [x]).toArray.toList none (some b) = vs := by
  subst h
  simp [kms_pick, kms_lo, kms_hi]
theorem neg_last {vs : List Value} {x : Value} {b : Int} (h : b = -1) : seqIndex? b (vs ++ [x]).length = some vs.length := by
  subst h
  simp [seqIndex?]
  omega
theorem at_last {vs : List Value} {x : Value} : (vs ++ [x])[vs.length]? = some x := by simp
def Pk (l : List (Addr × Obj)) (b : Bool) (v : Value) (vs items : List Value) (k : Nat) : Prop :=
  (b = false ∧ items = v :: vs) ∨ (b = true ∧ ∃ (pr : Addr) (n1 : Nat) (t1 : Tok) (tt : Addr) (n2 : Nat), items = (v :: vs.take (k - 1)) ++ [.ref pr] ∧ (pr, ({ cls := .type "tuple", data := .seq #[.str (Str.ofString "tuple") t1, .ref tt] n1 } : Obj)) ∈ l ∧
    (tt, ({ cls := .type "tuple", data := .seq (vs.drop (k - 1)).toArray n2 } : Obj)) ∈ l)
theorem packed {w : World} {p : Program} {loose : List Str} {mean : ExcName → Option Value} {mg mb : Str → Option Value} {dp un : Nat} {gd : Option (List Code)} {cn : Str} {cs : Scope} {aa : Addr} {ccd : Value} {cl : List (Str × Addr)} {outer : List Env} {A₀ : Around} {base h₀ : Heap} {L : Addr} {m : Str → Option Value}
    {news : List (Addr × Obj)} {s : Shared} {x nm la : Addr} {b : Bool} {names vs : List Value} {nn na : Nat} {v : Value} {Q E : Value → Shared → Prop}
    (B : Below A₀ base outer h₀) (F : Fr h₀ L s.heap m) (X : (hd.heap_1_39 w.params).In h₀) (N : News h₀ L s.heap news) (T : Top p loose mean mg mb h₀) (hk : cs.kind = .function)
    (hM : MethAt news x nm b) (hnm : (nm, ({ cls := .type "tuple", data := .seq names.toArray nn } : Obj)) ∈ news) (hla : (la, W.listOf vs.toArray na) ∈ news) (h5 : vs.length ≤ 5) (hb : b = true → 1 ≤ names.length ∧ names.length ≤ vs.length + 1) (hdp : dp < 500) (hun : un < 2000)
    (ret : ∀ r n items add h' tk', Fr h₀ L h' m → News h₀ L h' (news ++ add) → (∀ p ∈ add, Far p.1 news) → (r, W.listOf (List.toArray items) n) ∈ news ++ add → Pk (news ++ add) b v vs items names.length → Q (.ref r) { s with heap := h', toks := tk' }) :
    wpAny (model PySem.Challenge.rw_pc0201_01.row.prog w) (ktrTop dp un gd cn cs L aa ccd cl outer) (call (.ref 269) [.ref x, v, .ref la]) Q E s := by
  w_top off
  k_with_none
  (k_with "k_all" => (assumption))
  (k_with "k_mem" => (assumption))
  (k_with "size_fits" => (((try simp only [List.size_toArray]); rw [PySem.sizeLine_eq]; omega)))
  (k_with "kqd_in" => (exact DatIn.bool _))
  (k_with "k_room" => (ktr_room))
  (k_with "k_upd" => (first | (refine' Del.head ?zq_a; (case zq_a => k_all)) | (refine' Del.tail ?zq_a ?zq_b; (case zq_a => k_ne); (case zq_b => k_upd))))
  (k_with "call builtin:len" => ((k_here; (with_reducible show wpAny _ _ (call (Value.builtin "len") [Value.ref _]) _ _ _); (with_unfolding_all refine' len_led ?zq_k1 ?zq_k2 ?zq_k3 ?_; (case zq_k1 => k_asm); (case zq_k2 => k_mem); (case zq_k3 => ((try simp only [Array.size_push, List.size_toArray]); omega)); k_whole); (try simp only [Array.size_push, List.size_toArray]))))
  (k_with "subscriptTail" => ((k_here; (with_reducible show wpAny _ _ (subscriptTail _ _ (Value.ref _) (Value.int _ _)) _ _ _); (with_unfolding_all refine' item_led ?zq_k1 ?zq_k2 ?zq_k3 ?zq_k4 ?zq_k5 ?_ ?zq_k6; (case zq_k1 => k_asm); (case zq_k2 => k_mem); (case zq_k3 => omega); (case zq_k4 => omega); (case zq_k5 => assumption); (case zq_k6 => with_unfolding_all rfl); k_whole))))
  (k_with "tb_start" => ((refine' code_defC ?zq_k1 ?zq_k2 ?zq_k3 ?zq_k4 ?zq_k5 ?zq_kA ?zq_kF ?zq_kK ?zq_k6 ?zq_k7 ?zq_k8 ?zq_k9 ?zq_kB ?zq_kD ?_ ?zq_c2 ?zq_c3 ?zq_c4; (case zq_kA => exact rfl); (case zq_kF => exact rfl); (case zq_kK => assumption); (case zq_k1 => k_asm); (case zq_k2 => k_asm); (case zq_k3 => k_asm); (case zq_k4 => k_asm); (case zq_k5 => k_asm); (case zq_k6 => k_is); (case zq_k7 => k_is); (case zq_k8 => ktr_room); (case zq_k9 => exact BindsTo.of_eq rfl); (case zq_kB => exact rfl); (case zq_kD => decide +kernel); (case zq_c2 => exact rfl); (case zq_c3 => exact rfl); (case zq_c4 => exact rfl); k_whole; intro g' L' h' tk' cells' FG' F' N' Y' B' X' T' l1; (try k_lt l1); k_cells Y'; (try simp only [List.cons_append, List.nil_append] at N'); (try dsimp only); (try k_fold))))
  (k_with "call type:tuple" => ((k_here; (with_reducible show wpAny _ _ (call (Value.type "tuple") [Value.ref _]) _ _ _); k_dflt (refine' call_tuple_tup ?zq_t ?_; (case zq_t => exact tupK (by k_in) (by k_is)); k_whole))))
  (k_with "tb_rel" => ((first | exact far_lt (by tbn_lt) | exact far_lt (allLt_up (by tbn_find) (by omega)) | exact far_lt (allLt_up (allLt_of (by assumption)) (by omega)) | exact far_lt (allLt_app (by tbn_find)) | exact far_sub (far_off1 (by assumption)) (by intro p hp; kcf_m))))
  (k_with "k_mem" => (kcf_m))
  (k_with "call type:tuple" => ((k_here; (with_reducible show wpAny _ _ (call (Value.type "tuple") [Value.ref _]) _ _ _); k_dflt (refine' kde_tupleOf (zs := _) ?zq_k1 ?zq_k2 ?zq_k3 ?zq_k4 ?zq_k5 ?_; (case zq_k1 => k_asm); (case zq_k2 => k_asm); (case zq_k3 => exact News.isList (by k_asm) (by k_mem)); (case zq_k5 => first | exact List.toList_toArray | exact List.toList_toArray _ | exact Array.toList_toArray _); (case zq_k4 => (simp only [List.size_toArray, List.length_cons]; omega)); k_whole); intro D' h' F' N' l1; (try k_lt l1))))
  (k_with "binaryOp Add ref ref" => ((k_here; (with_reducible show wpAny _ _ (binaryOp _ (Value.ref _) (Value.ref _)) _ _ _); k_dflt (refine' addL ?zq_k1 ?zq_k2 ?zq_k3 ?zq_k4 ?zq_k5 ?_; (case zq_k1 => k_asm); (case zq_k2 => k_asm); (case zq_k3 => k_mem); (case zq_k4 => k_mem); (case zq_k5 => ((try simp only [List.length_cons, List.length_nil]); omega)); k_whole); intro D' h' F' N' l1; (try k_lt l1); (try simp only [List.cons_append, List.nil_append] at N'))))
  (k_with "tb_rel" => (first | exact far_sub (far_of (by assumption)) (by intro q hq; kcf_m) | fail "far"))
  (k_with "subscriptTail Name UnaryOp ref int" => ((k_here; (with_reducible show wpAny _ _ (subscriptTail _ _ (Value.ref _) (Value.int _ _)) _ _ _); (with_unfolding_all refine' kde_neg ?zq_k1 ?zq_k2 ?zq_k3 ?zq_k4 ?zq_k5 ?_ ?zq_k6; (case zq_k1 => exact News.isList (by k_asm) (by k_mem)); (case zq_k2 => decide); (case zq_k3 => decide); (case zq_k4 => exact neg_last rfl); (case zq_k5 => exact at_last); (case zq_k6 => with_unfolding_all rfl); k_whole))))
  (k_with "call builtin:len" => ((k_here; (with_reducible show wpAny _ _ (call (Value.builtin "len") [Value.ref _]) _ _ _); k_dflt (refine' kun_lenL ?zq_k1 ?zq_k2 ?zq_k3 ?_; (case zq_k1 => exact News.isList (by k_asm) (by k_mem)); (case zq_k2 => (rw [List.size_toArray])); (case zq_k3 => ((try simp only [List.length_append, List.length_cons, List.length_nil, List.length_take]); omega)); k_whole); (try simp only [List.length_append, List.length_cons, List.length_nil, List.length_take]))))
  (k_with "call builtin:len" => ((k_here; (with_reducible show wpAny _ _ (call (Value.builtin "len") [Value.ref _]) _ _ _); k_dflt (refine' kun_lenT ?zq_k1 ?zq_k2 ?zq_k3 ?_; (case zq_k1 => exact News.isTup (by k_asm) (by k_mem)); (case zq_k2 => (rw [List.size_toArray])); (case zq_k3 => omega); k_whole))))
  (k_with "subscriptTail Name Slice ref ref" => ((k_here; (with_reducible show wpAny _ _ (subscriptTail _ (PySem.Expr.Slice _ _ none _) (Value.ref _) (Value.ref _)) _ _ _); k_dflt (refine' kms_slice_lit ?zq_F ?zq_N ?zq_l ?zq_p ?zq_q ?zq_e ?_ ?zq_s ?zq_t ?zq_z; (case zq_F => k_asm); (case zq_N => k_asm); (case zq_l => kmk_list); (case zq_p => kmk_part); (case zq_q => kmk_part); (case zq_e => first | exact pick_last (by rfl) | exact pick_take (by omega) | exact pick_drop (by omega)); (case zq_s => with_unfolding_all rfl); (case zq_t => kmk_pure); (case zq_z => ((try simp only [List.size_toArray, List.length_append, List.length_cons, List.length_nil, List.length_take]); rw [sizeLine_eq]; omega))); intro D' h' F' N' l1; (try k_lt l1); (try k_sweep))))
  (k_with "call type:list" => ((k_here; (with_reducible show wpAny _ _ (call (Value.type _) [Value.ref _]) _ _ _); k_dflt (refine' kup_listOfT ?zq_F ?zq_N ?zq_b ?zq_e ?_ ?zq_z; (case zq_F => k_asm); (case zq_N => k_asm); (case zq_b => k_mem); (case zq_e => first | exact List.toList_toArray | exact List.toList_toArray _ | exact Array.toList_toArray _); (case zq_z => ((try simp only [List.toList_toArray, List.length_append, List.length_cons, List.length_nil, List.length_take, List.length_drop]); rw [sizeLine_eq]; omega))); intro D' c' h' F' N' l1; (try k_lt l1); (try k_sweep))))
  (k_with "call type:list" => ((k_here; (with_reducible show wpAny _ _ (call (Value.type _) [Value.ref _]) _ _ _); k_dflt (refine' kup_listOf ?zq_F ?zq_N ?zq_b ?zq_e ?_ ?zq_z; (case zq_F => k_asm); (case zq_N => k_asm); (case zq_b => k_mem); (case zq_e => first | exact List.toList_toArray | exact List.toList_toArray _ | exact Array.toList_toArray _); (case zq_z => ((try simp only [List.toList_toArray, List.length_append, List.length_cons, List.length_nil, List.length_take, List.length_drop]); rw [sizeLine_eq]; omega))); intro D' c' h' F' N' l1; (try k_lt l1); (try k_sweep))))
  (k_with "call type:tuple" => ((k_here; (with_reducible show wpAny _ _ (call (Value.type "tuple") [Value.ref _]) _ _ _); k_dflt (refine' kde_tupleOf (zs := _) ?zq_k1 ?zq_k2 ?zq_k3 ?zq_k4 ?zq_k5 ?_; (case zq_k1 => k_asm); (case zq_k2 => k_asm); (case zq_k3 => exact News.isList (by k_asm) (by k_mem)); (case zq_k5 => first | exact List.toList_toArray | exact List.toList_toArray _ | exact Array.toList_toArray _); (case zq_k4 => ((try simp only [List.size_toArray, List.length_cons, List.length_nil, List.length_take, List.length_drop]); omega)); k_whole); intro D' h' F' N' l1; (try k_lt l1))))
  (k_with "binaryOp Add ref ref" => ((k_here; (with_reducible show wpAny _ _ (binaryOp _ (Value.ref _) (Value.ref _)) _ _ _); k_dflt (refine' addL ?zq_k1 ?zq_k2 ?zq_k3 ?zq_k4 ?zq_k5 ?_; (case zq_k1 => k_asm); (case zq_k2 => k_asm); (case zq_k3 => k_mem); (case zq_k4 => k_mem); (case zq_k5 => ((try simp only [List.length_cons, List.length_nil, List.length_append, List.length_take, List.length_drop]); omega)); k_whole); intro D' h' F' N' l1; (try k_lt l1); (try simp only [List.cons_append, List.nil_append] at N'))))
  have ret2 : ∀ {r n items add all h' tk'}, News h₀ L h' all → New0 news add all → (r, W.listOf (List.toArray items) n) ∈ news ++ add → Pk (news ++ add) b v vs items names.length → Fr h₀ L h' m → Q (.ref r) { s with heap := h', toks := tk' } := by
    intro r n items add all h' tk' c1 c2 c3 c4 c5
    obtain ⟨a, b⟩ := c2.sub
    exact ret _ _ _ _ _ _ c5 (fun p hp => c1 p (a p hp)) b c3 c4
  clear ret
  obtain ⟨d, n, h1, t1, v1, h2, t2, v2, h3, t3, v3, h4, t4, h5', t5, h6, t6, v6, h7, t7, v7, h8, t8, v8, h9, t9, v9, hm1, hm2⟩ := hM
  revert X; k_fill; intro X
  cases b
  · clear hb
    refine wpAny_call ?_
    k_dflt ktr_enter
    k_steps
    (rename News _ _ _ _ => kN9)
    refine' ret2 kN9 ?zn ?zd ?zp (by assumption)
    case zn => repeat' (first | exact New0.nil | refine' New0.cons (by tb_rel) ?_)
    case zd => k_mem
    case zp => exact .inl ⟨rfl, rfl⟩
  · obtain ⟨hb1, hb2⟩ := hb rfl
    refine wpAny_call ?_
    k_dflt ktr_enter
    k_steps
    (rename News _ _ _ _ => kN9)
    rw [show ((names.length : Int) - 1).toNat = names.length - 1 by omega] at kN9
    refine' ret2 kN9 ?zn ?zd ?zp (by assumption)
    case zn => repeat' (first | exact New0.nil | refine' New0.cons (by tb_rel) ?_)
    case zd => k_mem
    case zp => exact .inr ⟨rfl, _, _, _, _, _, rfl, by k_mem, by k_mem⟩
theorem laid {w : World} {p : Program} {loose : List Str} {mean : ExcName → Option Value} {mg mb : Str → Option Value} {dp un : Nat} {gd : Option (List Code)} {cn : Str} {cs : Scope} {aa : Addr} {ccd : Value} {cl : List (Str × Addr)} {outer : List Env} {A₀ : Around} {base h₀ : Heap} {L : Addr} {m : Str → Option Value}
    {news : List (Addr × Obj)} {s : Shared} {x nm la : Addr} {b : Bool} {names vs items : List Value} {nn na : Nat} {v : Value} {Q E : Value → Shared → Prop}
    (B : Below A₀ base outer h₀) (F : Fr h₀ L s.heap m) (X : (hd.heap_1_39 w.params).In h₀) (N : News h₀ L s.heap news) (T : Top p loose mean mg mb h₀) (hk : cs.kind = .function)
    (hM : MethAt news x nm b) (hnm : (nm, ({ cls := .type "tuple", data := .seq names.toArray nn } : Obj)) ∈ news) (hla : (la, W.listOf items.toArray na) ∈ news) (h5 : vs.length ≤ 5) (hP : Pk news b v vs items names.length) (hb0 : b = false → names.length = vs.length) (hb : b = true → 1 ≤ names.length ∧ names.length ≤ vs.length + 1) (hdp : dp < 500) (hun : un < 2000)
    (ret : ∀ r n add h' tk', Fr h₀ L h' m → News h₀ L h' (news ++ add) → (∀ p ∈ add, Far p.1 news) → (r, W.listOf (v :: vs).toArray n) ∈ news ++ add → Q (.ref r) { s with heap := h', toks := tk' }) :
    wpAny (model PySem.Challenge.rw_pc0201_01.row.prog w) (ktrTop dp un gd cn cs L aa ccd cl outer) (call (.ref 354) [.ref la, .ref x]) Q E s := by
  have ret2 : ∀ {r n add all h' tk'}, News h₀ L h' all → New0 news add all → (r, W.listOf (v :: vs).toArray n) ∈ news ++ add → Fr h₀ L h' m → Q (.ref r) { s with heap := h', toks := tk' } := by
    intro r n add all h' tk' c1 c2 c3 c5
    obtain ⟨a, b⟩ := c2.sub
    exact ret _ _ _ _ _ c5 (fun p hp => c1 p (a p hp)) b c3
  clear ret
  obtain ⟨d, n, h1, t1, v1, h2, t2, v2, h3, t3, v3, h4, t4, h5', t5, h6, t6, v6, h7, t7, v7, h8, t8, v8, h9, t9, v9, hm1, hm2⟩ := hM
  revert X; k_fill; intro X
  rcases hP with ⟨rfl, rfl⟩ | ⟨rfl, pr, n1, t1, tt, n2, rfl, hp1, hp2⟩
  · clear hb
    replace hb0 := hb0 rfl
    refine wpAny_call ?_
    k_dflt ktr_enter
    k_steps
    · (rename News h₀ _ _ _ => kN9)
      refine' ret2 (add := []) kN9 ?zn ?zd (by assumption)
      case zn => exact New0.nil
      case zd => rw [List.append_nil]; exact hla
    · exfalso; omega
  · clear hb0
    obtain ⟨hb1, hb2⟩ := hb rfl
    refine wpAny_call ?_
    k_dflt ktr_enter
    k_steps
    · exfalso; omega
    · (rename News h₀ _ _ _ => kN9)
      rw [List.take_append_drop] at kN9
      refine' ret2 kN9 ?zn ?zd (by assumption)
      case zn => repeat' (first | exact New0.nil | refine' New0.cons (by tb_rel) ?_)
      case zd => k_mem
end
section
open PySem.Calls
abbrev excObj (C t : Addr) (dd : Option Addr) (f1 : Value) : Obj := { cls := .ref C, dict := dd, data := .fields #[.ref t, f1, .none, .none, .bool false, .none] }
theorem made_news {h h' h₀ : Heap} {L e C : Addr} {m : Str → Option Value} {args : List Value} {news : List (Addr × Obj)} (x : Heap.MadeExcOf h h' e (.ref C) args) (F : Fr h₀ L h m) (N : News h₀ L h news) :
    ∃ t, Fr h₀ L h' m ∧ News h₀ L h' ((e, excObj C t none .none) :: (t, ({ cls := .type "tuple", data := .seq args.toArray } : Obj)) :: news) ∧ Far e news ∧ Far t news ∧ (@Ne Nat t e) := by
  obtain ⟨t, he, htn, ht⟩ := x.there
  have F' : Fr h₀ L h' m := F.keeps x.keeps
  have new : ∀ {b}, h.get? b = none → b ≠ L ∧ h₀.get? b = none := fun {b} hb => by
    refine ⟨fun q => ?_, ?_⟩
    · obtain ⟨oL, _, _, hL, _⟩ := F.ns
      rw [q, hL] at hb; cases hb
    · cases q : h₀.get? b with
      | none => rfl
      | some o => rw [F.keep b o q] at hb; cases hb
  have far : ∀ {b}, h.get? b = none → Far b news := fun {b} hb q hq e => by
    have := (N q hq).1; rw [e, hb] at this; cases this
  refine ⟨t, F', fun p hp => ?_, far x.new, far htn, fun q => ?_⟩
  · rcases List.mem_cons.mp hp with rfl | hp
    · exact ⟨he, new x.new⟩
    · rcases List.mem_cons.mp hp with rfl | hp
      · exact ⟨ht, new htn⟩
      · exact ⟨x.keeps _ _ (N p hp).1, (N p hp).2⟩
  · rw [q, he] at ht; cases ht

section
variable {prog : Program} {w : World} {A : Around} {E : Value → Shared → Prop} {h : Heap} {g : Array GenState} {d : Drawn} {t : Nat} {os : OsState}
variable {nm q : Str} {C N : Addr} {bs bm bmB : List Value} {hdct : Bool} {sn : List Str} {sub : List Value} {ab : Bool} {col : Option Bool} {dd : Option Addr} {k0 k1 k2 k3 k5 : Option Value} {B newId initId : String}
structure ExcTail (B : String) (bm : List Value) : Prop where
  has : bm.contains (.type B) = true
  noA : bm.contains (.type "AttributeError") = false
  noN : bm.contains (.type "NameError") = false
theorem exc_check_new (F : ExcBaseFacts B newId initId bmB) (T : ExcTail B bm) {M : Model} {rest : List Value} {Q : Unit → Shared → Prop} (hC : h.get? C = some (excClassObj nm q C N bs bm hdct sn sub ab col dd k0 k1 k2 k3 k5 newId))
    (hq : Q () ⟨h, g, d, t, os⟩) : wpAny M A (checkBuiltinCall newId ⟨.ref C :: rest, []⟩) Q E ⟨h, g, d, t, os⟩ := by
  have hcont : (Value.ref C :: bm).contains (.type B) = true := by rw [List.contains_cons, T.has, Bool.or_true]
  have hstar := F.noStar
  simp only [checkBuiltinCall, F.newKind, F.newSplit, F.newRow]
  repeat (first | refine wpAny_loadPart_at hC ?_ | (refine wpAny_isSubtype_exc hC ?_; rw [hcont]) | refine wpAny_staticBase_exc hC ?_ | refine wpAny_madeBy_exc hC ?_ | simp only [bne_self_eq_false, Bool.false_eq_true, if_false] | wp_step)
  exact hq
theorem exc_new (F : ExcBaseFacts B newId initId bmB) (T : ExcTail B bm) {rest : List Value} {R : Result → Shared → Prop} (hC : h.get? C = some (excClassObj nm q C N bs bm hdct sn sub ab col dd k0 k1 k2 k3 k5 newId))
    (hq : R (.ok (.ret (.ref (h.objs.size + 1)))) ⟨(h.push { cls := .type "tuple", data := .seq rest.toArray }).push
      { cls := .ref C, data := .fields #[.ref h.objs.size, .none, .none, .none, .bool false, .none] }, g, d, t, os⟩) (hrest : rest.length ≤ sizeLine) :
    codeAny (model prog w) A (.builtin newId ⟨.ref C :: rest, []⟩) R ⟨h, g, d, t, os⟩ := by
  have hends := F.ends
  have hcB : (Value.ref C :: bm).contains (.type B) = true := by rw [List.contains_cons, T.has, Bool.or_true]
  have hcA : (Value.ref C :: bm).contains (.type "AttributeError") = false := by rw [List.contains_cons, T.noA]; rfl
  have hcN : (Value.ref C :: bm).contains (.type "NameError") = false := by rw [List.contains_cons, T.noN]; rfl
  refine codeAny_builtinAt F.entry ?_
  unfold Builtin.«BaseException.__new__»
  refine PySem.wpAt_bind ?_
  show PySem.wpAt _ _ _ (stack >>= _) _ _ _
  refine PySem.wpAt_bind (PySem.wpAt_stack fun p below => PySem.wpAt_of_wpAny ?_)
  wp_walk
  refine PySem.wpAt_of_wpAny ?_
  rw [F.owner]
  repeat (first | with_reducible refine wpAny_madeHere_exc F.canon hC ?_ | with_reducible refine wpAny_loadPart_at hC ?_ | (with_reducible refine wpAny_isSubtype_exc hC ?_; first | rw [hcB] | rw [hcA] | rw [hcN]) | wp_step)
  show R _ _
  rw [Heap.size_push]
  exact hq
theorem exc_type_call (F : ExcBaseFacts B newId initId bmB) (T : ExcTail B bm) {rest : List Value} {fI : Addr} {oI : Obj} {Q : Fin → Shared → Prop}
    (hC : h.get? C = some (excClassObj nm q C N bs bm hdct sn sub ab col dd k0 k1 k2 k3 k5 newId)) (hi : Looks (model prog w) h (typeLookup (.ref C) "__init__") (some (.ref fI)))
    (hfI : h.get? fI = some oI) (hfc : oI.cls = .type "function")
    (hq : ∀ h' e, Heap.MadeExcOf h h' e (.ref C) rest →
      wpAny (model prog w) A (call (.ref fI) (.ref e :: rest)) (fun r s' => r = .none ∧ Q (.done (.ret (.ref e))) s') E ⟨h', g, d, t, os⟩) (hrest : rest.length ≤ sizeLine) :
    wpAny (model prog w) A (Builtin.«type.__call__» ⟨.ref C :: rest, []⟩) Q E ⟨h, g, d, t, os⟩ := by
  repeat (first | with_reducible refine wpAny_loadPart_at hC ?_ | with_reducible refine wpAny_madeBy_exc hC ?_ | wp_step)
  refine codeAny_call_builtin_code (Code.quiet_builtin _ F.quiet) (exc_check_new F T hC ?_)
  refine exc_new F T hC ?_ hrest
  show wpAny _ _ _ _ _ _
  have up : ∀ b o, h.get? b = some o → ((h.push { cls := .type "tuple", data := .seq rest.toArray }).push { cls := .ref C, data := .fields #[.ref h.objs.size, .none, .none, .none, .bool false, .none] }).get? b = some o :=
    fun b o hb => Heap.get?_push_of_some _ (Heap.get?_push_of_some _ hb)
  have hC₁ := up _ _ hC
  have hfI₁ := up _ _ hfI
  have hget : ((h.push { cls := .type "tuple", data := .seq rest.toArray }).push
      { cls := .ref C, data := .fields #[.ref h.objs.size, .none, .none, .none, .bool false, .none] }).get? (h.objs.size + 1) = some
      { cls := .ref C, data := .fields #[.ref h.objs.size, .none, .none, .none, .bool false, .none] } := by heap_get
  have hcC : (Value.ref C :: bm).contains (.ref C) = true := by simp
  unfold isInstance
  repeat (first | with_reducible refine wpAny_loadPart_at hget ?_ | (with_reducible refine wpAny_isSubtype_exc hC₁ ?_; rw [hcC]) | wp_step)
  show wpAny _ _ (typeLookup (.ref C) _) _ _ _
  refine hi _ _ _ _ up ?_
  refine wpAny_holding (wpAny_bind ?_)
  unfold bindSpecial
  refine wpAny_bind (wpAny_typeOf (T := "function") ⟨_, hfI₁, hfc⟩ ?_)
  rw [if_pos (by decide)]
  refine wpAny_pure (wpAny_bind (wpAny_mono (hq _ (h.objs.size + 1) ⟨up, Heap.get?_none_of_le (Nat.le_succ _), h.objs.size, hget, Heap.get?_none_of_le (Nat.le_refl _), ?_⟩) (fun r s' hr => ?_) fun _ _ x => x))
  · exact Heap.get?_push_of_some _ (Heap.get?_push_at rfl rfl)
  · obtain ⟨rfl, hQ⟩ := hr
    wp_walk
    exact hQ
theorem exc_call (F : ExcBaseFacts B newId initId bmB) (T : ExcTail B bm) {rest : List Value} {fI : Addr} {oI : Obj} {Q : Value → Shared → Prop}
    (hC : h.get? C = some (excClassObj nm q C N bs bm hdct sn sub ab col dd k0 k1 k2 k3 k5 newId)) (hi : Looks (model prog w) h (typeLookup (.ref C) "__init__") (some (.ref fI)))
    (hfI : h.get? fI = some oI) (hfc : oI.cls = .type "function")
    (hq : ∀ h' e, Heap.MadeExcOf h h' e (.ref C) rest →
      wpAny (model prog w) (A.under (.builtin "type.__call__" ⟨.ref C :: rest, []⟩)) (call (.ref fI) (.ref e :: rest)) (fun r s' => r = .none ∧ Q (.ref e) s') E ⟨h', g, d, t, os⟩) (hrest : rest.length ≤ sizeLine) :
    wpAny (model prog w) A (call (.ref C) rest) Q E ⟨h, g, d, t, os⟩ := by
  have f1 := tc_lookup
  have f2 := tc_bind (.ref C)
  have hT : (⟨h, g, d, t, os⟩ : Shared).TypeIs (.ref C) "type" := ⟨_, hC, rfl⟩
  refine wpAny_call (codeAny_of_tree ?_)
  show wpAny _ _ (callAny (.ref C) _) _ _ _
  repeat (any_goals (first | assumption | with_reducible refine wpAny_loadPart_at hC ?_ | wp_step))
  refine ⟨rfl, ?_⟩
  refine codeAny_call_builtin_at (Code.quiet_builtin _ (by decide +kernel)) entry_typeCall (wpAny_check_type_call_sub hC (exc_type_call (hrest := hrest) F T hC hi hfI hfc fun h' e hm => ?_))
  exact hq h' e hm
end
end
section
open PySem.Calls PySem.Builtin PySem.Builtin.ObjectAttr
section
variable {prog : Program} {w : World} {A : Around} {E : Value → Shared → Prop} {s : Shared} {h₀ : Heap} {L x dx C : Addr} {m : Str → Option Value} {news news' : List (Addr × Obj)} {ox : Obj} {K : Frag} {es es' : List DictEntry} {n n' : Nat} {name : Str} {v : Value} {tk : Tok}
theorem store_in {Q : PySem.Fin → Shared → Prop} (F : Fr h₀ L s.heap m) (N : News h₀ L s.heap news) (hl : (getL name es).isSome = true)
    (e : (putL name (PyData.keyHash w.params name) (.str name s.toks) v es, putN name es n) = (es', n')) (U : Upd dx (dictOf es n) (dictOf es' n') news news') (hz : es'.length ≤ 1000)
    (h : ∀ h', Fr h₀ L h' m → News h₀ L h' news' → Q (.done (.ret .none)) { s with heap := h', toks := s.toks + 1 }) :
    wpAny (model prog w) A (storeInDict dx (.str name tk) name v) Q E s := by
  obtain ⟨pre, post, rfl, rfl, a, b⟩ := U.split
  obtain ⟨e1, e2⟩ := Prod.mk.inj e
  have e3 : Obj.putName name (PyData.keyHash w.params name) (.str name s.toks) v (dictOf es n) = dictOf es' n' := by rw [putName_dict, e1, e2]
  obtain ⟨U1, U2⟩ := news_upd (f := Obj.putName name (PyData.keyHash w.params name) (.str name s.toks) v) F N a b e3 rfl
  have D := (N (dx, dictOf es n) (by simp)).1
  have D' := (U2 (dx, dictOf es' n') (by simp)).1
  unfold storeInDict newKeyGuard
  refine wpAny_bind (wpAny_pure (wpAny_bind ?_))
  unfold nsSet
  refine wpAny_bind (wpAny_bind (wpAny_askSetting (wpAny_pure (wpAny_bind (wpAny_mkText (wpAny_bind (wpAny_loadPart D ?_)))))))
  dsimp only
  have c : (!es.toArray.any (·.key.isStr name) && es.toArray.any (·.refKey)) = false := by
    rw [← Array.any_toList, ← Array.any_toList]
    unfold getL at hl
    split at hl
    · rename_i en he
      rw [List.any_eq_true.mpr ⟨en, List.mem_of_find?_eq_some he, List.find?_some he⟩]; rfl
    · split at hl
      · cases hl
      · rename_i z; rw [Bool.not_eq_true] at z; simp [z]
  rw [aRefKeyMayBeTheName_at, c]
  refine wpAny_updatePart D ?_
  refine wpAny_bind (wpAny_lookBehind D' (pastItsLine_dict (by rw [List.size_toArray, sizeLine_eq]; omega)) ?_)
  exact wpAny_pure (h _ U1 U2)
structure ExcCls (K : Frag) (C : Addr) : Prop where
  cd : ∃ cd, clsIn K C = some cd ∧ cd.hasDict = true ∧ (∀ self, refuseLoop self "__setattr__" cd.mro = pure ()) ∧ cd.mro.contains (.type "object") = true ∧ cd.mro.contains (.type "BaseException") = true ∧ cd.mro.isEmpty = false
  set : findIn K (.ref C) "__setattr__" = some (some (.builtin "object.__setattr__"))
  get : findIn K (.ref C) "__getattribute__" = some (some (.builtin "BaseException.__getattribute__"))
theorem exc_osa {od : Option Obj} {R : Result → Shared → Prop} (X : K.In s.heap) (I : InstAt s.heap x ox C od) (H : ExcCls K C) (ht : takerIn K C name = some none)
    (h : ∀ b, wpAny (model prog w) A.in1 (storeInOwnDict (.ref x) (.ref C) (.str name tk) name v b)
      (fun fin s' => match fin with | .done f => R (.ok f) s' | .again c' => c'.quiet = true ∧ codeAny (model prog w) A c' R s') (fun e s' => R (.error e) s') s) :
    codeAny (model prog w) A (.call (.builtin "object.__setattr__") ⟨[.ref x, .str name tk, v], []⟩) R s := by
  have SF := PySem.F.store_object
  obtain ⟨cd, hc, _, ho, hob, _, ne⟩ := H.cd
  have sub : Looks (model prog w) s.heap (isInstance (.ref x) (.type "object")) true := I.type.andThen (looks_mroIn X (by unfold mroIn; rw [hc, Option.bind_some, if_neg (by rw [ne]; decide), hob]))
  refine codeAny_call_builtin SF.slot.plain SF.entry (@check_slot (model prog w) _ _ s "object.__setattr__" "object" "__setattr__" (.ref x) [.str name tk, v] [] _ SF.kind SF.split sub (SF.args (.ref x) (.str name tk) v) ?_)
  obtain ⟨attr, ha, hr⟩ := Option.bind_eq_some_iff.mp ht
  have hm : Looks (model prog w) s.heap (mroOf (.ref C)) cd.mro := (looks_clsIn X hc).andThen .now
  have L3 : Looks (model prog w) s.heap (storeTaker? attr) none := by
    cases attr with
    | none => exact .now
    | some a =>
      obtain ⟨b, hb, hq⟩ := Option.map_eq_some_iff.mp hr
      refine (looks_takesIn X hb).andThen ?_
      cases b <;> first | exact .now | cases hq
  rw [osa_eq, refuse_eq]
  refine wpAny_bind (wpAny_bind (I.type.here (wpAny_bind (hm.here ?_))))
  rw [ho]
  refine wpAny_pure (wpAny_bind (I.type.here (wpAny_bind ((looks_findIn X ha).here (wpAny_bind (L3.here ?_))))))
  exact h _
theorem exc_set1 {Q : Unit → Shared → Prop} (F : Fr h₀ L s.heap m) (X₀ : K.In h₀) (N : News h₀ L s.heap news) (H : ExcCls K C) (hm : (x, ox) ∈ news) (hmd : (dx, dictOf es n) ∈ news) (hc : ox.cls = .ref C) (hno : notCls ox = true) (hd : ox.dict = some dx) (ht : takerIn K C name = some none)
    (hl : (getL name es).isSome = true) (e : (putL name (PyData.keyHash w.params name) (.str name (s.toks + 1)) v es, putN name es n) = (es', n')) (U : Upd dx (dictOf es n) (dictOf es' n') news news') (hz : es'.length ≤ 1000)
    (h : ∀ h', Fr h₀ L h' m → News h₀ L h' news' → Q () { s with heap := h', toks := s.toks + 2 }) : wpAny (model prog w) A (setAttr (.ref x) name v) Q E s := by
  have X := X₀.keeps F.keep
  have I : InstAt s.heap x ox C (some (dictOf es n)) := ⟨(N _ hm).1, hc, hno, by rw [hd]; exact (N _ hmd).1⟩
  refine set_plain X I H.set (exc_osa (s := { s with toks := s.toks + 1 }) X I H ht fun b => ?_)
  obtain ⟨cd, hcd, hh, _⟩ := H.cd
  have hx := (N _ hm).1
  obtain ⟨oc, odi, oda, osl⟩ := ox
  dsimp only at hc hd
  subst hc hd
  refine wpAny_bind (wpAny_pure (wpAny_bind (wpAny_bind (wpAny_loadPart hx (wpAny_bind (looks_clsIn X hcd _ _ _ _ (fun _ _ e => e) ?_))))))
  rw [hh]
  refine wpAny_pure (a := some dx) ?_
  exact store_in (s := { s with toks := s.toks + 1 }) F N hl e U hz fun h' F' N' => h h' F' N'
theorem exc_set0 {Q : Unit → Shared → Prop} {rest : List (Addr × Obj)} (F : Fr h₀ L s.heap m) (X₀ : K.In h₀) (N : News h₀ L s.heap ((x, ox) :: rest)) (H : ExcCls K C) (off : Far x rest) (hc : ox.cls = .ref C) (hno : notCls ox = true) (hfr : ox.isFreed = false) (hd : ox.dict = none) (ht : takerIn K C name = some none)
    (h : ∀ dx h', Fr h₀ L h' m → News h₀ L h' ((dx, dictOf [⟨PyData.keyHash w.params name, .str name (s.toks + 1), v⟩] 1) :: (x, { ox with dict := some dx }) :: rest) → (∀ p ∈ (x, ox) :: rest, p.1 < dx) → Q () { s with heap := h', toks := s.toks + 2 }) : wpAny (model prog w) A (setAttr (.ref x) name v) Q E s := by
  have X := X₀.keeps F.keep
  have hx := (N _ (.head _)).1
  have I : InstAt s.heap x ox C none := ⟨hx, hc, hno, by rw [hd]; trivial⟩
  refine set_plain X I H.set (exc_osa (s := { s with toks := s.toks + 1 }) X I H ht fun b => ?_)
  obtain ⟨cd, hcd, hh, _⟩ := H.cd
  obtain ⟨oc, odi, oda, osl⟩ := ox
  dsimp only at hc hd
  subst hc hd
  have lts : ∀ p ∈ (x, (⟨.ref C, none, oda, osl⟩ : Obj)) :: rest, p.1 < s.heap.objs.size := fun p hp => Heap.lt_size (N p hp).1
  have N1 := N.push F { cls := .type "dict", data := .dict #[] }
  have F1 := F.push { cls := .type "dict", data := .dict #[] }
  obtain ⟨F2, N2⟩ := news_upd (pre := [(s.heap.objs.size, { cls := .type "dict", data := .dict #[] })]) (o' := ⟨.ref C, some s.heap.objs.size, oda, osl⟩) (f := fun o : Obj => { o with dict := some s.heap.objs.size }) F1 N1
    (fun p hp => by rw [List.mem_singleton.mp hp]; exact Ne.symm (Nat.ne_of_lt (lts _ (.head _)))) off rfl (by cases oda <;> first | rfl | exact hfr)
  obtain ⟨hh0, gg, dr, tt, os⟩ := s
  refine wpAny_bind (wpAny_pure (wpAny_bind (wpAny_bind (wpAny_loadPart hx (wpAny_bind (looks_clsIn X hcd _ _ _ _ (fun _ _ e => e) ?_))))))
  rw [hh]
  dsimp only
  rw [if_neg (by simp [typeHasDict])]
  cases oda with
  | cls c => cases hno
  | _ =>
    refine wpAny_bind (wpAny_alloc' ?_)
    refine wpAny_bind (wpAny_update' (Heap.get?_push_of_some _ hx) ?_)
    refine wpAny_pure ?_
    exact store_in (s := ⟨(hh0.push { cls := .type "dict", data := .dict #[] }).update x fun o => { o with dict := some hh0.objs.size }, gg, dr, tt + 1, os⟩) (es := []) (n := 0) F2 N2 rfl rfl (.head fun p hp => Nat.ne_of_lt (by
      rcases List.mem_cons.mp hp with rfl | hp
      · exact Heap.lt_size hx
      · exact lts p (.tail _ hp))) (Nat.le_of_ble_eq_true rfl) fun h' F' N' => h _ h' F' N' lts
end
end
section
open PySem.Calls PySem.Builtin PySem.Builtin.ObjectAttr
section
variable {prog : Program} {w : World} {A : Around} {E : Value → Shared → Prop} {h : Heap} {g : Array GenState} {d : Drawn} {t : Nat} {os : OsState}
variable {nm q : Str} {C N : Addr} {bs bm bmB : List Value} {hdct : Bool} {sn : List Str} {sub : List Value} {ab : Bool} {col : Option Bool} {dd : Option Addr} {k0 k1 k2 k3 k5 : Option Value} {B newId initId : String}
theorem exc_check_init (F : ExcBaseFacts B newId initId bmB) (T : ExcTail B bm) {M : Model} {e : Addr} {oe : Obj} {rest : List Value} {Q : Unit → Shared → Prop}
    (hC : h.get? C = some (excClassObj nm q C N bs bm hdct sn sub ab col dd k0 k1 k2 k3 k5 newId)) (he : h.get? e = some oe) (hcls : oe.cls = .ref C) (hq : Q () ⟨h, g, d, t, os⟩) :
    wpAny M A (checkBuiltinCall initId ⟨.ref e :: rest, []⟩) Q E ⟨h, g, d, t, os⟩ := by
  have hcB : (Value.ref C :: bm).contains (.type B) = true := by rw [List.contains_cons, T.has, Bool.or_true]
  have hshort := F.noStar
  simp only [checkBuiltinCall, F.initKind, F.initSplit, F.initRow]
  repeat (first | (with_reducible refine wpAny_loadPart_at he ?_; rw [hcls]) | with_reducible refine wpAny_loadPart_at hC ?_ | (with_reducible refine wpAny_isSubtype_exc hC ?_; rw [hcB]) | wp_step)
  refine wpAny_onRaise ?_
  rw [show ∀ (a b : String) (n : Nat), Bind.check ⟨.positional, "*", B, .self, [⟨"args", .varPos, false⟩]⟩ a b n (List.map (fun x => x.fst) ({ pos := Value.ref e :: rest } : Args).kw) = pure () from
    fun a b n => check_star_args _ _ _ _ _ _]
  exact wpAny_pure hq
theorem exc_init {h₀ : Heap} {L e t0 : Addr} {m : Str → Option Value} {rest : List (Addr × Obj)} {de : Option Addr} {f1 v : Value} {Q : Value → Shared → Prop} (FB : ExcBaseFacts B newId initId bmB) (T : ExcTail B bm)
    (hC : h.get? C = some (excClassObj nm q C N bs bm hdct sn sub ab col dd k0 k1 k2 k3 k5 newId)) (F : Fr h₀ L h m) (Nw : News h₀ L h ((e, excObj C t0 de f1) :: rest)) (off : Far e rest)
    (hq : ∀ t2 h', Fr h₀ L h' m → News h₀ L h' ((t2, ({ cls := .type "tuple", data := .seq [v].toArray } : Obj)) :: (e, excObj C t2 de f1) :: rest) → (∀ p ∈ (e, excObj C t0 de f1) :: rest, p.1 < t2) → Q .none ⟨h', g, d, t, os⟩) :
    wpAny (model prog w) A (call (.builtin initId) [.ref e, v]) Q E ⟨h, g, d, t, os⟩ := by
  have he := (Nw _ (.head _)).1
  have lts : ∀ p ∈ (e, excObj C t0 de f1) :: rest, p.1 < h.objs.size := fun p hp => Heap.lt_size (Nw p hp).1
  have N1 := Nw.push F { cls := .type "tuple", data := .seq [v].toArray }
  have F1 := F.push { cls := .type "tuple", data := .seq [v].toArray }
  obtain ⟨F2, N2⟩ := news_upd (pre := [(h.objs.size, { cls := .type "tuple", data := .seq [v].toArray })]) (o' := excObj C h.objs.size de f1) (f := Obj.mapFields (·.setIfInBounds 0 (.ref h.objs.size))) F1 N1
    (fun p hp => by rw [List.mem_singleton.mp hp]; exact Ne.symm (Nat.ne_of_lt (lts _ (.head _)))) off rfl rfl
  refine wpAny_call (codeAny_call_builtin FB.init.plain FB.initEntry (exc_check_init FB T hC he rfl ?_))
  wp_walk
  exact hq _ _ F2 N2 lts
end
end
section
open PySem.Calls PySem.Builtin PySem.Builtin.ObjectAttr
section
variable {prog : Program} {w : World} {A : Around} {E : Value → Shared → Prop} {h : Heap} {g : Array GenState} {d : Drawn} {t : Nat} {os : OsState} {K : Frag} {x C dx : Addr} {ox : Obj} {es : List DictEntry} {n : Nat} {name : Str} {v : Value} {od : Option Obj}
theorem exc_ga {R : Result → Shared → Prop} {tk : Tok} (X : K.In h) (I : InstAt h x ox C od) (H : ExcCls K C) (hf : findObj K C od name = some (.value v)) (hq : R (.ok (.ret v)) ⟨h, g, d, t, os⟩) :
    codeAny (model prog w) A (.call (.builtin "BaseException.__getattribute__") ⟨[.ref x, .str name tk], []⟩) R ⟨h, g, d, t, os⟩ := by
  obtain ⟨cd, hc, _, _, _, hob, ne⟩ := H.cd
  have sub : Looks (model prog w) h (isInstance (.ref x) (.type "BaseException")) true := I.type.andThen (looks_mroIn X (by unfold mroIn; rw [hc, Option.bind_some, if_neg (by rw [ne]; decide), hob]))
  refine codeAny_call_builtin PySem.F.attr_Exception.ga.plain PySem.F.entry_bexc_ga (@check_slot (model prog w) _ _ ⟨h, g, d, t, os⟩ "BaseException.__getattribute__" "BaseException" "__getattribute__" (.ref x) [.str name tk] [] _ (by decide +kernel) (by decide +kernel) sub (PySem.F.args_bexc_ga (.ref x) (.str name tk)) ?_)
  have L0 := I.type (M := model prog w)
  have L1 := looks_find (M := model prog w) X I hf
  unfold Builtin.«object.__getattribute__»
  repeat (any_goals (first | assumption | (with_reducible refine wpAny_loadPart_at I.at_ ?_; rw [I.cls]) | ((with_reducible show wpAny _ _ (find _ _ _) _ _ _); refine L1 _ _ _ _ (fun _ _ e => e) ?_) | wp_step))
theorem exc_by {fill expr : Bool} {tk : Tok} {Q : Value → Shared → Prop} (X : K.In h) (I : InstAt h x ox C od) (H : ExcCls K C) (hg : findIn K (.ref C) "__getattr__" = some none) (hf : findObj K C od name = some (.value v)) (hh : handedIn v = true) (hq : Q v ⟨h, g, d, t, os⟩) :
    wpAny (model prog w) A (getAttrBy (.ref x) (.str name tk) fill expr) Q E ⟨h, g, d, t, os⟩ := by
  have f3 := PySem.F.attr_Exception.ga.bind (.ref x)
  have hx0 : (expr && onTheHeap (Value.builtin "BaseException.__getattribute__")) = false := by cases expr <;> rfl
  have hx2 : (Value.builtin "BaseException.__getattribute__" == Value.builtin "object.__getattribute__") = false := by decide +kernel
  have hx1 : (onTheHeap (Value.ref C) && Value.builtin "BaseException.__getattribute__" == Value.builtin "object.__getattribute__") = false := by rw [hx2]; rfl
  have L0 := I.type (M := model prog w)
  have L1 := looks_findIn (M := model prog w) X H.get
  have L2 := looks_findIn (M := model prog w) X hg
  have ho := handedOut_of hh
  repeat (any_goals (first | assumption | (with_reducible refine wpAny_loadPart_at I.at_ ?_; rw [I.cls]) | ((with_reducible show wpAny _ _ (typeLookup _ (Str.ofString "__getattribute__")) _ _ _); refine L1 _ _ _ _ (fun _ _ e => e) ?_) | ((with_reducible show wpAny _ _ (typeLookup _ (Str.ofString "__getattr__")) _ _ _); refine L2 _ _ _ _ (fun _ _ e => e) ?_) | wp_step))
  refine exc_ga X I H hf ?_
  repeat (any_goals (first | assumption | wp_step))
end
end
section
section
open PySem.Calls PySem.Builtin PySem.Builtin.ObjectAttr
variable {prog : Program} {w : World} {A : Around} {E : Value → Shared → Prop} {s : Shared} {h₀ : Heap} {L x dx C : Addr} {m : Str → Option Value} {news : List (Addr × Obj)} {ox : Obj} {K : Frag} {es : List DictEntry} {n : Nat} {name : Str} {v : Value}
theorem exc_get {fill expr : Bool} {Q : Value → Shared → Prop} (F : Fr h₀ L s.heap m) (X₀ : K.In h₀) (N : News h₀ L s.heap news) (H : ExcCls K C) (hg : findIn K (.ref C) "__getattr__" = some none) (hm : (x, ox) ∈ news) (hmd : (dx, dictOf es n) ∈ news) (hc : ox.cls = .ref C) (hno : notCls ox = true) (hd : ox.dict = some dx)
    (hh : hasDictIn K C = true) (ha : findIn K (.ref C) name = some none) (hl : lookIn name (dictOf es n) = some (some v)) (hv : handedIn v = true) (h : Q v { s with toks := s.toks + 1 }) : wpAny (model prog w) A (getAttr (.ref x) name expr) Q E s := by
  have X := X₀.keeps F.keep
  have I : InstAt s.heap x ox C (some (dictOf es n)) := ⟨(N _ hm).1, hc, hno, by rw [hd]; exact (N _ hmd).1⟩
  have hf := findObj_own hh ha rfl hl
  unfold getAttr
  refine wpAny_bind (wpAny_mkText ?_)
  exact exc_by (t := s.toks + 1) X I H hg hf hv h
end
theorem excK71 (P : Params) : ExcCls (hd.heap_1_39 P) 71 := ⟨⟨_, rfl, rfl, fun self => by
  first | rfl | (with_unfolding_all rfl), rfl, rfl, rfl⟩, rfl, rfl⟩
theorem getA71 (P : Params) : findIn (hd.heap_1_39 P) (.ref 71) "__getattr__" = some none := rfl
end
section
open PySem.Calls PySem.Builtin PySem.Builtin.ObjectAttr
theorem c71 (P : Params) : ∃ nm q N sn sub ab col dd k0 k1 k2 k3 k5, (hd.heap_1_39 P).lookup 71 = some (excClassObj nm q 71 N [.ref 39] [.ref 39, .type "Exception", .type "BaseException", .type "object"] true sn sub ab col dd k0 k1 k2 k3 k5 "Exception.__new__") := ⟨_, _, _, _, _, _, _, _, _, _, _, _, _, rfl⟩
theorem t71 : ExcTail "Exception" [.ref 39, .type "Exception", .type "BaseException", .type "object"] := ⟨by decide +kernel, by decide +kernel, by decide +kernel⟩
theorem exc_call71 {prog : Program} {w : World} {A : Around} {E : Value → Shared → Prop} {s : Shared} {h₀ : Heap} {L : Addr} {m : Str → Option Value} {news : List (Addr × Obj)} {v : Value} {Q : Value → Shared → Prop} (F : Fr h₀ L s.heap m) (X₀ : (hd.heap_1_39 w.params).In h₀) (N : News h₀ L s.heap news)
    (hq : ∀ e t h', Fr h₀ L h' m → News h₀ L h' ((e, excObj 71 t none .none) :: (t, ({ cls := .type "tuple", data := .seq [v].toArray } : Obj)) :: news) → Far e ((t, ({ cls := .type "tuple", data := .seq [v].toArray } : Obj)) :: news) → Far t news →
      wpAny (model prog w) (A.under (.builtin "type.__call__" ⟨.ref 71 :: [v], []⟩)) (call (.ref 68) [.ref e, v]) (fun r s' => r = .none ∧ Q (.ref e) s') E { s with heap := h' }) :
    wpAny (model prog w) A (call (.ref 71) [v]) Q E s := by
  obtain ⟨nm, q, N', sn, sub, ab, col, dd, k0, k1, k2, k3, k5, hC⟩ := c71 w.params
  have X := X₀.keeps F.keep
  obtain ⟨h, g, d, t, os⟩ := s
  refine exc_call PySem.F.excBase_Exception t71 (X _ _ hC) (looks_findIn X rfl) (X 68 _ rfl) rfl (fun h' e M => ?_) (by rw [sizeLine_eq]; exact Nat.le_of_ble_eq_true rfl)
  obtain ⟨t, F', N2, f1, f2, f3⟩ := made_news M F N
  exact hq e t h' F' N2 (fun q hq => by
    rcases List.mem_cons.mp hq with rfl | hq
    · exact f3
    · exact f1 q hq) f2
theorem meta_Exc : typeOf (.type "Exception") = pure (.type "type") := by first | rfl | (with_unfolding_all rfl) | decide
theorem exc_init71 {prog : Program} {w : World} {A : Around} {E : Value → Shared → Prop} {s : Shared} {h₀ : Heap} {L e t0 : Addr} {m : Str → Option Value} {rest : List (Addr × Obj)} {v : Value} {Q : Value → Shared → Prop} (F : Fr h₀ L s.heap m) (X₀ : (hd.heap_1_39 w.params).In h₀) (N : News h₀ L s.heap ((e, excObj 71 t0 none .none) :: rest)) (off : Far e rest)
    (hq : ∀ t2 h', Fr h₀ L h' m → News h₀ L h' ((t2, ({ cls := .type "tuple", data := .seq [v].toArray } : Obj)) :: (e, excObj 71 t2 none .none) :: rest) → (∀ p ∈ (e, excObj 71 t0 none .none) :: rest, p.1 < t2) → Q .none { s with heap := h' }) :
    wpAny (model prog w) A (call (.builtin "Exception.__init__") [.ref e, v]) Q E s := by
  obtain ⟨nm, q, N', sn, sub, ab, col, dd, k0, k1, k2, k3, k5, hC⟩ := c71 w.params
  have X := X₀.keeps F.keep
  obtain ⟨h, g, d, t, os⟩ := s
  exact exc_init PySem.F.excBase_Exception t71 (X _ _ hC) F N off hq
theorem exc_set071 {prog : Program} {w : World} {A : Around} {E : Value → Shared → Prop} {s : Shared} {h₀ : Heap} {L x a t2 : Addr} {oa : Obj} {m : Str → Option Value} {rest : List (Addr × Obj)} {name : Str} {v : Value} {Q : Unit → Shared → Prop} (F : Fr h₀ L s.heap m) (X₀ : (hd.heap_1_39 w.params).In h₀) (N : News h₀ L s.heap ((a, oa) :: (x, excObj 71 t2 none .none) :: rest)) (off : Far x ((a, oa) :: rest)) (ht : takerIn (hd.heap_1_39 w.params) 71 name = some none)
    (h : ∀ dx h', Fr h₀ L h' m → News h₀ L h' ((dx, dictOf [⟨PyData.keyHash w.params name, .str name (s.toks + 1), v⟩] 1) :: (x, excObj 71 t2 (some dx) .none) :: (a, oa) :: rest) → (∀ p ∈ (x, excObj 71 t2 none .none) :: (a, oa) :: rest, p.1 < dx) → Q () { s with heap := h', toks := s.toks + 2 }) : wpAny (model prog w) A (setAttr (.ref x) name v) Q E s :=
  exc_set0 F X₀ (rest := (a, oa) :: rest) (ox := excObj 71 t2 none .none) (fun p hp => N p (by
    rcases List.mem_cons.mp hp with rfl | hp
    · exact .tail _ (.head _)
    · rcases List.mem_cons.mp hp with rfl | hp
      · exact .head _
      · exact .tail _ (.tail _ hp))) (excK71 w.params) off rfl rfl rfl rfl ht fun dx h' F' N' l => h dx h' F' N' l
theorem far_cons {x a : Addr} {o : Obj} {r : List (Addr × Obj)} (h : (@LT.lt Nat _ x a)) (f : Far x r) : Far x ((a, o) :: r) := fun q hq => by
  rcases List.mem_cons.mp hq with rfl | hq
  · exact Nat.ne_of_gt h
  · exact f q hq
theorem swapN {h₀ h : Heap} {L : Addr} {a b : Addr × Obj} {r : List (Addr × Obj)} (N : News h₀ L h (a :: b :: r)) : News h₀ L h (b :: a :: r) := fun p hp => N p (by
    rcases List.mem_cons.mp hp with rfl | hp
    · exact .tail _ (.head _)
    · rcases List.mem_cons.mp hp with rfl | hp
      · exact .head _
      · exact .tail _ (.tail _ hp))
def Hold (p : Prop) : Prop := p
theorem Hold.out {p : Prop} (h : Hold p) : p := h
theorem thrownC {w : World} {p : Program} {loose : List Str} {mean : ExcName → Option Value} {mg mb : Str → Option Value} {dp un : Nat} {gd : Option (List Code)} {cn : Str} {cs : Scope} {aa : Addr} {ccd : Value} {cl : List (Str × Addr)} {outer : List Env} {A₀ : Around} {base h₀ : Heap} {L : Addr} {m : Str → Option Value}
    {news fix : List (Addr × Obj)} {s : Shared} {nm : Str} {tn : Tok} {pt : Addr} {its : List Value} {np : Nat} {pd : Dat} {Q E : Value → Shared → Prop}
    (B : Below A₀ base outer h₀) (F : Fr h₀ L s.heap m) (X : (hd.heap_1_39 w.params).In h₀) (N : News h₀ L s.heap news) (T : Top p loose mean mg mb h₀) (hk : cs.kind = .function)
    (hfx : ∀ p ∈ fix, p ∈ news) (hp : DatIn fix (.ref pt) pd) (hpt : (pt, ({ cls := .type "tuple", data := .seq its.toArray np } : Obj)) ∈ news) (hdp : dp < 445) (hun : un < 1750)
    (ret : ∀ e t dx h1 t1 v1 h2 t2 v2 h3 t3 r n all h' tk', Fr h₀ L h' m → News h₀ L h' ((e, excObj 71 t (some dx) .none) :: all) → Far e all → (∀ p ∈ news, p ∈ all) → (dx, dictOf [⟨h1, .str (Str.ofString "message") t1, v1⟩, ⟨h2, .str (Str.ofString "spot") t2, v2⟩, ⟨h3, .str (Str.ofString "value") t3, r⟩] n) ∈ all →
      DatIn (E0 :: all) r (.tuple [S "struct", .tuple [S "name", .str nm, .tuple []], pd]) → Q (.ref e) { s with heap := h', toks := tk' }) :
    wpAny (model PySem.Challenge.rw_pc0201_01.row.prog w) (ktrTop dp un gd cn cs L aa ccd cl outer) (call (.ref 94) [.str nm tn, .ref pt]) Q E s := by
  w_top off
  k_with_none
  (k_with "k_all" => (assumption))
  (k_with "k_mem" => (assumption))
  (k_with "size_fits" => (((try simp only [List.size_toArray]); rw [PySem.sizeLine_eq]; omega)))
  (k_with "kqd_in" => (exact DatIn.bool _))
  (k_with "k_room" => (ktr_room))
  (k_with "k_upd" => (first | (refine' Del.head ?zq_a; (case zq_a => k_all)) | (refine' Del.tail ?zq_a ?zq_b; (case zq_a => k_ne); (case zq_b => k_upd))))
  (k_with "call builtin:len" => ((k_here; (with_reducible show wpAny _ _ (call (Value.builtin "len") [Value.ref _]) _ _ _); (with_unfolding_all refine' len_led ?zq_k1 ?zq_k2 ?zq_k3 ?_; (case zq_k1 => k_asm); (case zq_k2 => k_mem); (case zq_k3 => ((try simp only [Array.size_push, List.size_toArray]); omega)); k_whole); (try simp only [Array.size_push, List.size_toArray]))))
  (k_with "subscriptTail" => ((k_here; (with_reducible show wpAny _ _ (subscriptTail _ _ (Value.ref _) (Value.int _ _)) _ _ _); (with_unfolding_all refine' item_led ?zq_k1 ?zq_k2 ?zq_k3 ?zq_k4 ?zq_k5 ?_ ?zq_k6; (case zq_k1 => k_asm); (case zq_k2 => k_mem); (case zq_k3 => omega); (case zq_k4 => omega); (case zq_k5 => assumption); (case zq_k6 => with_unfolding_all rfl); k_whole))))
  (k_with "tb_start" => ((refine' code_defC ?zq_k1 ?zq_k2 ?zq_k3 ?zq_k4 ?zq_k5 ?zq_kA ?zq_kF ?zq_kK ?zq_k6 ?zq_k7 ?zq_k8 ?zq_k9 ?zq_kB ?zq_kD ?_ ?zq_c2 ?zq_c3 ?zq_c4; (case zq_kA => exact rfl); (case zq_kF => exact rfl); (case zq_kK => assumption); (case zq_k1 => k_asm); (case zq_k2 => k_asm); (case zq_k3 => k_asm); (case zq_k4 => k_asm); (case zq_k5 => k_asm); (case zq_k6 => k_is); (case zq_k7 => k_is); (case zq_k8 => ktr_room); (case zq_k9 => exact BindsTo.of_eq rfl); (case zq_kB => exact rfl); (case zq_kD => decide +kernel); (case zq_c2 => exact rfl); (case zq_c3 => exact rfl); (case zq_c4 => exact rfl); k_whole; intro g' L' h' tk' cells' FG' F' N' Y' B' X' T' l1; (try k_lt l1); k_cells Y'; (try simp only [List.cons_append, List.nil_append] at N'); (try dsimp only); (try k_fold))))
  (k_with "call type:tuple" => ((k_here; (with_reducible show wpAny _ _ (call (Value.type "tuple") [Value.ref _]) _ _ _); k_dflt (refine' call_tuple_tup ?zq_t ?_; (case zq_t => exact tupK (by k_in) (by k_is)); k_whole))))
  (k_with "tb_rel" => ((first | exact far_lt (by tbn_lt) | exact far_lt (allLt_up (by tbn_find) (by omega)) | exact far_lt (allLt_up (allLt_of (by assumption)) (by omega)) | exact far_lt (allLt_app (by tbn_find)) | exact far_sub (far_off1 (by assumption)) (by intro p hp; kcf_m))))
  (k_with "k_mem" => (kcf_m))
  (k_with "call type:tuple" => ((k_here; (with_reducible show wpAny _ _ (call (Value.type "tuple") [Value.ref _]) _ _ _); k_dflt (refine' kde_tupleOf (zs := _) ?zq_k1 ?zq_k2 ?zq_k3 ?zq_k4 ?zq_k5 ?_; (case zq_k1 => k_asm); (case zq_k2 => k_asm); (case zq_k3 => exact News.isList (by k_asm) (by k_mem)); (case zq_k5 => first | exact List.toList_toArray | exact List.toList_toArray _ | exact Array.toList_toArray _); (case zq_k4 => (simp only [List.size_toArray, List.length_cons]; omega)); k_whole); intro D' h' F' N' l1; (try k_lt l1))))
  (k_with "binaryOp Add ref ref" => ((k_here; (with_reducible show wpAny _ _ (binaryOp _ (Value.ref _) (Value.ref _)) _ _ _); k_dflt (refine' addL ?zq_k1 ?zq_k2 ?zq_k3 ?zq_k4 ?zq_k5 ?_; (case zq_k1 => k_asm); (case zq_k2 => k_asm); (case zq_k3 => k_mem); (case zq_k4 => k_mem); (case zq_k5 => ((try simp only [List.length_cons, List.length_nil]); omega)); k_whole); intro D' h' F' N' l1; (try k_lt l1); (try simp only [List.cons_append, List.nil_append] at N'))))
  (k_with "call ref" => ((k_here; (with_reducible show wpAny _ _ (call (Value.ref 71) [_]) _ _ _); k_dflt (refine' exc_call71 ?zq_k1 ?zq_k2 ?zq_k3 ?_; (case zq_k1 => k_asm); (case zq_k2 => k_asm); (case zq_k3 => k_asm); k_whole); intro e' t' h' F' N' l1 l2)))
  (k_with "getMethod type:Exception" => ((k_here; refine' method_type ?zq_F ?zq_X ?zq_m (by decide +kernel) ?zq_e ?zq_h ?_; (case zq_F => k_asm); (case zq_X => k_asm); (case zq_m => exact meta_Exc); (case zq_e => k_dflt k_is); (case zq_h => k_handed))))
  (k_with "call builtin:Exception.__init__" => ((k_here; k_dflt (refine' exc_init71 ?zq_k1 ?zq_k2 ?zq_k3 ?zq_k4 ?_; (case zq_k1 => k_asm); (case zq_k2 => k_asm); (case zq_k3 => k_asm); (case zq_k4 => assumption); k_whole); intro t' h' F' N' l1; (try k_lt l1))))
  (k_with "setAttr ref" => ((k_here; k_dflt (refine' exc_set071 ?zq_k1 ?zq_k2 ?zq_k3 ?zq_k4 ?zq_k5 ?_; (case zq_k1 => k_asm); (case zq_k2 => k_asm); (case zq_k3 => k_asm); (case zq_k4 => exact far_cons (by omega) (by assumption)); (case zq_k5 => k_is); k_whole); intro d' h' F' N' l1; (try k_lt l1); (try k_sweep))))
  (k_with "setAttr ref" => ((k_here; k_dflt (refine' exc_set1 (ox := excObj 71 _ (some _) Value.none) ?zq_k1 ?zq_k2 ?zq_k3 (excK71 _) ?zq_k5 ?zq_k6 rfl rfl rfl ?zq_k7 ?zq_k10 ?zq_k11 ?zq_k12 ?zq_k13 ?_; (case zq_k1 => k_asm); (case zq_k2 => k_asm); (case zq_k3 => k_asm); (case zq_k5 => k_mem); (case zq_k6 => k_mem); (case zq_k7 => k_is); (case zq_k10 => k_get); (case zq_k11 => k_put); (case zq_k12 => k_upd); (case zq_k13 => exact Nat.le_of_ble_eq_true rfl); k_whole); intro h' F' N'; (try k_sweep))))
  (k_with "call type:tuple" => ((k_here; (with_reducible show wpAny _ _ (call (Value.type "tuple") [Value.ref _]) _ _ _); k_dflt (refine' call_tuple_tup ?zq_t ?_; (case zq_t => exact News.isTup (by k_asm) (by k_mem)); k_whole))))
  have ret3 : ∀ {e t dx h1 t1 v1 h2 t2 v2 h3 t3 r n all h' tk'}, News h₀ L h' ((dx, dictOf [⟨h1, .str (Str.ofString "message") t1, v1⟩, ⟨h2, .str (Str.ofString "spot") t2, v2⟩, ⟨h3, .str (Str.ofString "value") t3, r⟩] n) :: (e, excObj 71 t (some dx) .none) :: all) →
      Far e ((dx, dictOf [⟨h1, .str (Str.ofString "message") t1, v1⟩, ⟨h2, .str (Str.ofString "spot") t2, v2⟩, ⟨h3, .str (Str.ofString "value") t3, r⟩] n) :: all) → (∀ p ∈ news, p ∈ all) → DatIn (E0 :: (dx, dictOf [⟨h1, .str (Str.ofString "message") t1, v1⟩, ⟨h2, .str (Str.ofString "spot") t2, v2⟩, ⟨h3, .str (Str.ofString "value") t3, r⟩] n) :: all) r (.tuple [S "struct", .tuple [S "name", .str nm, .tuple []], pd]) → Fr h₀ L h' m → Q (.ref e) { s with heap := h', toks := tk' } := by
    intro e t dx h1 t1 v1 h2 t2 v2 h3 t3 r n all h' tk' c1 c2 c3 c4 c5
    exact ret _ _ _ _ _ _ _ _ _ _ _ _ _ _ _ _ c5 (swapN c1) c2 (fun p hp => .tail _ (c3 p hp)) (.head _) c4
  revert X; k_fill; intro X
  refine wpAny_call ?_
  k_dflt ktr_enter
  k_steps
  (rename News _ _ _ _ => kN9)
  refine' ret3 kN9 ?a ?b ?c (by assumption)
  case a => exact far_cons (by omega) (far_cons (by omega) (by assumption))
  case b => intro p hp; kcf_m
  case c => exact DatIn.tuple (by k_mem) (.cons (.str _ _) (.cons (DatIn.tuple (by k_mem) (.cons (.str _ _) (.cons (.str _ _) (.cons (.tuple (by k_mem) .nil) .nil)))) (.cons (hp.mono (fun p hp => by have hp9 := hfx p hp; kcf_m)) .nil)))
theorem noMethod {w : World} {p : Program} {loose : List Str} {mean : ExcName → Option Value} {mg mb : Str → Option Value} {dp un : Nat} {gd : Option (List Code)} {cn : Str} {cs : Scope} {aa : Addr} {ccd : Value} {cl : List (Str × Addr)} {outer : List Env} {A₀ : Around} {base h₀ : Heap} {L : Addr} {m : Str → Option Value}
    {news fix : List (Addr × Obj)} {s : Shared} {la : Addr} {vs : List Value} {na : Nat} {dvs : List Dat} {v : Value} {dv : Dat} {Q E : Value → Shared → Prop}
    (B : Below A₀ base outer h₀) (F : Fr h₀ L s.heap m) (X : (hd.heap_1_39 w.params).In h₀) (N : News h₀ L s.heap news) (T : Top p loose mean mg mb h₀) (hk : cs.kind = .function)
    (hfx : ∀ p ∈ fix, p ∈ news) (hv : DatIn fix v dv) (hla : (la, W.listOf vs.toArray na) ∈ news) (hA : DatAll fix vs dvs) (h50 : vs.length ≤ 50) (hdp : dp < 440) (hun : un < 1700)
    (ret : ∀ e t dx h1 t1 v1 h2 t2 v2 h3 t3 r n all h' tk', Fr h₀ L h' m → News h₀ L h' ((e, excObj 71 t (some dx) .none) :: all) → Far e all → (∀ p ∈ news, p ∈ all) → (dx, dictOf [⟨h1, .str (Str.ofString "message") t1, v1⟩, ⟨h2, .str (Str.ofString "spot") t2, v2⟩, ⟨h3, .str (Str.ofString "value") t3, r⟩] n) ∈ all →
      DatIn (E0 :: all) r (.tuple [S "struct", .tuple [S "name", S "MethodError", .tuple []], .tuple [dv, .tuple [S "tuple", .tuple dvs]]]) → Q (.ref e) { s with heap := h', toks := tk' }) :
    wpAny (model PySem.Challenge.rw_pc0201_01.row.prog w) (ktrTop dp un gd cn cs L aa ccd cl outer) (call (.ref 101) [v, .ref la]) Q E s := by
  (k_with "call ref" => (((with_reducible show wpAny _ _ (call (Value.ref 94) _) _ _ _); refine Hold.out ?_)))
  revert X; k_fill; intro X
  refine wpAny_call ?_
  k_dflt ktr_enter
  k_steps
  unfold Hold
  k_here
  k_dflt (refine' thrownC (pd := .tuple [dv, .tuple [S "tuple", .tuple dvs]]) ?kB ?kF ?kX ?kN ?kT ?kK (fun p hp => hp) ?kp ?kpt ?kd ?ku ?_)
  case kB => k_asm
  case kF => k_asm
  case kX => k_asm
  case kN => k_asm
  case kT => k_asm
  case kK => exact rfl
  case kp => exact DatIn.tuple (by k_mem) (.cons (hv.mono (fun p hp => by have hp9 := hfx p hp; kcf_m)) (.cons (.tuple (by k_mem) (.cons (.str _ _) (.cons (.tuple (by k_mem) (hA.mono (fun p hp => by have hp9 := hfx p hp; kcf_m))) .nil))) .nil))
  case kpt => k_mem
  case kd => ktr_room
  case ku => first | decide | ktr_units
  k_whole
  intro e t dx h1 t1 v1 h2 t2 v2 h3 t3 r n all h' tk' F' N' a2 a3 a4 a5
  k_steps
  exact ret _ _ _ _ _ _ _ _ _ _ _ _ _ _ _ _ (by assumption) (by assumption) a2 (fun p hp => a3 p (by kcf_m)) a4 a5
theorem manyMethods {w : World} {p : Program} {loose : List Str} {mean : ExcName → Option Value} {mg mb : Str → Option Value} {dp un : Nat} {gd : Option (List Code)} {cn : Str} {cs : Scope} {aa : Addr} {ccd : Value} {cl : List (Str × Addr)} {outer : List Env} {A₀ : Around} {base h₀ : Heap} {L : Addr} {m : Str → Option Value}
    {news fix : List (Addr × Obj)} {s : Shared} {la : Addr} {vs : List Value} {na : Nat} {dvs : List Dat} {v : Value} {dv : Dat} {Q E : Value → Shared → Prop}
    (B : Below A₀ base outer h₀) (F : Fr h₀ L s.heap m) (X : (hd.heap_1_39 w.params).In h₀) (N : News h₀ L s.heap news) (T : Top p loose mean mg mb h₀) (hk : cs.kind = .function)
    (hfx : ∀ p ∈ fix, p ∈ news) (hv : DatIn fix v dv) (hla : (la, W.listOf vs.toArray na) ∈ news) (hA : DatAll fix vs dvs) (h50 : vs.length ≤ 50) (hdp : dp < 440) (hun : un < 1700)
    (ret : ∀ e t dx h1 t1 v1 h2 t2 v2 h3 t3 r n all h' tk', Fr h₀ L h' m → News h₀ L h' ((e, excObj 71 t (some dx) .none) :: all) → Far e all → (∀ p ∈ news, p ∈ all) → (dx, dictOf [⟨h1, .str (Str.ofString "message") t1, v1⟩, ⟨h2, .str (Str.ofString "spot") t2, v2⟩, ⟨h3, .str (Str.ofString "value") t3, r⟩] n) ∈ all →
      DatIn (E0 :: all) r (.tuple [S "struct", .tuple [S "name", S "AmbiguousError", .tuple []], .tuple [dv, .tuple [S "tuple", .tuple dvs]]]) → Q (.ref e) { s with heap := h', toks := tk' }) :
    wpAny (model PySem.Challenge.rw_pc0201_01.row.prog w) (ktrTop dp un gd cn cs L aa ccd cl outer) (call (.ref 108) [v, .ref la]) Q E s := by
  revert X; k_fill; intro X
  refine wpAny_call ?_
  k_dflt ktr_enter
  k_steps
  unfold Hold
  k_here
  k_dflt (refine' thrownC (pd := .tuple [dv, .tuple [S "tuple", .tuple dvs]]) ?kB ?kF ?kX ?kN ?kT ?kK (fun p hp => hp) ?kp ?kpt ?kd ?ku ?_)
  case kB => k_asm
  case kF => k_asm
  case kX => k_asm
  case kN => k_asm
  case kT => k_asm
  case kK => exact rfl
  case kp => exact DatIn.tuple (by k_mem) (.cons (hv.mono (fun p hp => by have hp9 := hfx p hp; kcf_m)) (.cons (.tuple (by k_mem) (.cons (.str _ _) (.cons (.tuple (by k_mem) (hA.mono (fun p hp => by have hp9 := hfx p hp; kcf_m))) .nil))) .nil))
  case kpt => k_mem
  case kd => ktr_room
  case ku => first | decide | ktr_units
  k_whole
  intro e t dx h1 t1 v1 h2 t2 v2 h3 t3 r n all h' tk' F' N' a2 a3 a4 a5
  k_steps
  exact ret _ _ _ _ _ _ _ _ _ _ _ _ _ _ _ _ (by assumption) (by assumption) a2 (fun p hp => a3 p (by kcf_m)) a4 a5
end
section
theorem tup_ne0 {l : List (Addr × Obj)} {a : Addr} {vs : Array Value} {n : Nat} (h : (a, ({ cls := .type "tuple", data := .seq vs n } : Obj)) ∈ E0 :: l) (hn : vs.size ≠ 0) : (a, ({ cls := .type "tuple", data := .seq vs n } : Obj)) ∈ l := by
  rcases List.mem_cons.mp h with e | h
  · injection e with _ e2
    injection e2 with _ _ e3
    injection e3 with e4
    exact absurd (by rw [e4]; rfl) hn
  · exact h
theorem tableName {w : World} {p : Program} {loose : List Str} {mean : ExcName → Option Value} {mg mb : Str → Option Value} {dp un : Nat} {gd : Option (List Code)} {cn : Str} {cs : Scope} {aa : Addr} {ccd : Value} {cl : List (Str × Addr)} {outer : List Env} {A₀ : Around} {base h₀ : Heap} {L : Addr} {m : Str → Option Value}
    {news l : List (Addr × Obj)} {s : Shared} {v : Value} {d : Dat} {x : Str} {Q E : Value → Shared → Prop}
    (B : Below A₀ base outer h₀) (F : Fr h₀ L s.heap m) (X : (hd.heap_1_39 w.params).In h₀) (N : News h₀ L s.heap news) (T : Top p loose mean mg mb h₀) (hk : cs.kind = .function)
    (hl : ∀ p ∈ l, p ∈ news) (hv : DatIn (E0 :: l) v d) (hx : TName d x) (hdp : dp < 480) (hun : un < 1900)
    (ret : ∀ t h' tk', Fr h₀ L h' m → News h₀ L h' news → Q (.str x t) { s with heap := h', toks := tk' }) :
    wpAny (model PySem.Challenge.rw_pc0201_01.row.prog w) (ktrTop dp un gd cn cs L aa ccd cl outer) (call (.ref 139) [v]) Q E s := by
  w_top off
  k_with_none
  (k_with "k_all" => (assumption))
  (k_with "k_mem" => (assumption))
  (k_with "size_fits" => (((try simp only [List.size_toArray]); rw [PySem.sizeLine_eq]; omega)))
  (k_with "kqd_in" => (exact DatIn.bool _))
  (k_with "k_room" => (ktr_room))
  (k_with "k_upd" => (first | (refine' Del.head ?zq_a; (case zq_a => k_all)) | (refine' Del.tail ?zq_a ?zq_b; (case zq_a => k_ne); (case zq_b => k_upd))))
  (k_with "call builtin:len" => ((k_here; (with_reducible show wpAny _ _ (call (Value.builtin "len") [Value.ref _]) _ _ _); (with_unfolding_all refine' len_led ?zq_k1 ?zq_k2 ?zq_k3 ?_; (case zq_k1 => k_asm); (case zq_k2 => k_mem); (case zq_k3 => ((try simp only [Array.size_push, List.size_toArray]); omega)); k_whole); (try simp only [Array.size_push, List.size_toArray]))))
  (k_with "subscriptTail" => ((k_here; (with_reducible show wpAny _ _ (subscriptTail _ _ (Value.ref _) (Value.int _ _)) _ _ _); (with_unfolding_all refine' item_led ?zq_k1 ?zq_k2 ?zq_k3 ?zq_k4 ?zq_k5 ?_ ?zq_k6; (case zq_k1 => k_asm); (case zq_k2 => k_mem); (case zq_k3 => omega); (case zq_k4 => omega); (case zq_k5 => assumption); (case zq_k6 => with_unfolding_all rfl); k_whole))))
  (k_with "tb_start" => ((refine' code_defC ?zq_k1 ?zq_k2 ?zq_k3 ?zq_k4 ?zq_k5 ?zq_kA ?zq_kF ?zq_kK ?zq_k6 ?zq_k7 ?zq_k8 ?zq_k9 ?zq_kB ?zq_kD ?_ ?zq_c2 ?zq_c3 ?zq_c4; (case zq_kA => exact rfl); (case zq_kF => exact rfl); (case zq_kK => assumption); (case zq_k1 => k_asm); (case zq_k2 => k_asm); (case zq_k3 => k_asm); (case zq_k4 => k_asm); (case zq_k5 => k_asm); (case zq_k6 => k_is); (case zq_k7 => k_is); (case zq_k8 => ktr_room); (case zq_k9 => exact BindsTo.of_eq rfl); (case zq_kB => exact rfl); (case zq_kD => decide +kernel); (case zq_c2 => exact rfl); (case zq_c3 => exact rfl); (case zq_c4 => exact rfl); k_whole; intro g' L' h' tk' cells' FG' F' N' Y' B' X' T' l1; (try k_lt l1); k_cells Y'; (try simp only [List.cons_append, List.nil_append] at N'); (try dsimp only); (try k_fold))))
  (k_with "call type:tuple" => ((k_here; (with_reducible show wpAny _ _ (call (Value.type "tuple") [Value.ref _]) _ _ _); k_dflt (refine' call_tuple_tup ?zq_t ?_; (case zq_t => exact tupK (by k_in) (by k_is)); k_whole))))
  (k_with "tb_rel" => ((first | exact far_lt (by tbn_lt) | exact far_lt (allLt_up (by tbn_find) (by omega)) | exact far_lt (allLt_up (allLt_of (by assumption)) (by omega)) | exact far_lt (allLt_app (by tbn_find)) | exact far_sub (far_off1 (by assumption)) (by intro p hp; kcf_m))))
  (k_with "k_mem" => (kcf_m))
  (k_with "call type:tuple" => ((k_here; (with_reducible show wpAny _ _ (call (Value.type "tuple") [Value.ref _]) _ _ _); k_dflt (refine' kde_tupleOf (zs := _) ?zq_k1 ?zq_k2 ?zq_k3 ?zq_k4 ?zq_k5 ?_; (case zq_k1 => k_asm); (case zq_k2 => k_asm); (case zq_k3 => exact News.isList (by k_asm) (by k_mem)); (case zq_k5 => first | exact List.toList_toArray | exact List.toList_toArray _ | exact Array.toList_toArray _); (case zq_k4 => (simp only [List.size_toArray, List.length_cons]; omega)); k_whole); intro D' h' F' N' l1; (try k_lt l1))))
  (k_with "binaryOp Add ref ref" => ((k_here; (with_reducible show wpAny _ _ (binaryOp _ (Value.ref _) (Value.ref _)) _ _ _); k_dflt (refine' addL ?zq_k1 ?zq_k2 ?zq_k3 ?zq_k4 ?zq_k5 ?_; (case zq_k1 => k_asm); (case zq_k2 => k_asm); (case zq_k3 => k_mem); (case zq_k4 => k_mem); (case zq_k5 => ((try simp only [List.length_cons, List.length_nil]); omega)); k_whole); intro D' h' F' N' l1; (try k_lt l1); (try simp only [List.cons_append, List.nil_append] at N'))))
  have ret2 : ∀ {t h' tk' all}, News h₀ L h' all → (∀ p ∈ news, p ∈ all) → Fr h₀ L h' m → Q (.str x t) { s with heap := h', toks := tk' } := by
    intro t h' tk' all c1 c2 c3
    exact ret _ _ _ c3 fun p hp => c1 p (c2 p hp)
  clear ret
  revert X; k_fill; intro X
  cases hx
  case fn =>
    obtain ⟨a, v1, v2, n, rfl, hm, h1, h2⟩ := dat2 hv
    replace hm := hl _ (tup_ne0 hm (by simp))
    cases h1
    cases h2
    refine wpAny_call ?_
    k_dflt ktr_enter
    k_steps
    (rename News _ _ _ _ => kN9)
    exact ret2 kN9 (by intro p hp; kcf_m) (by assumption)
  case name =>
    obtain ⟨a, v1, v2, v3, n, rfl, hm, h1, h2, h3⟩ := dat3 hv
    replace hm := hl _ (tup_ne0 hm (by simp))
    cases h1
    cases h2
    refine wpAny_call ?_
    k_dflt ktr_enter
    k_steps
    (rename News _ _ _ _ => kN9)
    exact ret2 kN9 (by intro p hp; kcf_m) (by assumption)
  case typ =>
    obtain ⟨a, v1, v2, n, rfl, hm, h1, h2⟩ := dat2 hv
    replace hm := hl _ (tup_ne0 hm (by simp))
    cases h1
    obtain ⟨b, w1, w2, w3, n, rfl, hm2, k1, k2, k3⟩ := dat3 h2
    replace hm2 := hl _ (tup_ne0 hm2 (by simp))
    cases k1
    cases k2
    refine wpAny_call ?_
    k_dflt ktr_enter
    k_steps
    (rename News _ _ _ _ => kN9)
    exact ret2 kN9 (by intro p hp; kcf_m) (by assumption)
section
variable {prog : Program} {w : World} {A : Around} {E : Value → Shared → Prop} {s : Shared} {h₀ : Heap} {L a : Addr} {news : List (Addr × Obj)}
theorem tup_head {value slice : PySem.Expr} {vs : List Value} {n : Nat} {u : Tok} {v : Value} {Q : Value → Shared → Prop} (N : News h₀ L s.heap news) (hm : (a, ({ cls := .type "tuple", data := .seq (v :: vs).toArray n } : Obj)) ∈ news)
    (h : Q v s) (hs : subscripted slice false (.ref a) (.int 0 u) = operate [.ref a, .int 0 u] (getItem (.ref a) (.int 0 u)) := by with_unfolding_all rfl) :
    wpAny (model prog w) A (subscriptTail value slice (.ref a) (.int 0 u)) Q E s :=
  item_tupleT (j := 0) (News.isTup N hm) (by decide) (by decide) (by unfold seqIndex?; simp) rfl h hs
end
theorem kindName {w : World} {p : Program} {loose : List Str} {mean : ExcName → Option Value} {mg mb : Str → Option Value} {dp un : Nat} {gd : Option (List Code)} {cn : Str} {cs : Scope} {aa : Addr} {ccd : Value} {cl : List (Str × Addr)} {outer : List Env} {A₀ : Around} {base h₀ : Heap} {L : Addr} {m : Str → Option Value}
    {news l : List (Addr × Obj)} {s : Shared} {v : Value} {d : Dat} {ds : List Dat} {x : Str} {Q E : Value → Shared → Prop}
    (B : Below A₀ base outer h₀) (F : Fr h₀ L s.heap m) (X : (hd.heap_1_39 w.params).In h₀) (N : News h₀ L s.heap news) (T : Top p loose mean mg mb h₀) (hk : cs.kind = .function)
    (hl : ∀ p ∈ l, p ∈ news) (hv : DatIn (E0 :: l) v (.tuple [S "tuple", .tuple (d :: ds), .none])) (hx : TName d x) (hdp : dp < 470) (hun : un < 1800)
    (ret : ∀ t h' tk', Fr h₀ L h' m → News h₀ L h' news → Q (.str x t) { s with heap := h', toks := tk' }) :
    wpAny (model PySem.Challenge.rw_pc0201_01.row.prog w) (ktrTop dp un gd cn cs L aa ccd cl outer) (call (.ref 262) [v]) Q E s := by
  (k_with "call ref" => (((with_reducible show wpAny _ _ (call (Value.ref 139) _) _ _ _); k_here; k_dflt (refine' tableName ?zq_kB ?zq_kF ?zq_kX ?zq_kN ?zq_kT ?zq_kK ?zq_kl ?zq_kv ?zq_kt ?zq_kd ?zq_ku ?_; (case zq_kB => k_asm); (case zq_kF => k_asm); (case zq_kX => k_asm); (case zq_kN => k_asm); (case zq_kT => k_asm); (case zq_kK => first | exact rfl | assumption); (case zq_kv => assumption); (case zq_kl => (intro p hp; (first | kcf_m | (have hp9 := (by assumption : ∀ q ∈ _, q ∈ _) p hp; kcf_m)))); (case zq_kt => assumption); (case zq_kd => ktr_room); (case zq_ku => first | decide | ktr_units); k_whole; intro t' h' tk' F' N'; (try dsimp only); (try k_sweep)))))
  (k_with "subscriptTail" => ((k_here; (with_reducible show wpAny _ _ (subscriptTail _ _ (Value.ref _) (Value.int 0 _)) _ _ _); k_dflt (refine' tup_head ?zq_k1 ?zq_k2 ?_ ?zq_k6; (case zq_k1 => k_asm); (case zq_k2 => assumption); (case zq_k6 => with_unfolding_all rfl); k_whole))))
  revert X; k_fill; intro X
  obtain ⟨a, v1, v2, v3, n, rfl, hm, h1, h2, h3⟩ := dat3 hv
  replace hm := hl _ (tup_ne0 hm (by simp))
  cases h1
  cases h3
  cases h2 with | tuple hm2 h4 =>
  cases h4 with | cons h5 h6 =>
  replace hm2 := hl _ (tup_ne0 hm2 (by simp))
  refine wpAny_call ?_
  k_dflt ktr_enter
  k_steps
  exact ret _ _ _ (by assumption) (by assumption)
end
section
open PySem.Calls PySem.Builtin
/-- an exception with its dict, and the entry of its way -/
def Fly (base : Heap) (l : List Env) (e : Addr) (cls : Value) (dd : Option Addr) (fl : Value) (h : Heap) : Prop :=
  base.StaysIn h ∧ base.get? e = none ∧ h.FunFrames base l ∧
    ∃ oe vs T oT ts, h.get? e = some oe ∧ oe.cls = cls ∧ oe.dict = dd ∧ oe.data = .fields vs ∧ vs[1]? = some (.ref T) ∧ base.get? T = none ∧ (@Ne Nat T e) ∧ h.get? T = some oT ∧ oT.data = .fields ts ∧ ts[3]? = some fl
theorem dict_mf (o : Obj) (f : Array Value → Array Value) : (o.mapFields f).dict = o.dict := by
  unfold Obj.mapFields; split <;> rfl
theorem put_T {h₁ : Heap} {e : Addr} {oe oT : Obj} {vs : Array Value} (he : h₁.get? e = some oe) (hd : oe.data = .fields vs) (hT : oT.isFreed = false) :
    ∃ h', h' = (h₁.push oT).update e (Obj.mapFields (·.setIfInBounds 1 (Value.ref h₁.objs.size))) ∧ h'.get? e = some (oe.mapFields (·.setIfInBounds 1 (Value.ref h₁.objs.size))) ∧ h'.get? h₁.objs.size = some oT ∧
      ∀ b o, b ≠ e → h₁.get? b = some o → h'.get? b = some o := by
  have hTe : h₁.objs.size ≠ e := Nat.ne_of_gt (Heap.lt_size he)
  refine ⟨_, rfl, Heap.get?_update_self _ (Heap.get?_push_of_some oT he) (Obj.isFreed_of_fields (Obj.data_mapFields hd _)), ?_, fun b o hb hg => ?_⟩
  · rw [Heap.get?_update_other _ _ (Ne.symm hTe)]
    exact Heap.get?_push_size h₁ hT
  · rw [Heap.get?_update_other _ _ (Ne.symm hb)]
    exact Heap.get?_push_of_some _ hg
section
variable {M : Model} {A : Around} {E : Value → Shared → Prop} {s : Shared} {base : Heap} {env : Env} {outer l : List Env} {L e : Addr} {cls : Value} {dd : Option Addr} {fl : Value} {Q : Unit → Shared → Prop}
theorem entry_put {oe : Obj} {vs : Array Value} {head : Value} {hadNext : Bool} (hfr : A.frames = some (env :: outer)) (hf : env.frame = some L) (hl : s.heap.FunFrames base (env :: outer)) (hkb : base.StaysIn s.heap) (hen : base.get? e = none)
    (he : s.heap.get? e = some oe) (hd : oe.data = .fields vs) (hsz : 1 < vs.size) (h : ∀ h', Fly base (env :: outer) e oe.cls oe.dict (rawInt L) h' → s.heap.UpToSlots h' → Q () { s with heap := h' }) :
    wpAny M A (do let a ← frameOf env; let pl ← entryPlaceOf L hadNext; let b ← EntryCells.newEntry head a .none (rawInt L) .none pl; setField (.ref e) 1 b) Q E s := by
  have off : e ∉ (env :: outer).filterMap (·.frame) := fun hm => by
    obtain ⟨_, o, ho, hnf⟩ := hl.mem hm
    exact hnf vs (by rw [← Option.some.inj (he.symm.trans ho)]; exact hd)
  refine wpAny_bind (wpAny_frameOf_fun hfr hl hf fun h₁ hs₁ => wpAny_bind (wpAny_entryPlaceOf fun pl hpl => ?_))
  have he₁ : h₁.get? e = some oe := (hs₁.2.1 e off).trans he
  unfold EntryCells.newEntry newFields
  refine wpAny_bind (wpAny_newObj_type ?_ (hpl.sizeOk5 _ _ _ _ _))
  obtain ⟨h', eh', q1, q2, q3⟩ := put_T (oT := { cls := .type "traceback", dict := none, data := .fields ([head, .ref L, .none, rawInt L, .none] ++ (if pl.isEmpty then List.replicate 6 Value.none else pl)).toArray }) he₁ hd rfl
  refine wpAny_setField (Heap.get?_push_of_some _ he₁) hd hsz ?_
  have st1 : base.StaysIn h₁ := fun b o hbo => (hs₁.2.1 b fun hm => by rw [(hl.mem hm).1] at hbo; cases hbo).trans (hkb b o hbo)
  have ups : s.heap.UpToSlots h' := fun b o hb hnf => by
    obtain ⟨sl, hs⟩ := hs₁.2.2 b o hb
    exact ⟨sl, q3 b _ (fun q => by subst q; exact hnf vs (by rw [← Option.some.inj (he.symm.trans hb)]; exact hd)) hs⟩
  rw [eh'] at q1 q2 q3 ups
  refine h _ ⟨fun b o hbo => q3 b o (fun q => by rw [q, hen] at hbo; cases hbo) (st1 b o hbo), hen, hl.of_keeps fun b o hb hnf => ?_, ?_⟩ ups
  · obtain ⟨sl, hs⟩ := ups b o hb hnf
    exact ⟨_, hs, rfl⟩
  · exact ⟨_, _, h₁.objs.size, _, _, q1, Obj.cls_mapFields _ _, dict_mf _ _, Obj.data_mapFields hd _, by simp [hsz], st1.fresh, Nat.ne_of_gt (Heap.lt_size he₁), q2, rfl, by first | (simp; done) | (rcases hpl with rfl | ⟨_, _, _, _, _, _, _, rfl⟩ <;> simp)⟩
theorem fly_land (hx : Fly base l e cls dd fl s.heap) (h : ∀ h', Fly base l e cls dd .none h' → s.heap.UpToSlots h' → Q () { s with heap := h' }) : wpAny M A (setFlight (.ref e) none) Q E s := by
  obtain ⟨f1, f2, f3, oe, vs, T, oT, ts, he, hc, hdd, hd, h1, hT0, hTe, hT, hdT, h3⟩ := hx
  have h3s := (Array.getElem?_eq_some_iff.mp h3).1
  have oth : ∀ (f : Obj → Obj) b, b ≠ T → (s.heap.update T f).get? b = s.heap.get? b := fun f b hb => Heap.get?_update_other _ _ (Ne.symm hb)
  unfold setFlight
  refine wpAny_bind (wpAny_field he hd h1 ?_)
  rw [if_pos (show (Value.ref T != Value.none) = true from by simp)]
  have keep : ∀ (f : Obj → Obj) b o, s.heap.get? b = some o → (∀ vs, o.data ≠ .fields vs) → (s.heap.update T f).get? b = some o := fun f b o hb hnf => (oth f b fun q => by subst q; exact hnf ts (by rw [← Option.some.inj (hT.symm.trans hb)]; exact hdT)).trans hb
  refine wpAny_setField hT hdT h3s (h _ ⟨fun b o hb => (oth _ b fun q => by rw [q, hT0] at hb; cases hb).trans (f1 b o hb), f2, f3.of_keeps fun b o hb hnf => ⟨o, keep _ b o hb hnf, rfl⟩, ?_⟩ fun b o hb hnf => ⟨o.slots, keep _ b o hb hnf⟩)
  exact ⟨oe, vs, T, _, _, (oth _ e (Ne.symm hTe)).trans he, hc, hdd, hd, h1, hT0, hTe, Heap.get?_update_self _ hT (Obj.isFreed_of_fields (Obj.data_mapFields hdT _)), Obj.data_mapFields hdT _, by simp [h3s]⟩
theorem fly_first {oe : Obj} {vs : Array Value} (hfr : A.frames = some (env :: outer)) (hf : env.frame = some L) (hl : s.heap.FunFrames base (env :: outer)) (hkb : base.StaysIn s.heap) (hen : base.get? e = none)
    (he : s.heap.get? e = some oe) (hd : oe.data = .fields vs) (h1 : vs[1]? = some .none) (h : ∀ h', Fly base outer e oe.cls oe.dict .none h' → s.heap.UpToSlots h' → Q () { s with heap := h' }) : wpAny M A (leaving env (.ref e)) Q E s := by
  unfold leaving noteFrame
  simp only [hf]
  refine wpAny_bind (wpAny_bind (wpAny_field he hd h1 ?_))
  rw [if_neg (by decide)]
  refine entry_put hfr hf hl hkb hen he hd (Array.getElem?_eq_some_iff.mp h1).1 fun h₁ x₁ u₁ => fly_land x₁ fun h₂ x₂ u₂ => h h₂ ?_ (u₁.trans u₂)
  obtain ⟨a, b, ⟨_, _, c⟩, d⟩ := x₂
  exact ⟨a, b, c, d⟩
theorem fly_look (hfr : A.frames = some (env :: outer)) (hf : env.frame = some L) (hx : Fly base (env :: outer) e cls dd .none s.heap) (h : ∀ h', Fly base (env :: outer) e cls dd (rawInt L) h' → s.heap.UpToSlots h' → Q () { s with heap := h' }) :
    wpAny M A (noteFrame (.ref e) env) Q E s := by
  obtain ⟨f1, f2, f3, oe, vs, T, oT, ts, he, hc, hdd, hd, h1, hT0, hTe, hT, hdT, h3⟩ := hx
  subst hc hdd
  have oth : ∀ (f : Obj → Obj) b, b ≠ T → (s.heap.update T f).get? b = s.heap.get? b := fun f b hb => Heap.get?_update_other _ _ (Ne.symm hb)
  have keep : ∀ (f : Obj → Obj) b o, s.heap.get? b = some o → (∀ vs, o.data ≠ .fields vs) → (s.heap.update T f).get? b = some o := fun f b o hb hnf => (oth f b fun q => by subst q; exact hnf ts (by rw [← Option.some.inj (hT.symm.trans hb)]; exact hdT)).trans hb
  unfold noteFrame
  simp only [hf]
  refine wpAny_bind (wpAny_field he hd h1 ?_)
  rw [if_pos (show (Value.ref T != Value.none) = true from by simp)]
  refine wpAny_bind (wpAny_field hT hdT h3 ?_)
  rw [if_neg (show ¬ ((Value.none == rawInt L) = true) from by simp [rawInt])]
  refine wpAny_bind (wpAny_setField hT hdT (Array.getElem?_eq_some_iff.mp h3).1 ?_)
  refine entry_put hfr hf (f3.of_keeps fun b o hb hnf => ⟨o, keep _ b o hb hnf, rfl⟩) (fun b o hb => (oth _ b fun q => by rw [q, hT0] at hb; cases hb).trans (f1 b o hb)) f2 ((oth _ e (Ne.symm hTe)).trans he) hd (Array.getElem?_eq_some_iff.mp h1).1 fun h' x u => h h' x fun b o hb hnf => u b o (keep _ b o hb hnf) hnf
end
end
section
open PySem.Calls PySem.Builtin
/-- the value that a raise raises is of the law's exception class -/
def RaiseEnd (P : Params) (E : Value → Shared → Prop) (v : Value) (s : Shared) : Prop :=
  ∃ e t dd, v = .ref e ∧ (hd.heap_1_39 P).In s.heap ∧ s.heap.get? e = some (excObj 71 t dd .none) ∧ E v s
section
variable {prog : Program} {w : World} {A : Around} {E : Value → Shared → Prop} {s : Shared} {env : Env}
theorem raise_71 {P : Params} {x : PySem.Expr} {pos : Pos} {Q : Flow → Shared → Prop} (hh : A.handled = none) (h : wpAny (model prog w) A (eval x env) (RaiseEnd P E) E s) :
    wpAny (model prog w) A (exec (.Raise (some x) none pos) env) Q E s := by
  rw [arm_exec_Raise]
  show wpAny (model prog w) A (do standAt pos; raiseStmt env (some (do let v ← eval x env; standAt pos; pure v)) none) Q E s
  refine wpAny_bind (wpAny_standAt ?_)
  unfold raiseStmt
  refine wpAny_bind (wpAny_bind (wpAny_mono h (fun v s₁ h₁ => wpAny_bind (wpAny_standAt (wpAny_pure ?_))) fun _ _ x => x))
  obtain ⟨e, t, dd, rfl, X, he, hE⟩ := h₁
  obtain ⟨hp, g, d, tk, os⟩ := s₁
  obtain ⟨nm, q, N', sn, sub, ab, col, dd', k0, k1, k2, k3, k5, hC0⟩ := c71 P
  have hC := X _ _ hC0
  have hb : ((Value.ref 71) :: [Value.ref 39, .type "Exception", .type "BaseException", .type "object"]).contains (.type "BaseException") = true := by decide +kernel
  unfold excFromValue isExcClass isInstance raisedInstance
  repeat (first | refine wpAny_loadPart_at he ?_ | refine wpAny_loadPart_at hC ?_ | (refine wpAny_isSubtype_exc hC ?_; rw [hb]) | wp_step)
  unfold raiseNew
  refine wpAny_bind (wpAny_handled ?_)
  rw [hh]
  first
    | exact wpAny_throw hE
    | exact wpAny_bind (wpAny_pure (wpAny_throw hE))
end
theorem RaiseEnd.of {P : Params} {E : Value → Shared → Prop} {h₀ : Heap} {L e t : Addr} {m : Str → Option Value} {dd : Option Addr} {rest : List (Addr × Obj)} {s : Shared} (F : Fr h₀ L s.heap m) (X : (hd.heap_1_39 P).In h₀) (N : News h₀ L s.heap ((e, excObj 71 t dd .none) :: rest)) (hE : E (.ref e) s) : RaiseEnd P E (.ref e) s :=
  ⟨e, t, dd, rfl, X.keeps F.keep, (N _ (.head _)).1, hE⟩
def RaisedD (base : Heap) (l : List Env) (e : Addr) (cls : Value) (dd : Option Addr) (news : List (Addr × Obj)) (h : Heap) : Prop :=
  ∃ B, base.StaysIn B ∧ (∀ q ∈ news, B.get? q.1 = some q.2 ∧ base.get? q.1 = none) ∧ Fly B l e cls dd .none h
theorem leaveD {M : Model} {A : Around} {E : Value → Shared → Prop} {s' : Shared} {base g : Heap} {outer : List Env} {L e t C : Addr} {m : Str → Option Value} {env : Env} {Q : Unit → Shared → Prop} {news : List (Addr × Obj)} {dd : Option Addr}
    (K : Below A base outer g) (F : Fr g L s'.heap m) (N : News g L s'.heap ((e, excObj C t dd .none) :: news)) (off : Far e news) (hf : env.frame = some L) (hk : env.scope.kind = .function)
    (hQ : ∀ h', RaisedD base outer e (.ref C) dd news h' → g.UpToSlots h' → Q () { s' with heap := h' }) : wpAny M (A.deeper env) (leaving env (.ref e)) Q E s' := by
  have K' := pushX K F hf hk
  have hin : ∀ env' ∈ (env :: outer), ∀ b, env'.frame = some b → b ∈ e :: (env :: outer).filterMap (·.frame) := fun env' he b hb => .tail _ (List.mem_filterMap.mpr ⟨env', he, hb⟩)
  have st : base.StaysIn (hideAll s'.heap (e :: (env :: outer).filterMap (·.frame))) := fun b o q => hideAll_get _ (K'.stays b o q) fun hm => by
    rcases List.mem_cons.mp hm with rfl | hm
    · have := fresh_of_stays K.stays (N _ (.head _)).2.2
      rw [this] at q; cases q
    · rw [(K'.frames.mem hm).1] at q; cases q
  have hl : ∀ q ∈ news, (hideAll s'.heap (e :: (env :: outer).filterMap (·.frame))).get? q.1 = some q.2 ∧ base.get? q.1 = none := fun q hq => by
    have Nq := N q (.tail _ hq)
    refine ⟨hideAll_get _ Nq.1 fun hm => ?_, fresh_of_stays K.stays Nq.2.2⟩
    rcases List.mem_cons.mp hm with hm | hm
    · exact off q hq hm
    · obtain ⟨env', he, hf'⟩ := List.mem_filterMap.mp hm
      rcases List.mem_cons.mp he with rfl | he
      · rw [hf] at hf'
        exact Nq.2.1 (Option.some.inj hf').symm
      · obtain ⟨o, ho, _⟩ := (K.frames.mem (List.mem_filterMap.mpr ⟨env', he, hf'⟩)).2
        rw [Nq.2.2] at ho; cases ho
  refine fly_first K'.stack hf (funFrames_hide K'.frames hin) (fun b o q => of_hideAll _ q) (hideAll_none _ (.head _)) (N _ (.head _)).1 rfl rfl fun h' x u => hQ h' ⟨_, st, hl, x⟩ ((Heap.UpToSlots.of_keeps F.keep).trans u)
theorem fly_base {base B h : Heap} {l : List Env} {e : Addr} {cls fl : Value} {dd : Option Addr} (k : base.StaysIn B) (x : Fly B l e cls dd fl h) : Fly base l e cls dd fl h := by
  obtain ⟨f1, f2, f3, oe, vs, T, oT, ts, a1, a2, a3, a4, a5, a6, a7⟩ := x
  exact ⟨fun b o q => f1 b o (k b o q), fresh_of_stays k f2, funFrames_base k f3, oe, vs, T, oT, ts, a1, a2, a3, a4, a5, fresh_of_stays k a6, a7⟩
section
variable {prog : Program} {w : World} {A₀ : Around} {E : Value → Shared → Prop} {s' : Shared} {h₀ h : Heap} {outer : List Env} {L aa e dx : Addr} {m : Str → Option Value} {cn : Str} {cs : Scope} {ccd : Value} {cl : List (Str × Addr)}
  {n x : Str} {b₀ : Stmt} {suite : List Stmt} {pos np : Pos} {rest : List ExceptHandler} {Q : Flow → Shared → Prop} {news : List (Addr × Obj)} {p : Program} {loose : List Str} {mg mb : Str → Option Value}
theorem caughtD (K : Below A₀ h₀ outer h₀) (F : Fr h₀ L h m) (hsm : h.UpToSlots s'.heap) (R : RaisedD h₀ (envX cn cs L aa ccd cl :: outer) e (.ref 71) (some dx) news s'.heap)
    (X : (hd.heap_1_39 w.params).In h₀) (T : TopRead p loose mg mb h₀) (hx : nsIn (hd.heap_1_39 w.params) mainGlobals x = some (some (.ref 71)))
    (k : ∀ h' oe tk, Fr h₀ L h' (fun y => if y = n then some (.ref e) else m y) → News h₀ L h' ((e, oe) :: news) → oe.cls = .ref 71 → oe.dict = some dx → notCls oe = true →
      wpAny (model prog w) ((A₀.deeper (envX cn cs L aa ccd cl)).mark (some (.ref e))) (execs (b₀ :: suite) (envX cn cs L aa ccd cl))
        (fun f s₄ => wpAny (model prog w) (A₀.deeper (envX cn cs L aa ccd cl)) (do bindName (envX cn cs L aa ccd cl) n .none; unbindBehindTheSuite (envX cn cs L aa ccd cl) n pos) (fun _ s₅ => Q f s₅) E s₄)
        (AsSuiteRaised (model prog w) ((A₀.deeper (envX cn cs L aa ccd cl)).mark (some (.ref e))) (envX cn cs L aa ccd cl) n pos (notedBy (model prog w) ((A₀.deeper (envX cn cs L aa ccd cl)).mark (some (.ref e))) (envX cn cs L aa ccd cl) (cameBackBy (model prog w) (A₀.deeper (envX cn cs L aa ccd cl)) (envX cn cs L aa ccd cl) E)))
        { s' with heap := h', toks := tk })
    (hk : cs.kind = .function := by rfl) (hlo : (envX cn cs L aa ccd cl).kindOf n = some .local := by rfl) (hg : (envX cn cs L aa ccd cl).kindOf x = some .globalImplicit := by rfl) (hd' : (x == ("__debug__" : Str)) = false := by decide) :
    wpAny (model prog w) (A₀.deeper (envX cn cs L aa ccd cl)) (noteFrame (.ref e) (envX cn cs L aa ccd cl))
      (fun _ s₂ => wpAny (model prog w) (A₀.deeper (envX cn cs L aa ccd cl)) (setFlight (.ref e) none) (fun _ s₃ =>
        wpAny (model prog w) (A₀.deeper (envX cn cs L aa ccd cl)) (handleBy (.ref e) (envX cn cs L aa ccd cl) (.ExceptHandler (some (.Name x np)) (some n) (b₀ :: suite) pos :: rest)) Q E s₃) E s₂) E s' := by
  obtain ⟨B, hB, hl, hfl⟩ := R
  have hL : B.get? L = none := by
    obtain ⟨_, _, ⟨_, ⟨L', _, hf, hn', _⟩, _⟩, _⟩ := hfl
    obtain rfl : L = L' := Option.some.inj hf
    exact hn'
  refine fly_look (Around.frames_deeper K.stack) rfl hfl fun h₄ x₄ u₄ => fly_land x₄ fun h₅ x₅ u₅ => ?_
  have F₅ := F.of_stays (fly_base hB x₅).1 ((hsm.trans u₄).trans u₅)
  obtain ⟨nm, q, N', sn, sub, ab, col, dd', k0, k1, k2, k3, k5, hC0⟩ := c71 w.params
  have hC := X.keeps F₅.keep _ _ hC0
  refine wpAny_handleBy_cons (codeAny_handlers_test (nameX_K F₅ X T hx ?_ hk hg hd')) (by intro q; cases q)
  obtain ⟨_, _, _, oe, _, _, _, _, he, hc, _⟩ := id x₅
  obtain ⟨hp, g, d, tk, os⟩ := s'
  refine wpAny_excMatches_sub_self hC he hc (by decide +kernel) (codeAny_handlers_suite_as ?_)
  refine fly_land x₅ fun h₆ x₆ u₆ => ?_
  have F₆ := F₅.of_stays (fly_base hB x₆).1 u₆
  obtain ⟨f1, f2, _, oe, vs, _, _, _, he, hc, hdd, hdt, _⟩ := id x₆
  have N₆ : News h₀ L h₆ news := fun q hq => ⟨f1 _ _ (hl q hq).1, (fun z => by have := (hl q hq).1; rw [z, hL] at this; cases this), (hl q hq).2⟩
  have N₇ := News.more F₆ N₆ he (fun es n q => by rw [hdt] at q; cases q) (fresh_of_stays hB f2)
  exact storeX_L F₆ N₇ (fun h₇ F₇ N₇ => k h₇ oe _ F₇ N₇ hc hdd (by unfold notCls; rw [hdt])) hk hlo
end
end
section
open PySem.Calls PyProof.V PySem.Spec
section
variable {h : Heap} {l : List (Addr × Obj)}
mutual
theorem rd_in (G : ∀ p ∈ l, h.get? p.1 = some p.2) : ∀ {v : Value} {d : Dat} (n : Nat), DatIn l v d → okD n d = true → ∃ as, Reads h v (kqdP d) as
  | _, _, _, .none, _ => ⟨_, Reads.none⟩
  | _, _, _, .bool b, _ => ⟨_, Reads.bool b⟩
  | _, _, _, .int i t, _ => ⟨_, Reads.int i t⟩
  | _, _, _, .str x t, _ => ⟨_, Reads.str x t⟩
  | _, _, n, .bytes _ _, hk => by cases n <;> simp [okD] at hk
  | _, _, 0, .tuple _ _, hk => by simp [okD] at hk
  | _, _, 0, .list _ _, hk => by simp [okD] at hk
  | _, _, n + 1, .list _ _, hk => by simp [okD] at hk
  | _, _, n + 1, .tuple hm r, hk => by
    obtain ⟨as, q⟩ := rd_all G n r (by simpa [okD] using hk)
    rw [kqdP]
    exact ⟨as, reads_tuple_at (G _ hm) rfl rfl (by simpa using q)⟩
theorem rd_all (G : ∀ p ∈ l, h.get? p.1 = some p.2) : ∀ {vs : List Value} {ds : List Dat} (n : Nat), DatAll l vs ds → (∀ d ∈ ds, okD n d = true) → ∃ as, ReadsAll h vs (kqdPs ds) as
  | _, _, _, .nil, _ => ⟨_, ReadsAll.nil⟩
  | _, _, n, .cons hd r, hk => by
    obtain ⟨as, q⟩ := rd_in G n hd (hk _ (.head _))
    obtain ⟨bs, p⟩ := rd_all G n r fun d hm => hk d (.tail _ hm)
    rw [kqdPs]
    exact ⟨_, ReadsAll.cons q p⟩
end
end
theorem okD_mono : ∀ (n m : Nat) (d : Dat), n ≤ m → okD n d = true → okD m d = true := by
  intro n
  induction n with
  | zero => intro m d _ h; cases d <;> cases m <;> simp_all [okD]
  | succ n ih =>
    intro m d hm h
    obtain ⟨m, rfl⟩ : ∃ k, m = k + 1 := ⟨m - 1, by omega⟩
    cases d with
    | tuple ds =>
      simp only [okD, List.all_eq_true] at h ⊢
      exact fun x hx => ih m x (by omega) (h x hx)
    | _ => simp_all [okD]
theorem ok_lay : ∀ (n : Nat) (d : Dat), okD n d = true → (kqdP d).canLay0 = true ∧ (kqdP d).depth ≤ n := by
  have all : ∀ (n : Nat), (∀ d, okD n d = true → (kqdP d).canLay0 = true ∧ (kqdP d).depth ≤ n) → ∀ ds : List Dat, (∀ d ∈ ds, okD n d = true) → PyData.canLayAll0 (kqdPs ds) = true ∧ PyData.depthAll (kqdPs ds) ≤ n := by
    intro n ih ds
    induction ds with
    | nil => intro _; simp [kqdPs, PyData.canLayAll0, PyData.depthAll]
    | cons d ds hi =>
      intro h
      have h1 := ih d (h d (.head _))
      have h2 := hi fun e he => h e (.tail _ he)
      simp only [kqdPs, PyData.canLayAll0, PyData.depthAll, h1.1, h2.1, Bool.and_self, true_and]
      have a1 := h1.2
      have a2 := h2.2
      omega
  intro n
  induction n with
  | zero =>
    intro d h
    cases d <;> simp_all [okD, kqdP, PyData.canLay0, PyData.depth]
  | succ n ih =>
    intro d h
    cases d with
    | none => simp [kqdP, PyData.canLay0, PyData.depth]
    | bool b => simp [kqdP, PyData.canLay0, PyData.depth]
    | int i => simp [kqdP, PyData.canLay0, PyData.depth]
    | str x => simp [okD] at h; simp [kqdP, PyData.canLay0, PyData.depth, h]
    | bytes b => simp [okD] at h
    | tuple ds =>
      have q := all n ih ds (by simpa [okD] using h)
      have q2 := q.2
      simp only [kqdP, PyData.canLay0, PyData.depth, q.1, true_and]
      omega
    | list ds => simp [okD] at h
theorem ok_layL {ds : List Dat} (h : ∀ d ∈ ds, okD 12 d = true) : PyData.canLayAll0 (kqdPs ds) = true ∧ PyData.depthAll (kqdPs ds) ≤ 13 := by
  have l := ok_lay 13 (.tuple ds) (by simpa [okD] using h)
  rw [kqdP] at l
  simp only [PyData.canLay0, PyData.depth] at l
  have l2 := l.2
  exact ⟨l.1, by omega⟩
mutual
theorem eqv_self : ∀ (n : Nat) (d : Dat), okD n d = true → PyData.eqv (kqdP d) (kqdP d) = true
  | _, .none, _ => by simp [kqdP, PyData.eqv]
  | _, .bool b, _ => by simp [kqdP, PyData.eqv]
  | _, .int i, _ => by simp [kqdP, PyData.eqv]
  | _, .str x, _ => by simp [kqdP, PyData.eqv]
  | n, .bytes _, h => by cases n <;> simp [okD] at h
  | n, .list _, h => by cases n <;> simp [okD] at h
  | 0, .tuple _, h => by simp [okD] at h
  | n + 1, .tuple ds, h => by
    simp only [kqdP, PyData.eqv]
    exact eqvs_self n ds (by simpa [okD] using h)
theorem eqvs_self : ∀ (n : Nat) (ds : List Dat), (∀ d ∈ ds, okD n d = true) → PyData.eqvAll (kqdPs ds) (kqdPs ds) = true
  | _, [], _ => by simp [kqdPs, PyData.eqvAll]
  | n, d :: ds, h => by
    simp only [kqdPs, PyData.eqvAll, Bool.and_eq_true]
    exact ⟨eqv_self n d (h _ (.head _)), eqvs_self n ds fun x hx => h x (.tail _ hx)⟩
end
theorem getE {P : Params} {h₀ h : Heap} {L : Addr} {m : Str → Option Value} {news : List (Addr × Obj)} (F : Fr h₀ L h m) (X : (hd.heap_1_39 P).In h₀) (N : News h₀ L h news) : ∀ p ∈ E0 :: news, h.get? p.1 = some p.2 := fun p hp => by
  rcases List.mem_cons.mp hp with rfl | hp
  · exact X.keeps F.keep _ _ (e0_K P)
  · exact (N _ hp).1
section
variable {prog : Program} {w : World} {A : Around} {E : Value → Shared → Prop} {s : Shared} {n₁ n₂ : List (Addr × Obj)} {a b : Value} {d : Dat} {Q : Value → Shared → Prop}
theorem sh_of {d : Dat} (h : okD 12 d = true) : SeqAt.shaped (kqdP d) = true := by
  have la := ok_lay 12 d h
  unfold SeqAt.shaped; rw [la.1, Bool.true_and]; exact decide_eq_true (Nat.le_trans la.2 (by decide))
theorem neD (Ga : ∀ p ∈ n₁, s.heap.get? p.1 = some p.2) (Gb : ∀ p ∈ n₂, s.heap.get? p.1 = some p.2) (Da : DatIn n₁ a d) (Db : DatIn n₂ b d) (hd : okD 12 d = true) (hu : A.units + 64 < cLine) (h : Q (.bool false) s) : wpAny (model prog w) A (compareOp .NotEq a b) Q E s := by
  obtain ⟨as, ra⟩ := rd_in Ga 12 Da hd
  obtain ⟨bs, rb⟩ := rd_in Gb 12 Db hd
  exact ne_dataH ra rb (sh_of hd) (sh_of hd) hu (by rw [eqv_self 12 d hd]; exact h)
end
section
variable {prog : Program} {w : World} {A : Around} {E : Value → Shared → Prop} {s : Shared} {n₁ n₂ : List (Addr × Obj)} {a b : Addr} {xs ys : List Value} {ka kb : Nat} {ds : List Dat} {Q : Value → Shared → Prop}
theorem shL_of {ds : List Dat} (h : ∀ d ∈ ds, okD 12 d = true) : SeqAt.shaped (.list (kqdPs ds)) = true := by
  have la := ok_layL h
  unfold SeqAt.shaped
  simp only [PyData.canLay0, PyData.depth, la.1, Bool.true_and]
  have := la.2
  exact decide_eq_true (by omega)
theorem eqL (Ga : ∀ p ∈ n₁, s.heap.get? p.1 = some p.2) (Gb : ∀ p ∈ n₂, s.heap.get? p.1 = some p.2) (ma : (a, W.listOf xs.toArray ka) ∈ n₁) (mb : (b, W.listOf ys.toArray kb) ∈ n₂) (Da : DatAll n₁ xs ds) (Db : DatAll n₂ ys ds) (hd : ∀ d ∈ ds, okD 12 d = true) (hu : A.units + 64 < cLine) (h : Q (.bool true) s) : wpAny (model prog w) A (compareOp .Eq (.ref a) (.ref b)) Q E s := by
  obtain ⟨as, ra⟩ := rd_all Ga 12 Da hd
  obtain ⟨bs, rb⟩ := rd_all Gb 12 Db hd
  refine eq_dataH (da := .list (kqdPs ds)) (db := .list (kqdPs ds)) (reads_list_at (Ga _ ma) rfl rfl (by simpa using ra)) (reads_list_at (Gb _ mb) rfl rfl (by simpa using rb)) (shL_of hd) (shL_of hd) hu ?_
  rw [show PyData.eqv (.list (kqdPs ds)) (.list (kqdPs ds)) = true by simp only [PyData.eqv]; exact eqvs_self 12 ds hd]; exact h
theorem neL (Ga : ∀ p ∈ n₁, s.heap.get? p.1 = some p.2) (Gb : ∀ p ∈ n₂, s.heap.get? p.1 = some p.2) (ma : (a, W.listOf xs.toArray ka) ∈ n₁) (mb : (b, W.listOf ys.toArray kb) ∈ n₂) (Da : DatAll n₁ xs ds) (Db : DatAll n₂ ys ds) (hd : ∀ d ∈ ds, okD 12 d = true) (hu : A.units + 64 < cLine) (h : Q (.bool false) s) : wpAny (model prog w) A (compareOp .NotEq (.ref a) (.ref b)) Q E s := by
  obtain ⟨as, ra⟩ := rd_all Ga 12 Da hd
  obtain ⟨bs, rb⟩ := rd_all Gb 12 Db hd
  refine ne_dataH (da := .list (kqdPs ds)) (db := .list (kqdPs ds)) (reads_list_at (Ga _ ma) rfl rfl (by simpa using ra)) (reads_list_at (Gb _ mb) rfl rfl (by simpa using rb)) (shL_of hd) (shL_of hd) hu ?_
  rw [show PyData.eqv (.list (kqdPs ds)) (.list (kqdPs ds)) = true by simp only [PyData.eqv]; exact eqvs_self 12 ds hd]; exact h
end
end
section
section
variable {prog : Program} {w : World} {A : Around} {E : Value → Shared → Prop} {s : Shared} {h₀ : Heap} {L l b : Addr} {m : Str → Option Value} {news : List (Addr × Obj)}
theorem addTT {v : Value} {ws : List Value} {n1 n2 : Nat} {Q : Value → Shared → Prop} (F : Fr h₀ L s.heap m) (N : News h₀ L s.heap news) (m1 : (l, ({ cls := .type "tuple", data := .seq #[v] n1 } : Obj)) ∈ news) (m2 : (b, ({ cls := .type "tuple", data := .seq ws.toArray n2 } : Obj)) ∈ news) (hsz : ws.length ≤ 1000)
    (h : ∀ r n add h', Fr h₀ L h' m → News h₀ L h' (news ++ add) → (∀ p ∈ add, (@Eq Nat p.1 l) ∨ Far p.1 news) → (r, ({ cls := .type "tuple", data := .seq (v :: ws).toArray n } : Obj)) ∈ add → Q (.ref r) { s with heap := h' }) : wpAny (model prog w) A (binaryOp .Add (.ref l) (.ref b)) Q E s := by
  have t1 := News.isTup N m1
  have t2 := News.isTup N m2
  cases ws with
  | nil =>
    refine kde_addT1 F N t1 t2 (by simp) (by simp) (by simp) ?_
    refine h _ n1 [(l, { cls := .type "tuple", data := .seq #[v] n1 })] _ F (fun p hp => ?_) (fun p hp => ?_) (.head _)
    · rcases List.mem_append.mp hp with hp | hp
      · exact N p hp
      · rw [List.mem_singleton.mp hp]; exact N _ m1
    · rw [List.mem_singleton.mp hp]; exact .inl rfl
  | cons x xs =>
    refine kde_addT (zs := v :: x :: xs) F N t1 t2 (by simp) (by simp) (by simp only [List.length_cons, List.length_nil] at *; omega) (by simp) ?_
    intro D h' F' N' l1
    refine h D 0 [(D, { cls := .type "tuple", data := .seq (v :: x :: xs).toArray })] h' F' (fun p hp => N' p ?_) (fun p hp => ?_) (.head _)
    · rcases List.mem_append.mp hp with hp | hp
      · exact .tail _ hp
      · rw [List.mem_singleton.mp hp]; exact .head _
    · rw [List.mem_singleton.mp hp]; exact .inr (far_of l1)
theorem offOrA {d x : Addr} {o : Obj} {l add : List (Addr × Obj)} (h : ∀ p ∈ add, (@Eq Nat p.1 x) ∨ Far p.1 l) (hx : (@Ne Nat x d)) (hm : (d, o) ∈ l) : ∀ p ∈ add, p.1 ≠ d := fun p hp => by
  rcases h p hp with e | e
  · intro q; exact hx (e ▸ q)
  · exact Ne.symm (e _ hm)
end
theorem farNe {a d : Addr} {o : Obj} {l : List (Addr × Obj)} (h : Far d l) (hm : (a, o) ∈ l) : (@Ne Nat a d) := h _ hm
theorem farNe' {a d : Addr} {o : Obj} {l : List (Addr × Obj)} (h : Far d l) (hm : (a, o) ∈ l) : (@Ne Nat d a) := Ne.symm (h _ hm)
theorem offFarA {d : Addr} {o : Obj} {l add : List (Addr × Obj)} (h : ∀ p ∈ add, Far p.1 l) (hm : (d, o) ∈ l) : ∀ p ∈ add, p.1 ≠ d := fun p hp => Ne.symm (h p hp _ hm)
theorem farCons {a x : Addr} {o : Obj} {l : List (Addr × Obj)} (h : (@Ne Nat a x)) (t : Far a l) : Far a ((x, o) :: l) := fun q hq => by
  rcases List.mem_cons.mp hq with rfl | hq
  · exact Ne.symm h
  · exact t q hq
theorem farAll {src tl : Addr} {o1 o2 : Obj} {rest add : List (Addr × Obj)} (h : ∀ p ∈ add, (@Ne Nat p.1 src) ∧ (@Ne Nat p.1 tl) ∧ Far p.1 rest) : ∀ p ∈ add, Far p.1 ((src, o1) :: (tl, o2) :: rest) := fun p hp =>
  farCons (h p hp).1 (farCons (h p hp).2.1 (h p hp).2.2)
theorem farAll1 {src : Addr} {o1 : Obj} {rest add : List (Addr × Obj)} (h : ∀ p ∈ add, (@Ne Nat p.1 src) ∧ Far p.1 rest) : ∀ p ∈ add, Far p.1 ((src, o1) :: rest) := fun p hp => farCons (h p hp).1 (h p hp).2
theorem farLts {l add : List (Addr × Obj)} (h : ∀ p ∈ add, AllLt p.1 l) : ∀ p ∈ add, Far p.1 l := fun p hp => far_lt (h p hp)
theorem fxAll {pre add1 add8 : List (Addr × Obj)} {hx tl : Addr} {vv kv : Value} {dv dk : Dat} {ts vvs kvs : List Value} {dvs dks ks es : List Dat} {n : Nat} (hT : ThingAll ((pre ++ add1) ++ add8) ts (ks ++ es)) (hH : HeapIn (pre ++ add1) hx tl) (hG : Good ks dv dk) (hv : DatIn add1 vv dv) (hk : DatIn add1 kv dk) (hdv : DatAll add8 vvs dvs) (hdk : DatAll add8 kvs dks) (hg : GoodAll (ks ++ es) dvs dks) (he : ks.length ≤ 1) (hes : es.length ≤ n) (hn : n ≤ 6) :
    ∃ FX KS, (∀ p ∈ FX, p ∈ (pre ++ add1) ++ add8) ∧ HeapIn FX hx tl ∧ ThingAll FX ts KS ∧ KS.length < 100 ∧ DatIn FX vv dv ∧ Good KS dv dk ∧ DatIn FX kv dk ∧ DatAll FX vvs dvs ∧ DatAll FX kvs dks ∧ GoodAll KS dvs dks :=
  ⟨_, _, fun p hp => hp, hH.up fun p hp => List.mem_append_left _ hp, hT, by rw [List.length_append]; omega, hv.mono fun p hp => List.mem_append_left _ (List.mem_append_right _ hp), hG.mono, hk.mono fun p hp => List.mem_append_left _ (List.mem_append_right _ hp), hdv.mono fun p hp => List.mem_append_right _ hp, hdk.mono fun p hp => List.mem_append_right _ hp, hg⟩
theorem memTrans {a b c : List (Addr × Obj)} (h : ∀ p ∈ a, p ∈ b) (t : ∀ p ∈ b, p ∈ c) : ∀ p ∈ a, p ∈ c := fun p hp => t p (h p hp)
end
section
/-- the ledger but for one entry under a name of its own -/
theorem pack {h₀ h : Heap} {L a : Addr} {o : Obj} {big rest : List (Addr × Obj)} {G : Prop} (N : News h₀ L h big) (D : Del a o big rest)
    (k : ∀ r, News h₀ L h ((a, o) :: r) → (∀ p ∈ r, p.1 ≠ a) → (∀ p ∈ rest, p ∈ r) → G) : G :=
  k rest (fun p hp => N p (D.sub p hp)) D.off fun _ hp => hp
theorem pack3 {h₀ h : Heap} {L a b c e : Addr} {n : Nat} {o : Obj} {big rest : List (Addr × Obj)} {G : Prop} (N : News h₀ L h big) (hm : (e, ({ cls := .type "tuple", data := .seq #[.ref a, .ref b, .ref c] n } : Obj)) ∈ big) (D : Del c o big rest)
    (k : ∀ r, News h₀ L h ((c, o) :: r) → (∀ p ∈ r, p.1 ≠ c) → (∀ p ∈ rest, p ∈ r) → G) : G := pack N D k
theorem MethAt.up {l l' : List (Addr × Obj)} {x nm : Addr} {b : Bool} (h : MethAt l x nm b) (s : ∀ p ∈ l, p ∈ l') : MethAt l' x nm b := by
  obtain ⟨d, n, h1, t1, v1, h2, t2, v2, h3, t3, v3, h4, t4, h5, t5, h6, t6, v6, h7, t7, v7, h8, t8, v8, h9, t9, v9, a, b⟩ := h
  exact ⟨d, n, h1, t1, v1, h2, t2, v2, h3, t3, v3, h4, t4, h5, t5, h6, t6, v6, h7, t7, v7, h8, t8, v8, h9, t9, v9, s _ a, s _ b⟩
theorem One.up {w : World} {l l' : List (Addr × Obj)} {many : Nat} {r : Addr} (h : One w l many r) (s : ∀ p ∈ l, p ∈ l') : One w l' many r := by
  obtain ⟨t, n, x, st, nm, b, names, nn, tn, ts, ni, i, ti, tk, o, a1, a2, a3, a4, a5, a6, a7, a8, a9⟩ := h
  exact ⟨t, n, x, st, nm, b, names, nn, tn, ts, ni, i, ti, tk, o, s _ a1, a2.up s, s _ a3, a4, a5, s _ a6, a7, a8, s _ a9⟩
/-- the answer, and the word that goes with it -/
def AnsW (w : World) (l : List (Addr × Obj)) (many : Nat) (r : Addr) (x : Str) : Prop :=
  (∃ t n, (r, ({ cls := .type "tuple", data := .seq #[.str (Str.ofString "none") t] n } : Obj)) ∈ l ∧ x = Str.ofString "MethodError") ∨
  (∃ t n v, (r, ({ cls := .type "tuple", data := .seq #[.str (Str.ofString "many") t, v] n } : Obj)) ∈ l ∧ x = Str.ofString "AmbiguousError") ∨ (One w l many r ∧ x = Str.ofString "")
theorem Ans.up {w : World} {l l' : List (Addr × Obj)} {many : Nat} {r : Addr} (h : Ans w l many r) (s : ∀ p ∈ l, p ∈ l') : Ans w l' many r := by
  rcases h with ⟨t, n, h⟩ | ⟨t, n, v, h⟩ | h
  · exact .inl ⟨t, n, s _ h⟩
  · exact .inr (.inl ⟨t, n, v, s _ h⟩)
  · exact .inr (.inr (h.up s))
theorem AnsW.up {w : World} {l l' : List (Addr × Obj)} {many : Nat} {r : Addr} {x : Str} (h : AnsW w l many r x) (s : ∀ p ∈ l, p ∈ l') : AnsW w l' many r x := by
  rcases h with ⟨t, n, h, e⟩ | ⟨t, n, v, h, e⟩ | ⟨h, e⟩
  · exact .inl ⟨t, n, s _ h, e⟩
  · exact .inr (.inl ⟨t, n, v, s _ h, e⟩)
  · exact .inr (.inr ⟨h.up s, e⟩)
end
section
open PySem.Calls
theorem datRef {l : List (Addr × Obj)} {v : Value} {ds : List Dat} (h : DatIn l v (.tuple ds)) : ∃ a, v = .ref a := by
  cases h; exact ⟨_, rfl⟩
/-- what is known where the exception is made -/
inductive Thr (h₀ : Heap) (L : Addr) (m : Str → Option Value) (news : List (Addr × Obj)) (nm : String) (dv : Dat) (dvs : List Dat) (e : Addr) (h' : Heap) : Prop
  | mk (t dx : Addr) (h1 : Int) (t1 : Tok) (v1 : Value) (h2 : Int) (t2 : Tok) (v2 : Value) (h3 : Int) (t3 : Tok) (ra : Addr) (n : Nat) (add : List (Addr × Obj)) (a1 : Fr h₀ L h' m) (a2 : News h₀ L h' ((e, excObj 71 t (some dx) .none) :: (news ++ add))) (a3 : Far e (news ++ add)) (a4 : (dx, dictOf [⟨h1, .str (Str.ofString "message") t1, v1⟩, ⟨h2, .str (Str.ofString "spot") t2, v2⟩, ⟨h3, .str (Str.ofString "value") t3, .ref ra⟩] n) ∈ news ++ add) (a5 : DatIn (E0 :: (news ++ add)) (.ref ra) (.tuple [S "struct", .tuple [S "name", S nm, .tuple []], .tuple [dv, .tuple [S "tuple", .tuple dvs]]]))
theorem thr_of {h₀ h' : Heap} {L e t dx : Addr} {m : Str → Option Value} {news all : List (Addr × Obj)} {nm : String} {dv : Dat} {dvs : List Dat} {h1 h2 h3 : Int} {t1 t2 t3 : Tok} {v1 v2 r : Value} {n : Nat} (F : Fr h₀ L h' m) (N : News h₀ L h' ((e, excObj 71 t (some dx) .none) :: all)) (f : Far e all) (s : ∀ p ∈ news, p ∈ all)
    (hd : (dx, dictOf [⟨h1, .str (Str.ofString "message") t1, v1⟩, ⟨h2, .str (Str.ofString "spot") t2, v2⟩, ⟨h3, .str (Str.ofString "value") t3, r⟩] n) ∈ all)
    (D : DatIn (E0 :: all) r (.tuple [S "struct", .tuple [S "name", S nm, .tuple []], .tuple [dv, .tuple [S "tuple", .tuple dvs]]])) : Thr h₀ L m news nm dv dvs e h' := by
  obtain ⟨ra, rfl⟩ := datRef D
  refine ⟨t, dx, h1, t1, v1, h2, t2, v2, h3, t3, ra, n, all, F, fun p hp => N p ?_, fun p hp => f p ?_, List.mem_append_right _ hd, D.mono fun p hp => ?_⟩
  · rcases List.mem_cons.mp hp with rfl | hp
    · exact .head _
    · rcases List.mem_append.mp hp with hp | hp
      · exact .tail _ (s p hp)
      · exact .tail _ hp
  · rcases List.mem_append.mp hp with hp | hp
    · exact s p hp
    · exact hp
  · rcases List.mem_cons.mp hp with rfl | hp
    · exact .head _
    · exact .tail _ (List.mem_append_right _ hp)
theorem noMethod2 {w : World} {p : Program} {loose : List Str} {mean : ExcName → Option Value} {mg mb : Str → Option Value} {dp un : Nat} {gd : Option (List Code)} {cn : Str} {cs : Scope} {aa : Addr} {ccd : Value} {cl : List (Str × Addr)} {outer : List Env} {A₀ : Around} {base h₀ : Heap} {L : Addr} {m : Str → Option Value}
    {news fix : List (Addr × Obj)} {s : Shared} {la : Addr} {vs : List Value} {na : Nat} {dvs : List Dat} {v : Value} {dv : Dat} {Q E : Value → Shared → Prop}
    (B : Below A₀ base outer h₀) (F : Fr h₀ L s.heap m) (X : (hd.heap_1_39 w.params).In h₀) (N : News h₀ L s.heap news) (T : Top p loose mean mg mb h₀) (hk : cs.kind = .function)
    (hfx : ∀ p ∈ fix, p ∈ news) (hv : DatIn fix v dv) (hla : (la, W.listOf vs.toArray na) ∈ news) (hA : DatAll fix vs dvs) (h50 : vs.length ≤ 50) (hdp : dp < 440) (hun : un < 1700)
    (ret : ∀ e h' tk', Thr h₀ L m news "MethodError" dv dvs e h' → Q (.ref e) { s with heap := h', toks := tk' }) :
    wpAny (model PySem.Challenge.rw_pc0201_01.row.prog w) (ktrTop dp un gd cn cs L aa ccd cl outer) (call (.ref 101) [v, .ref la]) Q E s :=
  noMethod B F X N T hk hfx hv hla hA h50 hdp hun fun e t dx h1 t1 v1 h2 t2 v2 h3 t3 r n all h' tk' a1 a2 a3 a4 a5 a6 => ret e h' tk' (thr_of a1 a2 a3 a4 a5 a6)
theorem manyMethods2 {w : World} {p : Program} {loose : List Str} {mean : ExcName → Option Value} {mg mb : Str → Option Value} {dp un : Nat} {gd : Option (List Code)} {cn : Str} {cs : Scope} {aa : Addr} {ccd : Value} {cl : List (Str × Addr)} {outer : List Env} {A₀ : Around} {base h₀ : Heap} {L : Addr} {m : Str → Option Value}
    {news fix : List (Addr × Obj)} {s : Shared} {la : Addr} {vs : List Value} {na : Nat} {dvs : List Dat} {v : Value} {dv : Dat} {Q E : Value → Shared → Prop}
    (B : Below A₀ base outer h₀) (F : Fr h₀ L s.heap m) (X : (hd.heap_1_39 w.params).In h₀) (N : News h₀ L s.heap news) (T : Top p loose mean mg mb h₀) (hk : cs.kind = .function)
    (hfx : ∀ p ∈ fix, p ∈ news) (hv : DatIn fix v dv) (hla : (la, W.listOf vs.toArray na) ∈ news) (hA : DatAll fix vs dvs) (h50 : vs.length ≤ 50) (hdp : dp < 440) (hun : un < 1700)
    (ret : ∀ e h' tk', Thr h₀ L m news "AmbiguousError" dv dvs e h' → Q (.ref e) { s with heap := h', toks := tk' }) :
    wpAny (model PySem.Challenge.rw_pc0201_01.row.prog w) (ktrTop dp un gd cn cs L aa ccd cl outer) (call (.ref 108) [v, .ref la]) Q E s :=
  manyMethods B F X N T hk hfx hv hla hA h50 hdp hun fun e t dx h1 t1 v1 h2 t2 v2 h3 t3 r n all h' tk' a1 a2 a3 a4 a5 a6 => ret e h' tk' (thr_of a1 a2 a3 a4 a5 a6)
theorem raise_71x {prog : Program} {w : World} {A : Around} {E : Value → Shared → Prop} {s : Shared} {env : Env} {P : Params} {h₀ : Heap} {x : PySem.Expr} {pos : Pos} {Q : Flow → Shared → Prop} (X : (hd.heap_1_39 P).In h₀) (hh : A.handled = none) (h : wpAny (model prog w) A (eval x env) (RaiseEnd P E) E s) :
    wpAny (model prog w) A (exec (.Raise (some x) none pos) env) Q E s := raise_71 hh h
theorem nameGoesX {M : Model} {A : Around} {E : Value → Shared → Prop} {s : Shared} {h₀ : Heap} {L aa : Addr} {m : Str → Option Value} {cn : Str} {cs : Scope} {ccd : Value} {cl : List (Str × Addr)} {news : List (Addr × Obj)} {n : Str} {pos : Pos} {Q : Unit → Shared → Prop} (F : Fr h₀ L s.heap m) (N : News h₀ L s.heap news)
    (h : ∀ h' v, Fr h₀ L h' (fun x => if x = n then v else m x) → News h₀ L h' news → Q () { s with heap := h', toks := s.toks + 1 })
    (hk : cs.kind = .function := by rfl) (hl : (envX cn cs L aa ccd cl).kindOf n = some .local := by rfl) :
    wpAny M A (do bindName (envX cn cs L aa ccd cl) n .none; unbindBehindTheSuite (envX cn cs L aa ccd cl) n pos) Q E s :=
  wpAny_nameGoes_keeps hl F.ns (by show (cs.kind == .class || (cs.kind == .module && L != mainGlobals)) = false; rw [hk]; rfl) fun h' v hn hs => h h' v (F.set hn hs) (N.set hs)
theorem subLed {h₀ h : Heap} {L : Addr} {a led : List (Addr × Obj)} (N : News h₀ L h led) (s : ∀ p ∈ a, p ∈ led) : ∀ p ∈ a, p ∈ E0 :: led := fun p hp => .tail _ (s p hp)
theorem memOf {a : Addr} {add r : List (Addr × Obj)} {v : Value} {vs : List Value} {n : Nat} (h : (a, ({ cls := .type "tuple", data := .seq (v :: vs).toArray n } : Obj)) ∈ add) (s : ∀ x ∈ add, x ∈ r) : (a, ({ cls := .type "tuple", data := .seq (v :: vs).toArray n } : Obj)) ∈ r := s _ h
theorem sub3 {fx add l : List (Addr × Obj)} (h : ∀ p ∈ fx, p ∈ E0 :: l) (t : ∀ p ∈ add, p ∈ l) : ∀ p ∈ E0 :: (fx ++ add), p ∈ E0 :: l := fun p hp => by
  rcases List.mem_cons.mp hp with rfl | hp
  · exact .head _
  · rcases List.mem_append.mp hp with hp | hp
    · exact h p hp
    · exact .tail _ (t p hp)
theorem Pk.up {l l' : List (Addr × Obj)} {b : Bool} {v : Value} {vs items : List Value} {k : Nat} (h : Pk l b v vs items k) (s : ∀ p ∈ l, p ∈ l') : Pk l' b v vs items k := by
  rcases h with h | ⟨h, pr, n1, t1, tt, n2, e, a, c⟩
  · exact .inl h
  · exact .inr ⟨h, pr, n1, t1, tt, n2, e, s _ a, s _ c⟩
/-- the answer by its first word -/
def AnsH (w : World) (l : List (Addr × Obj)) (many : Nat) (r : Addr) (x : Str) : Prop :=
  (x = Str.ofString "none" ∧ ∃ t n, (r, ({ cls := .type "tuple", data := .seq #[.str (Str.ofString "none") t] n } : Obj)) ∈ l) ∨
  (x = Str.ofString "many" ∧ ∃ t n v, (r, ({ cls := .type "tuple", data := .seq #[.str (Str.ofString "many") t, v] n } : Obj)) ∈ l) ∨ (x = Str.ofString "one" ∧ One w l many r)
theorem ansHead {w : World} {l : List (Addr × Obj)} {many : Nat} {r : Addr} (h : Ans w l many r) : ∃ x t vs n, (r, ({ cls := .type "tuple", data := .seq (.str x t :: vs).toArray n } : Obj)) ∈ l ∧ AnsH w l many r x := by
  rcases h with ⟨t, n, h⟩ | ⟨t, n, v, h⟩ | h
  · exact ⟨_, t, [], n, h, .inl ⟨rfl, t, n, h⟩⟩
  · exact ⟨_, t, [v], n, h, .inr (.inl ⟨rfl, t, n, v, h⟩)⟩
  · obtain ⟨t, n, x, st, nm, b, names, nn, tn, ts, ni, i, ti, tk, o, a1, a2⟩ := id h
    exact ⟨_, t, [.ref x, .ref st], n, a1, .inr (.inr ⟨rfl, h⟩)⟩
theorem ansW {w : World} {l : List (Addr × Obj)} {many : Nat} {r : Addr} {x : Str} (h : AnsH w l many r x) : ∃ y, AnsW w l many r y ∧ ((x = Str.ofString "none" ∧ y = Str.ofString "MethodError") ∨ (x = Str.ofString "many" ∧ y = Str.ofString "AmbiguousError") ∨ (x = Str.ofString "one" ∧ y = Str.ofString "")) := by
  rcases h with ⟨rfl, t, n, h⟩ | ⟨rfl, t, n, v, h⟩ | ⟨rfl, h⟩
  · exact ⟨_, .inl ⟨t, n, h, rfl⟩, .inl ⟨rfl, rfl⟩⟩
  · exact ⟨_, .inr (.inl ⟨t, n, v, h, rfl⟩), .inr (.inl ⟨rfl, rfl⟩)⟩
  · exact ⟨_, .inr (.inr ⟨h, rfl⟩), .inr (.inr ⟨rfl, rfl⟩)⟩
/-- the value of the word, whichever answer it is -/
inductive Word2 (h₀ : Heap) (L : Addr) (m : Str → Option Value) (s : Shared) (led : List (Addr × Obj)) (y : Str) (v : Value) (s' : Shared) : Prop
  | mk (t : Tok) (h' : Heap) (tk' : Nat) (a1 : v = .str y t) (a2 : s' = { s with heap := h', toks := tk' }) (a3 : Fr h₀ L h' m) (a4 : News h₀ L h' led)
theorem word_mono2 {M : Model} {w : World} {A : Around} {c : Sem Value} {Q E : Value → Shared → Prop} {s : Shared} {h₀ : Heap} {L r : Addr} {m : Str → Option Value} {led rest : List (Addr × Obj)} {many : Nat} {x : Str} (F : Fr h₀ L s.heap m) (N : News h₀ L s.heap led) (K : AnsH w rest many r x)
    (h1 : ∀ y, (x = Str.ofString "none" ∧ y = Str.ofString "MethodError") ∨ (x = Str.ofString "many" ∧ y = Str.ofString "AmbiguousError") ∨ (x = Str.ofString "one" ∧ y = Str.ofString "") → wpAny M A c (Word2 h₀ L m s led y) E s)
    (h2 : ∀ y t h' tk', Fr h₀ L h' m → News h₀ L h' led → AnsW w rest many r y → Q (.str y t) { s with heap := h', toks := tk' }) : wpAny M A c Q E s := by
  obtain ⟨y, KW, hy⟩ := ansW K
  refine wpAny_mono (h1 y hy) (fun v s' hq => ?_) fun _ _ e => e
  obtain ⟨t, h', tk', rfl, rfl, F', N'⟩ := hq
  exact h2 y t h' tk' F' N' KW
theorem okAll {n : Nat} {ds : List Dat} (h : ∀ d ∈ ds, okD 5 d = true) (hn : 5 ≤ n) : ds.all (okD n) = true := List.all_eq_true.mpr fun d hd => okD_mono 5 n d hn (h d hd)
theorem okThrown {nm : String} {dv : Dat} {dvs : List Dat} (h1 : okD 5 dv = true) (h2 : ∀ d ∈ dvs, okD 5 d = true) (hs : PyData.strOk (Str.ofString nm) = true) :
    okD 12 (.tuple [S "struct", .tuple [S "name", S nm, .tuple []], .tuple [dv, .tuple [S "tuple", .tuple dvs]]]) = true := by
  have a1 := okD_mono 5 10 dv (by decide) h1
  have a2 := okAll (n := 8) h2 (by decide)
  have b1 : PyData.strOk (Str.ofString "struct") = true := by decide +kernel
  have b2 : PyData.strOk (Str.ofString "name") = true := by decide +kernel
  have b3 : PyData.strOk (Str.ofString "tuple") = true := by decide +kernel
  simp only [okD, List.all_cons, List.all_nil, a1, a2, b1, b2, b3, hs, Bool.and_self]
theorem okAsked {x : Str} {dk : Dat} {dks : List Dat} {i : Int} (h1 : okD 5 dk = true) (h2 : ∀ d ∈ dks, okD 5 d = true) (hs : PyData.strOk x = true) :
    ∀ d ∈ [Dat.tuple [.str x, .tuple [S "tuple", .tuple (dk :: dks), .none], .int i]], okD 12 d = true := by
  intro d hd
  rw [List.mem_singleton.mp hd]
  have a1 := okD_mono 5 9 dk (by decide) h1
  have a2 := okAll (n := 9) h2 (by decide)
  have b3 : PyData.strOk (Str.ofString "tuple") = true := by decide +kernel
  simp only [okD, List.all_cons, List.all_nil, a1, a2, b3, hs, Bool.and_self]
theorem okDue {dk : Dat} {dks : List Dat} (h1 : okD 5 dk = true) (h2 : ∀ d ∈ dks, okD 5 d = true) : okD 12 (.tuple [S "tuple", .tuple (dk :: dks), .none]) = true := by
  have a1 := okD_mono 5 10 dk (by decide) h1
  have a2 := okAll (n := 10) h2 (by decide)
  have b3 : PyData.strOk (Str.ofString "tuple") = true := by decide +kernel
  simp only [okD, List.all_cons, List.all_nil, a1, a2, b3, Bool.and_self]
theorem okVals {dv : Dat} {dvs : List Dat} (h1 : okD 5 dv = true) (h2 : ∀ d ∈ dvs, okD 5 d = true) : ∀ d ∈ dv :: dvs, okD 12 d = true := fun d hd => by
  rcases List.mem_cons.mp hd with rfl | hd
  · exact okD_mono 5 12 _ (by decide) h1
  · exact okD_mono 5 12 _ (by decide) (h2 d hd)
theorem tname_ok {d : Dat} {x : Str} (h : TName d x) (hk : okD 5 d = true) : PyData.strOk x = true := by
  cases h with
  | fn x => simp only [okD, List.all_cons, List.all_nil, Bool.and_true, Bool.and_eq_true] at hk; exact hk.2
  | name x d => simp only [okD, List.all_cons, List.all_nil, Bool.and_true, Bool.and_eq_true] at hk; exact hk.2.1
  | typ x d => simp only [okD, List.all_cons, List.all_nil, Bool.and_true, Bool.and_eq_true] at hk; exact hk.2.2.1
end
section
open PySem.Calls
noncomputable def stA : (P : Prop) ×' (Box P → ∀ said, (hd.top said).1) := ⟨_, by
  w_top off
  k_with_none
  (k_with "k_all" => (assumption))
  (k_with "k_mem" => (assumption))
  (k_with "size_fits" => (((try simp only [List.size_toArray]); rw [PySem.sizeLine_eq]; omega)))
  (k_with "k_mem" => (kcf_m))
  (k_with "k_all" => ((repeat' (first | exact offNil | ((with_reducible show ∀ p ∈ (_, _) :: _, p.1 ≠ _); refine' offCons (by k_ne) ?_) | exact offAbs (by assumption) (by kcf_m) | exact offAbs3 (by assumption) (by kcf_m) | refine' offApp ?_ ?_))))
  (k_with "k_upd" => (first | (refine' Del.head ?zq_a; (case zq_a => k_all)) | (refine' Del.tail ?zq_a ?zq_b; (case zq_a => k_ne); (case zq_b => k_upd))))
  (k_with "call ref" => (((with_reducible show wpAny _ _ (call (Value.ref 333) _) _ _ _); k_here; k_dflt (refine' callee0 ?zq_kB ?zq_kF ?zq_kX ?zq_kN ?zq_D1 ?zq_D2 ?zq_kT ?zq_kK ?zq_kS ?zq_p1 ?zq_p2 ?zq_r1 ?zq_r2 ?zq_kd ?zq_ku ?_; (case zq_kB => k_asm); (case zq_kF => k_asm); (case zq_kX => k_asm); (case zq_kN => k_asm); (case zq_kS => assumption); (case zq_p1 => k_mem); (case zq_p2 => k_mem); (case zq_D1 => k_upd); (case zq_D2 => k_upd); (case zq_r1 => k_mem); (case zq_r2 => k_mem); (case zq_kT => k_asm); (case zq_kK => first | exact rfl | assumption); (case zq_kd => ktr_room); (case zq_ku => first | decide | ktr_units); k_whole; intro r' oS' ts' nt' e' add' vv' kv' dv' dk' nr' h' tk' x' tx' hS' hTs' he' hek' hG' hTN' hov' hok' hmr' hDv' hDk' hlt' F' N'; (try dsimp only); (try k_sweep); refine Hold.out ?_))))
  (k_with "call ref" => (((with_reducible show wpAny _ _ (call (Value.ref 319) _) _ _ _); k_here; k_dflt (refine' source ?zq_kB ?zq_kF ?zq_kX ?zq_kN ?zq_kT ?zq_kK ?zq_kl ?zq_ki ?zq_kn ?zq_kd ?zq_ku ?_; (case zq_kB => k_asm); (case zq_kF => k_asm); (case zq_kX => k_asm); (case zq_kN => k_asm); (case zq_kT => k_asm); (case zq_kK => exact rfl); (case zq_kl => assumption); (case zq_ki => assumption); (case zq_kn => omega); (case zq_kd => first | ktr_room | exact Nat.le_of_ble_eq_true rfl ); (case zq_ku => first | decide | ktr_units); k_whole; intro r' oS' h' tk' hS' F' N' l1; (try k_lt l1); (try dsimp only); (try k_sweep)))))
  (k_with "call ref" => (((with_reducible show wpAny _ _ (call (Value.ref 326) _) _ _ _); k_here; k_dflt (refine' digit ?zq_kB ?zq_kF ?zq_kX ?zq_kN ?zq_kT ?zq_kK ?zq_kD ?zq_kS ?zq_km ?zq_km2 ?zq_kd ?zq_ku ?_; (case zq_kB => k_asm); (case zq_kF => k_asm); (case zq_kX => k_asm); (case zq_kN => k_asm); (case zq_kT => k_asm); (case zq_kK => first | exact rfl | assumption); (case zq_kD => k_upd); (case zq_kS => assumption); (case zq_km => omega); (case zq_km2 => omega); (case zq_kd => ktr_room); (case zq_ku => first | decide | ktr_units); k_whole; intro v' t' oS' h' tk' hv0' hv1' hS' F' N' hoff'; (try dsimp only); (try k_sweep)))))
  (k_with "eval ListComp" => ((refine Hold.out ?_)))
  (k_with "exec Assign cons ListComp" => ((refine Hold.out ?_)))
  (k_with "CompSrc" => ((refine Hold.out ?_)))
  (k_with "call ref" => (((with_reducible show wpAny _ _ (call (Value.ref 340) _) _ _ _); k_here; k_dflt (refine' rows_call ?zq_kB ?zq_kF ?zq_kX ?zq_kN ?zq_kT ?zq_kK ?zq_off ?zq_ne ?zq_St ?zq_d1 ?zq_d2 ?zq_d3 ?zq_kfx ?zq_kH ?zq_kl ?zq_kd ?zq_ku ?zq_es ?zq_hR; (case zq_St => assumption); (case zq_off => assumption); (case zq_kN => assumption); (case zq_kB => k_asm); (case zq_kF => k_asm); (case zq_kX => k_asm); (case zq_kT => k_asm); (case zq_kK => first | exact rfl | assumption); (case zq_ne => assumption); (case zq_d1 => assumption); (case zq_d2 => assumption); (case zq_d3 => assumption); (case zq_kfx => assumption); (case zq_kH => assumption); (case zq_kl => omega); (case zq_kd => ktr_room); (case zq_ku => first | decide | ktr_units); (case zq_es => exact ⟨_, _, rfl⟩); (case zq_hR => exact fun _ _ h => h)))))
  (k_with "call builtin:len" => ((k_here; (with_reducible show wpAny _ _ (call (Value.builtin "len") [Value.ref _]) _ _ _); (with_unfolding_all refine' len_led ?zq_k1 ?zq_k2 ?zq_k3 ?_; (case zq_k1 => k_asm); (case zq_k2 => k_mem); (case zq_k3 => ((try simp only [Array.size_push, List.size_toArray]); omega)); k_whole); (try simp only [Array.size_push, List.size_toArray]))))
  (k_with "call type:tuple" => ((k_here; (with_reducible show wpAny _ _ (call (Value.type "tuple") [Value.ref _]) _ _ _); k_dflt (refine' kde_tupleOf (zs := _) ?zq_k1 ?zq_k2 ?zq_k3 ?zq_k4 ?zq_k5 ?_; (case zq_k1 => k_asm); (case zq_k2 => k_asm); (case zq_k3 => exact News.isList (by k_asm) (by k_mem)); (case zq_k5 => first | exact List.toList_toArray | exact List.toList_toArray _ | exact Array.toList_toArray _); (case zq_k4 => ((try simp only [List.size_toArray, List.length_cons, List.length_nil]); omega)); k_whole); intro D' h' F' N' l1; (try k_lt l1))))
  (k_with "k_ne" => (first | (refine neN ?_; (try dsimp only); first | exact farNe (by assumption) (by kcf_m) | exact farNe' (by assumption) (by kcf_m) | omega) | fail "k_ne"))
  (k_with "k_all" => (first | (repeat' (first | assumption | exact offNil | ((with_reducible show ∀ p ∈ (_, _) :: _, p.1 ≠ _); refine' offCons (by k_ne) ?_) | exact far_lt (by tbn_find) | exact far_lt (allLt_up (by tbn_find) (by omega)) | exact offFarA (by assumption) (by kcf_m) | exact offOrA (by assumption) (by k_ne) (by kcf_m) | exact offAbs (by assumption) (by kcf_m) | exact offAbs3 (by assumption) (by kcf_m) | refine' offApp ?_ ?_)) | fail "k_all"))
  (k_with "call ref" => (((with_reducible show wpAny _ _ (call (Value.ref 347) _) _ _ _); k_here; k_dflt (refine' answer ?zq_kB ?zq_kF ?zq_kX ?zq_kN ?zq_D1 ?zq_kT ?zq_kK ?zq_kS ?zq_km ?zq_kd ?zq_ku ?_; (case zq_kB => k_asm); (case zq_kF => k_asm); (case zq_kX => k_asm); (case zq_kN => k_asm); (case zq_D1 => k_upd); (case zq_kT => k_asm); (case zq_kK => first | exact rfl | assumption); (case zq_kS => assumption); (case zq_km => omega); (case zq_kd => ktr_room); (case zq_ku => first | decide | ktr_units); k_whole; intro r' oS' add' h' tk' hS' hAns' hoff' F' N'; have hA9' := farAll1 (o1 := oS') hoff'; (try dsimp only); (try k_sweep); refine Hold.out ?_))))
  (k_with "binaryOp Add ref ref" => ((k_here; (with_reducible show wpAny _ _ (binaryOp _ (Value.ref _) (Value.ref _)) _ _ _); k_dflt (refine' addL ?zq_k1 ?zq_k2 ?zq_k3 ?zq_k4 ?zq_k5 ?_; (case zq_k1 => k_asm); (case zq_k2 => k_asm); (case zq_k3 => k_mem); (case zq_k4 => k_mem); (case zq_k5 => ((try simp only [List.length_cons, List.length_nil]); omega)); k_whole); intro D' h' F' N' l1; (try k_lt l1); (try simp only [List.cons_append, List.nil_append] at N'))))
  (k_with "binaryOp Add ref ref" => ((k_here; (with_reducible show wpAny _ _ (binaryOp _ (Value.ref _) (Value.ref _)) _ _ _); k_dflt (refine' addTT ?zq_k1 ?zq_k2 ?zq_k3 ?zq_k4 ?zq_k5 ?_; (case zq_k1 => k_asm); (case zq_k2 => k_asm); (case zq_k3 => k_mem); (case zq_k4 => k_mem); (case zq_k5 => ((try simp only [List.length_cons, List.length_nil]); omega)); k_whole); intro r' n' add' h' F' N' hA' hm'; (try simp only [List.cons_append, List.nil_append] at N'))))
  (k_with "subscriptTail" => ((k_here; (with_reducible show wpAny _ _ (subscriptTail _ _ (Value.ref _) (Value.int _ _)) _ _ _); k_dflt (refine' item_tupleT ?zq_t ?zq_a ?zq_b ?zq_c ?zq_d ?_; (case zq_t => exact News.isTup (by k_asm) (by kcf_m)); (case zq_a => decide); (case zq_b => decide); (case zq_c => rfl); (case zq_d => rfl); k_whole))))
  (k_with "subscriptTail" => (((with_reducible show wpAny _ _ (subscriptTail (PySem.Expr.Name _ _) _ (Value.ref _) (Value.int 0 _)) _ _ _); (with_reducible rename Ans _ _ _ _ => kA9); refine Hold.out ?_)))
  (k_with "call builtin:dict.get" => (((with_reducible rename AnsH _ _ _ _ _ => kA9); refine Hold.out ?_)))
  (k_with "size_fits" => ((rw [PySem.sizeLine_eq]; exact Nat.le_of_ble_eq_true rfl)))
  intro h9 said9
  delta hd.top
  intro w; revert w
  clear said9
  k_go0
  all_goals try k_fold
  k_steps
  unfold Hold
  (rename News _ _ _ _ => kN9)
  simp only [List.cons_append, List.nil_append] at kN9
  (with_reducible rename Fr _ _ _ _ => kF9)
  k_here
  k_dflt (refine' unpackN_ kF9 kN9 ?T ?k1 ?k2 ?k3 ?_; (case T => exact News.isTup kN9 (by kcf_m)); (case k1 => exact rfl); (case k2 => exact rfl); (case k3 => exact rfl); k_whole)
  intro h' F' N'
  try k_sweep
  k_steps
  unfold Hold
  k_here
  k_dflt (refine LCg.Assign_ListComp_U (F₀ := by k_asm) (by rfl) (by with_unfolding_all rfl) (by with_unfolding_all rfl) (by decide) (by rfl) (by decide) (by rfl) (by rfl) (by rfl) ?_)
  k_steps
  unfold Hold
  (rename IsRange _ _ _ _ _ _ _ _ => kR9)
  (rename News _ _ _ _ => kN9)
  (with_reducible rename Fr _ _ _ _ => kF9)
  (rename ThingAll _ _ _ => kT9)
  (rename Src _ => kS9)
  have kH9 := heapIn2a kT9
  k_dflt (refine LCg.CompSrc.range (n := Int.toNat _) rfl kF9 kN9 kR9 ?sm (rng_size (by assumption)) ?sz (fun g => ?_))
  case sm => exact small_one (by omega) (by omega) (by omega) (by omega)
  case sz => rw [sizeLine_eq]; omega
  refine row_phase kS9 kT9 kH9 (by assumption) ?kfx ?d3 ?go
  case kfx => simp only [List.cons_append, List.nil_append]; kcf_all
  case d3 => k_all
  case go =>
    intro d1 d2 d3 kfx9
    refine comp_inv (RowSt _ _ _ _ _) ?turn ?fin (rows_start kS9 kT9)
    case turn =>
      intro i9 ys9 nw9 v9 I9 oI9 C9 oC9 D9 m9 h9 tk9 E9 hi9 hP9 St9 hC9 hx9 F9 N9 off9 ne9
      have St8 := St9
      obtain ⟨oS8, ts8, nt8, es8, add8, _, _, _, _, rfl, _⟩ := St8
      have N8 := N9
      simp only [List.cons_append, List.nil_append] at N8
      k_steps
    case fin =>
      intro ys9 nw9 St9 D9 h9 tk9 F9 N9 off9
      obtain ⟨oS8, ts8, nt8, es8, add8, vvs8, kvs8, dvs8, dks8, rfl, hS8, hT8, hes8, hys8, hok8, hfar8, hrow8, hdv8, hdk8, hg8, hov8, hod8⟩ := St9
      have N8 := N9
      simp only [List.cons_append, List.nil_append] at N8
      have hF8 := far_off1 off9
      simp only [List.cons_append, List.nil_append] at hF8
      (rename (∀ p ∈ _, AllLt _ _) => hlt8)
      have hA7 := farLts hlt8
      have hA8 := farAll (o1 := oS8) (o2 := W.listOf ts8.toArray nt8) hfar8
      k_steps
      unfold Hold
      k_here
      k_dflt (refine LCg.ListComp_U (F₀ := by k_asm) (by with_unfolding_all rfl) (by decide) (by rfl) (by decide) (by rfl) ?_)
      k_steps
      unfold Hold
      (rename News _ _ _ _ => kN9)
      (with_reducible rename Fr _ _ _ _ => kF9)
      k_dflt (refine LCg.CompSrc.ledger rfl kF9 kN9 (by kcf_m) ?sz (fun g => ?_))
      case sz => rw [List.size_toArray, sizeLine_eq]; omega
      refine col0_rest hrow8 (by intro p hp; kcf_m) (by simp) (by intro i v h; simpa using h) ?turn0 ?fin0
      case turn0 =>
        intro r9 nr9 vv9 kv9 I9 oI9 C9 oC9 D9 m9 ys9 h9 tk9 E9 hm9 hC9 hx9 F9 N9 off9 ne9
        k_steps
        exact LCg.CompEnd.intro F9 N9 _ (fun p hp => hp) off9 (.inr ⟨_, by kcf_m, rfl, _, rfl⟩) ⟨rfl, rfl⟩
      case fin0 =>
        intro D9 h9 tk9 F9 N9 off9
        have hvl9 : vvs8.length ≤ 5 := by
          have e9 := hrow8.len.1
          omega
        have N7 := N9
        (try simp only [List.cons_append, List.nil_append] at N7)
        have hF7 := far_off1 off9
        k_steps
        repeat (revert ‹_›)
        exact Box.out⟩
noncomputable def stB : (P : Prop) ×' (Box P → stA.1) := ⟨_, by
  w_top off
  k_with_none
  (k_with "k_all" => (assumption))
  (k_with "k_mem" => (assumption))
  (k_with "size_fits" => (((try simp only [List.size_toArray]); rw [PySem.sizeLine_eq]; omega)))
  (k_with "k_mem" => (kcf_m))
  (k_with "k_all" => ((repeat' (first | exact offNil | ((with_reducible show ∀ p ∈ (_, _) :: _, p.1 ≠ _); refine' offCons (by k_ne) ?_) | exact offAbs (by assumption) (by kcf_m) | exact offAbs3 (by assumption) (by kcf_m) | refine' offApp ?_ ?_))))
  (k_with "k_upd" => (first | (refine' Del.head ?zq_a; (case zq_a => k_all)) | (refine' Del.tail ?zq_a ?zq_b; (case zq_a => k_ne); (case zq_b => k_upd))))
  (k_with "call ref" => (((with_reducible show wpAny _ _ (call (Value.ref 333) _) _ _ _); k_here; k_dflt (refine' callee0 ?zq_kB ?zq_kF ?zq_kX ?zq_kN ?zq_D1 ?zq_D2 ?zq_kT ?zq_kK ?zq_kS ?zq_p1 ?zq_p2 ?zq_r1 ?zq_r2 ?zq_kd ?zq_ku ?_; (case zq_kB => k_asm); (case zq_kF => k_asm); (case zq_kX => k_asm); (case zq_kN => k_asm); (case zq_kS => assumption); (case zq_p1 => k_mem); (case zq_p2 => k_mem); (case zq_D1 => k_upd); (case zq_D2 => k_upd); (case zq_r1 => k_mem); (case zq_r2 => k_mem); (case zq_kT => k_asm); (case zq_kK => first | exact rfl | assumption); (case zq_kd => ktr_room); (case zq_ku => first | decide | ktr_units); k_whole; intro r' oS' ts' nt' e' add' vv' kv' dv' dk' nr' h' tk' x' tx' hS' hTs' he' hek' hG' hTN' hov' hok' hmr' hDv' hDk' hlt' F' N'; (try dsimp only); (try k_sweep); refine Hold.out ?_))))
  (k_with "call ref" => (((with_reducible show wpAny _ _ (call (Value.ref 319) _) _ _ _); k_here; k_dflt (refine' source ?zq_kB ?zq_kF ?zq_kX ?zq_kN ?zq_kT ?zq_kK ?zq_kl ?zq_ki ?zq_kn ?zq_kd ?zq_ku ?_; (case zq_kB => k_asm); (case zq_kF => k_asm); (case zq_kX => k_asm); (case zq_kN => k_asm); (case zq_kT => k_asm); (case zq_kK => exact rfl); (case zq_kl => assumption); (case zq_ki => assumption); (case zq_kn => omega); (case zq_kd => first | ktr_room | exact Nat.le_of_ble_eq_true rfl ); (case zq_ku => first | decide | ktr_units); k_whole; intro r' oS' h' tk' hS' F' N' l1; (try k_lt l1); (try dsimp only); (try k_sweep)))))
  (k_with "call ref" => (((with_reducible show wpAny _ _ (call (Value.ref 326) _) _ _ _); k_here; k_dflt (refine' digit ?zq_kB ?zq_kF ?zq_kX ?zq_kN ?zq_kT ?zq_kK ?zq_kD ?zq_kS ?zq_km ?zq_km2 ?zq_kd ?zq_ku ?_; (case zq_kB => k_asm); (case zq_kF => k_asm); (case zq_kX => k_asm); (case zq_kN => k_asm); (case zq_kT => k_asm); (case zq_kK => first | exact rfl | assumption); (case zq_kD => k_upd); (case zq_kS => assumption); (case zq_km => omega); (case zq_km2 => omega); (case zq_kd => ktr_room); (case zq_ku => first | decide | ktr_units); k_whole; intro v' t' oS' h' tk' hv0' hv1' hS' F' N' hoff'; (try dsimp only); (try k_sweep)))))
  (k_with "eval ListComp" => ((refine Hold.out ?_)))
  (k_with "exec Assign cons ListComp" => ((refine Hold.out ?_)))
  (k_with "CompSrc" => ((refine Hold.out ?_)))
  (k_with "call ref" => (((with_reducible show wpAny _ _ (call (Value.ref 340) _) _ _ _); k_here; k_dflt (refine' rows_call ?zq_kB ?zq_kF ?zq_kX ?zq_kN ?zq_kT ?zq_kK ?zq_off ?zq_ne ?zq_St ?zq_d1 ?zq_d2 ?zq_d3 ?zq_kfx ?zq_kH ?zq_kl ?zq_kd ?zq_ku ?zq_es ?zq_hR; (case zq_St => assumption); (case zq_off => assumption); (case zq_kN => assumption); (case zq_kB => k_asm); (case zq_kF => k_asm); (case zq_kX => k_asm); (case zq_kT => k_asm); (case zq_kK => first | exact rfl | assumption); (case zq_ne => assumption); (case zq_d1 => assumption); (case zq_d2 => assumption); (case zq_d3 => assumption); (case zq_kfx => assumption); (case zq_kH => assumption); (case zq_kl => omega); (case zq_kd => ktr_room); (case zq_ku => first | decide | ktr_units); (case zq_es => exact ⟨_, _, rfl⟩); (case zq_hR => exact fun _ _ h => h)))))
  (k_with "call builtin:len" => ((k_here; (with_reducible show wpAny _ _ (call (Value.builtin "len") [Value.ref _]) _ _ _); (with_unfolding_all refine' len_led ?zq_k1 ?zq_k2 ?zq_k3 ?_; (case zq_k1 => k_asm); (case zq_k2 => k_mem); (case zq_k3 => ((try simp only [Array.size_push, List.size_toArray]); omega)); k_whole); (try simp only [Array.size_push, List.size_toArray]))))
  (k_with "call type:tuple" => ((k_here; (with_reducible show wpAny _ _ (call (Value.type "tuple") [Value.ref _]) _ _ _); k_dflt (refine' kde_tupleOf (zs := _) ?zq_k1 ?zq_k2 ?zq_k3 ?zq_k4 ?zq_k5 ?_; (case zq_k1 => k_asm); (case zq_k2 => k_asm); (case zq_k3 => exact News.isList (by k_asm) (by k_mem)); (case zq_k5 => first | exact List.toList_toArray | exact List.toList_toArray _ | exact Array.toList_toArray _); (case zq_k4 => ((try simp only [List.size_toArray, List.length_cons, List.length_nil]); omega)); k_whole); intro D' h' F' N' l1; (try k_lt l1))))
  (k_with "k_ne" => (first | (refine neN ?_; (try dsimp only); first | exact farNe (by assumption) (by kcf_m) | exact farNe' (by assumption) (by kcf_m) | omega) | fail "k_ne"))
  (k_with "k_all" => (first | (repeat' (first | assumption | exact offNil | ((with_reducible show ∀ p ∈ (_, _) :: _, p.1 ≠ _); refine' offCons (by k_ne) ?_) | exact far_lt (by tbn_find) | exact far_lt (allLt_up (by tbn_find) (by omega)) | exact offFarA (by assumption) (by kcf_m) | exact offOrA (by assumption) (by k_ne) (by kcf_m) | exact offAbs (by assumption) (by kcf_m) | exact offAbs3 (by assumption) (by kcf_m) | refine' offApp ?_ ?_)) | fail "k_all"))
  (k_with "call ref" => (((with_reducible show wpAny _ _ (call (Value.ref 347) _) _ _ _); k_here; k_dflt (refine' answer ?zq_kB ?zq_kF ?zq_kX ?zq_kN ?zq_D1 ?zq_kT ?zq_kK ?zq_kS ?zq_km ?zq_kd ?zq_ku ?_; (case zq_kB => k_asm); (case zq_kF => k_asm); (case zq_kX => k_asm); (case zq_kN => k_asm); (case zq_D1 => k_upd); (case zq_kT => k_asm); (case zq_kK => first | exact rfl | assumption); (case zq_kS => assumption); (case zq_km => omega); (case zq_kd => ktr_room); (case zq_ku => first | decide | ktr_units); k_whole; intro r' oS' add' h' tk' hS' hAns' hoff' F' N'; have hA9' := farAll1 (o1 := oS') hoff'; (try dsimp only); (try k_sweep); refine Hold.out ?_))))
  (k_with "binaryOp Add ref ref" => ((k_here; (with_reducible show wpAny _ _ (binaryOp _ (Value.ref _) (Value.ref _)) _ _ _); k_dflt (refine' addL ?zq_k1 ?zq_k2 ?zq_k3 ?zq_k4 ?zq_k5 ?_; (case zq_k1 => k_asm); (case zq_k2 => k_asm); (case zq_k3 => k_mem); (case zq_k4 => k_mem); (case zq_k5 => ((try simp only [List.length_cons, List.length_nil]); omega)); k_whole); intro D' h' F' N' l1; (try k_lt l1); (try simp only [List.cons_append, List.nil_append] at N'))))
  (k_with "binaryOp Add ref ref" => ((k_here; (with_reducible show wpAny _ _ (binaryOp _ (Value.ref _) (Value.ref _)) _ _ _); k_dflt (refine' addTT ?zq_k1 ?zq_k2 ?zq_k3 ?zq_k4 ?zq_k5 ?_; (case zq_k1 => k_asm); (case zq_k2 => k_asm); (case zq_k3 => k_mem); (case zq_k4 => k_mem); (case zq_k5 => ((try simp only [List.length_cons, List.length_nil]); omega)); k_whole); intro r' n' add' h' F' N' hA' hm'; (try simp only [List.cons_append, List.nil_append] at N'))))
  (k_with "subscriptTail" => ((k_here; (with_reducible show wpAny _ _ (subscriptTail _ _ (Value.ref _) (Value.int _ _)) _ _ _); k_dflt (refine' item_tupleT ?zq_t ?zq_a ?zq_b ?zq_c ?zq_d ?_; (case zq_t => exact News.isTup (by k_asm) (by kcf_m)); (case zq_a => decide); (case zq_b => decide); (case zq_c => rfl); (case zq_d => rfl); k_whole))))
  (k_with "subscriptTail" => (((with_reducible show wpAny _ _ (subscriptTail (PySem.Expr.Name _ _) _ (Value.ref _) (Value.int 0 _)) _ _ _); (with_reducible rename Ans _ _ _ _ => kA9); refine Hold.out ?_)))
  (k_with "call builtin:dict.get" => (((with_reducible rename AnsH _ _ _ _ _ => kA9); refine Hold.out ?_)))
  (k_with "size_fits" => ((rw [PySem.sizeLine_eq]; exact Nat.le_of_ble_eq_true rfl)))
  intro h9
  delta stA
  intro w; revert w
  set_option tactic.hygienic false in intros
  (rename ((hd.heap_1_39 _).In (ghostOf _ _)) => kX9)
  revert kX9
  k_fill
  intro kX9
  unfold Hold
  (rename News _ _ _ _ => kN9)
  simp only [List.cons_append, List.nil_append] at kN9
  k_steps
  unfold Hold
  k_here
  k_dflt (refine LCg.ListComp_U (F₀ := by k_asm) (by with_unfolding_all rfl) (by decide) (by rfl) (by decide) (by rfl) ?_)
  k_steps
  unfold Hold
  (rename News _ _ _ _ => kN9)
  (with_reducible rename Fr _ _ _ _ => kF9)
  k_dflt (refine LCg.CompSrc.ledger rfl kF9 kN9 (by kcf_m) ?sz1 (fun g => ?_))
  case sz1 => rw [List.size_toArray, sizeLine_eq]; omega
  refine col1_rest hrow8 (by intro p hp; kcf_m) (by simp) (by intro i v h; simpa using h) ?turn1 ?fin1
  case turn1 =>
    intro r9 nr9 vv9 kv9 I9 oI9 C9 oC9 D9 m9 ys9 h9 tk9 E9 hm9 hC9 hx9 F9 N9 off9 ne9
    k_steps
    exact LCg.CompEnd.intro F9 N9 _ (fun p hp => hp) off9 (.inr ⟨_, by kcf_m, rfl, _, rfl⟩) ⟨rfl, rfl⟩
  case fin1 =>
    intro D9 h9 tk9 F9 N9 off9
    have hvl7 : kvs8.length ≤ 5 := by
      have e9 := hrow8.len.2
      have e8 := hrow8.len.1
      omega
    have hF6 := far_off1 off9
    k_steps
    (rename (ThingAll _ _ _) => kT8)
    (rename (Good _ _ _) => kG8)
    (rename (_ ≤ 1) => kle8)
    (rename (_ < (6 : Int)) => kv8)
    obtain ⟨FX, KS, hFX, hHX, hTX, hKS, hvX, hGX, hkX, hVX, hKX, hGVX⟩ := fxAll kT8 kH9 kG8 (by assumption) (by assumption) hdv8 hdk8 hg8 kle8 hes8 (by omega)
    repeat (revert ‹_›)
    exact Box.out⟩
noncomputable def stC : (P : Prop) ×' (Box P → stB.1) := ⟨_, by
  w_top off
  k_with_none
  (k_with "k_all" => (assumption))
  (k_with "k_mem" => (assumption))
  (k_with "size_fits" => (((try simp only [List.size_toArray]); rw [PySem.sizeLine_eq]; omega)))
  (k_with "k_mem" => (kcf_m))
  (k_with "k_all" => ((repeat' (first | exact offNil | ((with_reducible show ∀ p ∈ (_, _) :: _, p.1 ≠ _); refine' offCons (by k_ne) ?_) | exact offAbs (by assumption) (by kcf_m) | exact offAbs3 (by assumption) (by kcf_m) | refine' offApp ?_ ?_))))
  (k_with "k_upd" => (first | (refine' Del.head ?zq_a; (case zq_a => k_all)) | (refine' Del.tail ?zq_a ?zq_b; (case zq_a => k_ne); (case zq_b => k_upd))))
  (k_with "call ref" => (((with_reducible show wpAny _ _ (call (Value.ref 333) _) _ _ _); k_here; k_dflt (refine' callee0 ?zq_kB ?zq_kF ?zq_kX ?zq_kN ?zq_D1 ?zq_D2 ?zq_kT ?zq_kK ?zq_kS ?zq_p1 ?zq_p2 ?zq_r1 ?zq_r2 ?zq_kd ?zq_ku ?_; (case zq_kB => k_asm); (case zq_kF => k_asm); (case zq_kX => k_asm); (case zq_kN => k_asm); (case zq_kS => assumption); (case zq_p1 => k_mem); (case zq_p2 => k_mem); (case zq_D1 => k_upd); (case zq_D2 => k_upd); (case zq_r1 => k_mem); (case zq_r2 => k_mem); (case zq_kT => k_asm); (case zq_kK => first | exact rfl | assumption); (case zq_kd => ktr_room); (case zq_ku => first | decide | ktr_units); k_whole; intro r' oS' ts' nt' e' add' vv' kv' dv' dk' nr' h' tk' x' tx' hS' hTs' he' hek' hG' hTN' hov' hok' hmr' hDv' hDk' hlt' F' N'; (try dsimp only); (try k_sweep); refine Hold.out ?_))))
  (k_with "call ref" => (((with_reducible show wpAny _ _ (call (Value.ref 319) _) _ _ _); k_here; k_dflt (refine' source ?zq_kB ?zq_kF ?zq_kX ?zq_kN ?zq_kT ?zq_kK ?zq_kl ?zq_ki ?zq_kn ?zq_kd ?zq_ku ?_; (case zq_kB => k_asm); (case zq_kF => k_asm); (case zq_kX => k_asm); (case zq_kN => k_asm); (case zq_kT => k_asm); (case zq_kK => exact rfl); (case zq_kl => assumption); (case zq_ki => assumption); (case zq_kn => omega); (case zq_kd => first | ktr_room | exact Nat.le_of_ble_eq_true rfl ); (case zq_ku => first | decide | ktr_units); k_whole; intro r' oS' h' tk' hS' F' N' l1; (try k_lt l1); (try dsimp only); (try k_sweep)))))
  (k_with "call ref" => (((with_reducible show wpAny _ _ (call (Value.ref 326) _) _ _ _); k_here; k_dflt (refine' digit ?zq_kB ?zq_kF ?zq_kX ?zq_kN ?zq_kT ?zq_kK ?zq_kD ?zq_kS ?zq_km ?zq_km2 ?zq_kd ?zq_ku ?_; (case zq_kB => k_asm); (case zq_kF => k_asm); (case zq_kX => k_asm); (case zq_kN => k_asm); (case zq_kT => k_asm); (case zq_kK => first | exact rfl | assumption); (case zq_kD => k_upd); (case zq_kS => assumption); (case zq_km => omega); (case zq_km2 => omega); (case zq_kd => ktr_room); (case zq_ku => first | decide | ktr_units); k_whole; intro v' t' oS' h' tk' hv0' hv1' hS' F' N' hoff'; (try dsimp only); (try k_sweep)))))
  (k_with "eval ListComp" => ((refine Hold.out ?_)))
  (k_with "exec Assign cons ListComp" => ((refine Hold.out ?_)))
  (k_with "CompSrc" => ((refine Hold.out ?_)))
  (k_with "call ref" => (((with_reducible show wpAny _ _ (call (Value.ref 340) _) _ _ _); k_here; k_dflt (refine' rows_call ?zq_kB ?zq_kF ?zq_kX ?zq_kN ?zq_kT ?zq_kK ?zq_off ?zq_ne ?zq_St ?zq_d1 ?zq_d2 ?zq_d3 ?zq_kfx ?zq_kH ?zq_kl ?zq_kd ?zq_ku ?zq_es ?zq_hR; (case zq_St => assumption); (case zq_off => assumption); (case zq_kN => assumption); (case zq_kB => k_asm); (case zq_kF => k_asm); (case zq_kX => k_asm); (case zq_kT => k_asm); (case zq_kK => first | exact rfl | assumption); (case zq_ne => assumption); (case zq_d1 => assumption); (case zq_d2 => assumption); (case zq_d3 => assumption); (case zq_kfx => assumption); (case zq_kH => assumption); (case zq_kl => omega); (case zq_kd => ktr_room); (case zq_ku => first | decide | ktr_units); (case zq_es => exact ⟨_, _, rfl⟩); (case zq_hR => exact fun _ _ h => h)))))
  (k_with "call builtin:len" => ((k_here; (with_reducible show wpAny _ _ (call (Value.builtin "len") [Value.ref _]) _ _ _); (with_unfolding_all refine' len_led ?zq_k1 ?zq_k2 ?zq_k3 ?_; (case zq_k1 => k_asm); (case zq_k2 => k_mem); (case zq_k3 => ((try simp only [Array.size_push, List.size_toArray]); omega)); k_whole); (try simp only [Array.size_push, List.size_toArray]))))
  (k_with "call type:tuple" => ((k_here; (with_reducible show wpAny _ _ (call (Value.type "tuple") [Value.ref _]) _ _ _); k_dflt (refine' kde_tupleOf (zs := _) ?zq_k1 ?zq_k2 ?zq_k3 ?zq_k4 ?zq_k5 ?_; (case zq_k1 => k_asm); (case zq_k2 => k_asm); (case zq_k3 => exact News.isList (by k_asm) (by k_mem)); (case zq_k5 => first | exact List.toList_toArray | exact List.toList_toArray _ | exact Array.toList_toArray _); (case zq_k4 => ((try simp only [List.size_toArray, List.length_cons, List.length_nil]); omega)); k_whole); intro D' h' F' N' l1; (try k_lt l1))))
  (k_with "k_ne" => (first | (refine neN ?_; (try dsimp only); first | exact farNe (by assumption) (by kcf_m) | exact farNe' (by assumption) (by kcf_m) | omega) | fail "k_ne"))
  (k_with "k_all" => (first | (repeat' (first | assumption | exact offNil | ((with_reducible show ∀ p ∈ (_, _) :: _, p.1 ≠ _); refine' offCons (by k_ne) ?_) | exact far_lt (by tbn_find) | exact far_lt (allLt_up (by tbn_find) (by omega)) | exact offFarA (by assumption) (by kcf_m) | exact offOrA (by assumption) (by k_ne) (by kcf_m) | exact offAbs (by assumption) (by kcf_m) | exact offAbs3 (by assumption) (by kcf_m) | refine' offApp ?_ ?_)) | fail "k_all"))
  (k_with "call ref" => (((with_reducible show wpAny _ _ (call (Value.ref 347) _) _ _ _); k_here; k_dflt (refine' answer ?zq_kB ?zq_kF ?zq_kX ?zq_kN ?zq_D1 ?zq_kT ?zq_kK ?zq_kS ?zq_km ?zq_kd ?zq_ku ?_; (case zq_kB => k_asm); (case zq_kF => k_asm); (case zq_kX => k_asm); (case zq_kN => k_asm); (case zq_D1 => k_upd); (case zq_kT => k_asm); (case zq_kK => first | exact rfl | assumption); (case zq_kS => assumption); (case zq_km => omega); (case zq_kd => ktr_room); (case zq_ku => first | decide | ktr_units); k_whole; intro r' oS' add' h' tk' hS' hAns' hoff' F' N'; have hA9' := farAll1 (o1 := oS') hoff'; (try dsimp only); (try k_sweep); refine Hold.out ?_))))
  (k_with "binaryOp Add ref ref" => ((k_here; (with_reducible show wpAny _ _ (binaryOp _ (Value.ref _) (Value.ref _)) _ _ _); k_dflt (refine' addL ?zq_k1 ?zq_k2 ?zq_k3 ?zq_k4 ?zq_k5 ?_; (case zq_k1 => k_asm); (case zq_k2 => k_asm); (case zq_k3 => k_mem); (case zq_k4 => k_mem); (case zq_k5 => ((try simp only [List.length_cons, List.length_nil]); omega)); k_whole); intro D' h' F' N' l1; (try k_lt l1); (try simp only [List.cons_append, List.nil_append] at N'))))
  (k_with "binaryOp Add ref ref" => ((k_here; (with_reducible show wpAny _ _ (binaryOp _ (Value.ref _) (Value.ref _)) _ _ _); k_dflt (refine' addTT ?zq_k1 ?zq_k2 ?zq_k3 ?zq_k4 ?zq_k5 ?_; (case zq_k1 => k_asm); (case zq_k2 => k_asm); (case zq_k3 => k_mem); (case zq_k4 => k_mem); (case zq_k5 => ((try simp only [List.length_cons, List.length_nil]); omega)); k_whole); intro r' n' add' h' F' N' hA' hm'; (try simp only [List.cons_append, List.nil_append] at N'))))
  (k_with "subscriptTail" => ((k_here; (with_reducible show wpAny _ _ (subscriptTail _ _ (Value.ref _) (Value.int _ _)) _ _ _); k_dflt (refine' item_tupleT ?zq_t ?zq_a ?zq_b ?zq_c ?zq_d ?_; (case zq_t => exact News.isTup (by k_asm) (by kcf_m)); (case zq_a => decide); (case zq_b => decide); (case zq_c => rfl); (case zq_d => rfl); k_whole))))
  (k_with "subscriptTail" => (((with_reducible show wpAny _ _ (subscriptTail (PySem.Expr.Name _ _) _ (Value.ref _) (Value.int 0 _)) _ _ _); (with_reducible rename Ans _ _ _ _ => kA9); refine Hold.out ?_)))
  (k_with "call builtin:dict.get" => (((with_reducible rename AnsH _ _ _ _ _ => kA9); refine Hold.out ?_)))
  (k_with "size_fits" => ((rw [PySem.sizeLine_eq]; exact Nat.le_of_ble_eq_true rfl)))
  (k_with "ktn_ord" => (((refine memTrans (by assumption) ?_); (try simp only [List.cons_append, List.nil_append]); kcf_all)))
  (k_with "call ref" => (((with_reducible show wpAny _ _ (call (Value.ref 241) _) _ _ _); k_here; k_dflt (refine' callKind ?zq_kB ?zq_kF ?zq_kX ?zq_kN ?zq_kT ?zq_kK ?zq_kfx ?zq_kH ?zq_kTl ?zq_kTs ?zq_kl ?zq_kv ?zq_kG ?zq_kla ?zq_kA ?zq_kGA ?zq_k50 ?zq_kd ?zq_ku ?_; (case zq_kB => k_asm); (case zq_kF => k_asm); (case zq_kX => k_asm); (case zq_kN => k_asm); (case zq_kT => k_asm); (case zq_kK => first | exact rfl | assumption); (case zq_kH => assumption); (case zq_kTl => k_mem); (case zq_kTs => assumption); (case zq_kl => assumption); (case zq_kv => assumption); (case zq_kG => assumption); (case zq_kla => k_mem); (case zq_kA => assumption); (case zq_kGA => assumption); (case zq_k50 => omega); (case zq_kfx => ktn_ord); (case zq_kd => ktr_room); (case zq_ku => first | decide | ktr_units); k_whole; intro r' add' h' tk' F' N' hA' hD'; (try simp only [List.cons_append, List.nil_append] at N'); (try dsimp only); (try k_sweep)))))
  (k_with "call ref" => (((with_reducible show wpAny _ _ (call (Value.ref 262) _) _ _ _); k_here; k_dflt (refine' kindName ?zq_kB ?zq_kF ?zq_kX ?zq_kN ?zq_kT ?zq_kK ?zq_kl ?zq_kv ?zq_kt ?zq_kd ?zq_ku ?_; (case zq_kB => k_asm); (case zq_kF => k_asm); (case zq_kX => k_asm); (case zq_kN => k_asm); (case zq_kT => k_asm); (case zq_kK => first | exact rfl | assumption); (case zq_kv => assumption); (case zq_kl => ((refine List.forall_mem_append.mpr ⟨?_, ?_⟩); ktn_ord; kcf_all)); (case zq_kt => assumption); (case zq_kd => ktr_room); (case zq_ku => first | decide | ktr_units); k_whole; intro t' h' tk' F' N'; (try dsimp only); (try k_sweep)))))
  (k_with "exec Try" => ((k_here; (with_reducible show wpAny _ _ (exec (Stmt.Try _ (_ :: _) _ [] _) _) _ _ _); refine wpAny_Try_except ?_)))
  intro h9
  delta stB
  intro w; revert w
  set_option tactic.hygienic false in intros
  (rename ((hd.heap_1_39 _).In (ghostOf _ _)) => kX9)
  revert kX9
  k_fill
  intro kX9
  unfold Hold
  clear hs hlay0 hL hr hl2 ra w1 r0 hr_1 hcond' hD
  (rename Ans _ _ _ _ => kA9)
  (rename News _ _ _ _ => kN9)
  with_reducible refine' pack3 (o := W.listOf _ 0) kN9 ?hm ?rr ?go
  case hm => kcf_m
  case rr => k_upd
  intro rest9 kN8 hoff8 hall8
  simp only [List.forall_mem_cons, List.forall_mem_append, and_assoc] at hall8
  repeat (have m9 := And.left hall8; replace hall8 := And.right hall8)
  have kA8 := Ans.up kA9 (l' := rest9) (by assumption)
  have hFX8 : ∀ p ∈ FX, p ∈ rest9 := memTrans hFX (by simp only [List.forall_mem_append, List.forall_mem_cons]; (repeat' apply And.intro) <;> first | assumption | exact List.forall_mem_nil _)
  clear kN9 kA9 hFX
  repeat (with_reducible rename ((_ : Nat) < _ ∧ _) => z9; clear z9)
  repeat (with_reducible rename (Far _ _) => z9; clear z9)
  repeat (with_reducible rename (LCg.Off1 _ _) => z9; clear z9)
  repeat (with_reducible rename (∀ p ∈ _, Far p.1 _) => z9; clear z9)
  obtain ⟨x7, t7, vs7, n7, hm7, kH7⟩ := ansHead kA8
  clear kA8
  k_here
  refine tup_head kN8 (by kcf_m) ?_
  k_steps
  unfold Hold
  (with_reducible rename AnsH _ _ _ _ _ => kH6)
  (rename News _ _ _ _ => kN7)
  (with_reducible rename Fr _ _ _ _ => kF9)
  with_reducible refine word_mono2 kF9 kN7 kH6 ?wd ?wk
  case wd =>
    intro y8 hy8
    clear kH6
    rcases hy8 with ⟨rfl, rfl⟩ | ⟨rfl, rfl⟩ | ⟨rfl, rfl⟩
    all_goals k_steps
    all_goals exact ⟨_, _, _, rfl, rfl, by assumption, by assumption⟩
  case wk =>
    clear kH6
    repeat (with_reducible rename (PyProof.V.FlatPairs _ _ _) => z9; clear z9)
    repeat (with_reducible rename (Obj.IsDictOf _ _ _) => z9; clear z9)
    intro x8 t8 h8 tk8 F8 N8 kA8
    try k_sweep
    k_steps
    repeat (revert ‹_›)
    exact Box.out⟩
theorem stE : stC.1 := by
  w_top off
  k_with_none
  (k_with "k_all" => (assumption))
  (k_with "k_mem" => (assumption))
  (k_with "size_fits" => (((try simp only [List.size_toArray]); rw [PySem.sizeLine_eq]; omega)))
  (k_with "k_mem" => (kcf_m))
  (k_with "k_all" => ((repeat' (first | exact offNil | ((with_reducible show ∀ p ∈ (_, _) :: _, p.1 ≠ _); refine' offCons (by k_ne) ?_) | exact offAbs (by assumption) (by kcf_m) | exact offAbs3 (by assumption) (by kcf_m) | refine' offApp ?_ ?_))))
  (k_with "k_upd" => (first | (refine' Del.head ?zq_a; (case zq_a => k_all)) | (refine' Del.tail ?zq_a ?zq_b; (case zq_a => k_ne); (case zq_b => k_upd))))
  (k_with "call ref" => (((with_reducible show wpAny _ _ (call (Value.ref 333) _) _ _ _); k_here; k_dflt (refine' callee0 ?zq_kB ?zq_kF ?zq_kX ?zq_kN ?zq_D1 ?zq_D2 ?zq_kT ?zq_kK ?zq_kS ?zq_p1 ?zq_p2 ?zq_r1 ?zq_r2 ?zq_kd ?zq_ku ?_; (case zq_kB => k_asm); (case zq_kF => k_asm); (case zq_kX => k_asm); (case zq_kN => k_asm); (case zq_kS => assumption); (case zq_p1 => k_mem); (case zq_p2 => k_mem); (case zq_D1 => k_upd); (case zq_D2 => k_upd); (case zq_r1 => k_mem); (case zq_r2 => k_mem); (case zq_kT => k_asm); (case zq_kK => first | exact rfl | assumption); (case zq_kd => ktr_room); (case zq_ku => first | decide | ktr_units); k_whole; intro r' oS' ts' nt' e' add' vv' kv' dv' dk' nr' h' tk' x' tx' hS' hTs' he' hek' hG' hTN' hov' hok' hmr' hDv' hDk' hlt' F' N'; (try dsimp only); (try k_sweep); refine Hold.out ?_))))
  (k_with "call ref" => (((with_reducible show wpAny _ _ (call (Value.ref 319) _) _ _ _); k_here; k_dflt (refine' source ?zq_kB ?zq_kF ?zq_kX ?zq_kN ?zq_kT ?zq_kK ?zq_kl ?zq_ki ?zq_kn ?zq_kd ?zq_ku ?_; (case zq_kB => k_asm); (case zq_kF => k_asm); (case zq_kX => k_asm); (case zq_kN => k_asm); (case zq_kT => k_asm); (case zq_kK => exact rfl); (case zq_kl => assumption); (case zq_ki => assumption); (case zq_kn => omega); (case zq_kd => first | ktr_room | exact Nat.le_of_ble_eq_true rfl ); (case zq_ku => first | decide | ktr_units); k_whole; intro r' oS' h' tk' hS' F' N' l1; (try k_lt l1); (try dsimp only); (try k_sweep)))))
  (k_with "call ref" => (((with_reducible show wpAny _ _ (call (Value.ref 326) _) _ _ _); k_here; k_dflt (refine' digit ?zq_kB ?zq_kF ?zq_kX ?zq_kN ?zq_kT ?zq_kK ?zq_kD ?zq_kS ?zq_km ?zq_km2 ?zq_kd ?zq_ku ?_; (case zq_kB => k_asm); (case zq_kF => k_asm); (case zq_kX => k_asm); (case zq_kN => k_asm); (case zq_kT => k_asm); (case zq_kK => first | exact rfl | assumption); (case zq_kD => k_upd); (case zq_kS => assumption); (case zq_km => omega); (case zq_km2 => omega); (case zq_kd => ktr_room); (case zq_ku => first | decide | ktr_units); k_whole; intro v' t' oS' h' tk' hv0' hv1' hS' F' N' hoff'; (try dsimp only); (try k_sweep)))))
  (k_with "eval ListComp" => ((refine Hold.out ?_)))
  (k_with "exec Assign cons ListComp" => ((refine Hold.out ?_)))
  (k_with "CompSrc" => ((refine Hold.out ?_)))
  (k_with "call ref" => (((with_reducible show wpAny _ _ (call (Value.ref 340) _) _ _ _); k_here; k_dflt (refine' rows_call ?zq_kB ?zq_kF ?zq_kX ?zq_kN ?zq_kT ?zq_kK ?zq_off ?zq_ne ?zq_St ?zq_d1 ?zq_d2 ?zq_d3 ?zq_kfx ?zq_kH ?zq_kl ?zq_kd ?zq_ku ?zq_es ?zq_hR; (case zq_St => assumption); (case zq_off => assumption); (case zq_kN => assumption); (case zq_kB => k_asm); (case zq_kF => k_asm); (case zq_kX => k_asm); (case zq_kT => k_asm); (case zq_kK => first | exact rfl | assumption); (case zq_ne => assumption); (case zq_d1 => assumption); (case zq_d2 => assumption); (case zq_d3 => assumption); (case zq_kfx => assumption); (case zq_kH => assumption); (case zq_kl => omega); (case zq_kd => ktr_room); (case zq_ku => first | decide | ktr_units); (case zq_es => exact ⟨_, _, rfl⟩); (case zq_hR => exact fun _ _ h => h)))))
  (k_with "call builtin:len" => ((k_here; (with_reducible show wpAny _ _ (call (Value.builtin "len") [Value.ref _]) _ _ _); (with_unfolding_all refine' len_led ?zq_k1 ?zq_k2 ?zq_k3 ?_; (case zq_k1 => k_asm); (case zq_k2 => k_mem); (case zq_k3 => ((try simp only [Array.size_push, List.size_toArray]); omega)); k_whole); (try simp only [Array.size_push, List.size_toArray]))))
  (k_with "call type:tuple" => ((k_here; (with_reducible show wpAny _ _ (call (Value.type "tuple") [Value.ref _]) _ _ _); k_dflt (refine' kde_tupleOf (zs := _) ?zq_k1 ?zq_k2 ?zq_k3 ?zq_k4 ?zq_k5 ?_; (case zq_k1 => k_asm); (case zq_k2 => k_asm); (case zq_k3 => exact News.isList (by k_asm) (by k_mem)); (case zq_k5 => first | exact List.toList_toArray | exact List.toList_toArray _ | exact Array.toList_toArray _); (case zq_k4 => ((try simp only [List.size_toArray, List.length_cons, List.length_nil]); omega)); k_whole); intro D' h' F' N' l1; (try k_lt l1))))
  (k_with "k_ne" => (first | (refine neN ?_; (try dsimp only); first | exact farNe (by assumption) (by kcf_m) | exact farNe' (by assumption) (by kcf_m) | omega) | fail "k_ne"))
  (k_with "k_all" => (first | (repeat' (first | assumption | exact offNil | ((with_reducible show ∀ p ∈ (_, _) :: _, p.1 ≠ _); refine' offCons (by k_ne) ?_) | exact far_lt (by tbn_find) | exact far_lt (allLt_up (by tbn_find) (by omega)) | exact offFarA (by assumption) (by kcf_m) | exact offOrA (by assumption) (by k_ne) (by kcf_m) | exact offAbs (by assumption) (by kcf_m) | exact offAbs3 (by assumption) (by kcf_m) | refine' offApp ?_ ?_)) | fail "k_all"))
  (k_with "call ref" => (((with_reducible show wpAny _ _ (call (Value.ref 347) _) _ _ _); k_here; k_dflt (refine' answer ?zq_kB ?zq_kF ?zq_kX ?zq_kN ?zq_D1 ?zq_kT ?zq_kK ?zq_kS ?zq_km ?zq_kd ?zq_ku ?_; (case zq_kB => k_asm); (case zq_kF => k_asm); (case zq_kX => k_asm); (case zq_kN => k_asm); (case zq_D1 => k_upd); (case zq_kT => k_asm); (case zq_kK => first | exact rfl | assumption); (case zq_kS => assumption); (case zq_km => omega); (case zq_kd => ktr_room); (case zq_ku => first | decide | ktr_units); k_whole; intro r' oS' add' h' tk' hS' hAns' hoff' F' N'; have hA9' := farAll1 (o1 := oS') hoff'; (try dsimp only); (try k_sweep); refine Hold.out ?_))))
  (k_with "binaryOp Add ref ref" => ((k_here; (with_reducible show wpAny _ _ (binaryOp _ (Value.ref _) (Value.ref _)) _ _ _); k_dflt (refine' addL ?zq_k1 ?zq_k2 ?zq_k3 ?zq_k4 ?zq_k5 ?_; (case zq_k1 => k_asm); (case zq_k2 => k_asm); (case zq_k3 => k_mem); (case zq_k4 => k_mem); (case zq_k5 => ((try simp only [List.length_cons, List.length_nil]); omega)); k_whole); intro D' h' F' N' l1; (try k_lt l1); (try simp only [List.cons_append, List.nil_append] at N'))))
  (k_with "binaryOp Add ref ref" => ((k_here; (with_reducible show wpAny _ _ (binaryOp _ (Value.ref _) (Value.ref _)) _ _ _); k_dflt (refine' addTT ?zq_k1 ?zq_k2 ?zq_k3 ?zq_k4 ?zq_k5 ?_; (case zq_k1 => k_asm); (case zq_k2 => k_asm); (case zq_k3 => k_mem); (case zq_k4 => k_mem); (case zq_k5 => ((try simp only [List.length_cons, List.length_nil]); omega)); k_whole); intro r' n' add' h' F' N' hA' hm'; (try simp only [List.cons_append, List.nil_append] at N'))))
  (k_with "subscriptTail" => ((k_here; (with_reducible show wpAny _ _ (subscriptTail _ _ (Value.ref _) (Value.int _ _)) _ _ _); k_dflt (refine' item_tupleT ?zq_t ?zq_a ?zq_b ?zq_c ?zq_d ?_; (case zq_t => exact News.isTup (by k_asm) (by kcf_m)); (case zq_a => decide); (case zq_b => decide); (case zq_c => rfl); (case zq_d => rfl); k_whole))))
  (k_with "subscriptTail" => (((with_reducible show wpAny _ _ (subscriptTail (PySem.Expr.Name _ _) _ (Value.ref _) (Value.int 0 _)) _ _ _); (with_reducible rename Ans _ _ _ _ => kA9); refine Hold.out ?_)))
  (k_with "call builtin:dict.get" => (((with_reducible rename AnsH _ _ _ _ _ => kA9); refine Hold.out ?_)))
  (k_with "size_fits" => ((rw [PySem.sizeLine_eq]; exact Nat.le_of_ble_eq_true rfl)))
  (k_with "ktn_ord" => (((refine memTrans (by assumption) ?_); (try simp only [List.cons_append, List.nil_append]); kcf_all)))
  (k_with "call ref" => (((with_reducible show wpAny _ _ (call (Value.ref 241) _) _ _ _); k_here; k_dflt (refine' callKind ?zq_kB ?zq_kF ?zq_kX ?zq_kN ?zq_kT ?zq_kK ?zq_kfx ?zq_kH ?zq_kTl ?zq_kTs ?zq_kl ?zq_kv ?zq_kG ?zq_kla ?zq_kA ?zq_kGA ?zq_k50 ?zq_kd ?zq_ku ?_; (case zq_kB => k_asm); (case zq_kF => k_asm); (case zq_kX => k_asm); (case zq_kN => k_asm); (case zq_kT => k_asm); (case zq_kK => first | exact rfl | assumption); (case zq_kH => assumption); (case zq_kTl => k_mem); (case zq_kTs => assumption); (case zq_kl => assumption); (case zq_kv => assumption); (case zq_kG => assumption); (case zq_kla => k_mem); (case zq_kA => assumption); (case zq_kGA => assumption); (case zq_k50 => omega); (case zq_kfx => ktn_ord); (case zq_kd => ktr_room); (case zq_ku => first | decide | ktr_units); k_whole; intro r' add' h' tk' F' N' hA' hD'; (try simp only [List.cons_append, List.nil_append] at N'); (try dsimp only); (try k_sweep)))))
  (k_with "call ref" => (((with_reducible show wpAny _ _ (call (Value.ref 262) _) _ _ _); k_here; k_dflt (refine' kindName ?zq_kB ?zq_kF ?zq_kX ?zq_kN ?zq_kT ?zq_kK ?zq_kl ?zq_kv ?zq_kt ?zq_kd ?zq_ku ?_; (case zq_kB => k_asm); (case zq_kF => k_asm); (case zq_kX => k_asm); (case zq_kN => k_asm); (case zq_kT => k_asm); (case zq_kK => first | exact rfl | assumption); (case zq_kv => assumption); (case zq_kl => ((refine List.forall_mem_append.mpr ⟨?_, ?_⟩); ktn_ord; kcf_all)); (case zq_kt => assumption); (case zq_kd => ktr_room); (case zq_ku => first | decide | ktr_units); k_whole; intro t' h' tk' F' N'; (try dsimp only); (try k_sweep)))))
  (k_with "exec Try" => ((k_here; (with_reducible show wpAny _ _ (exec (Stmt.Try _ (_ :: _) _ [] _) _) _ _ _); refine wpAny_Try_except ?_)))
  (k_with "call ref" => (((with_reducible show wpAny _ _ (call (Value.ref 101) _) _ _ _); k_here; k_dflt (refine' noMethod2 ?zq_kB ?zq_kF ?zq_kX ?zq_kN ?zq_kT ?zq_kK ?zq_kfx ?zq_kv ?zq_kla ?zq_kA ?zq_k50 ?zq_kd ?zq_ku ?_; (case zq_kB => k_asm); (case zq_kF => k_asm); (case zq_kX => k_asm); (case zq_kN => k_asm); (case zq_kT => k_asm); (case zq_kK => first | exact rfl | assumption); (case zq_kv => assumption); (case zq_kla => k_mem); (case zq_kA => assumption); (case zq_k50 => omega); (case zq_kfx => ktn_ord); (case zq_kd => ktr_room); (case zq_ku => first | decide | ktr_units); k_whole; intro e' h' tk' kTh'; obtain ⟨t', dx', h1', t1', v1', h2', t2', v2', h3', t3', ra', n', add', F', N', far', dic', dat'⟩ := kTh'; (try dsimp only); (try k_sweep)))))
  (k_with "call ref" => (((with_reducible show wpAny _ _ (call (Value.ref 108) _) _ _ _); k_here; k_dflt (refine' manyMethods2 ?zq_kB ?zq_kF ?zq_kX ?zq_kN ?zq_kT ?zq_kK ?zq_kfx ?zq_kv ?zq_kla ?zq_kA ?zq_k50 ?zq_kd ?zq_ku ?_; (case zq_kB => k_asm); (case zq_kF => k_asm); (case zq_kX => k_asm); (case zq_kN => k_asm); (case zq_kT => k_asm); (case zq_kK => first | exact rfl | assumption); (case zq_kv => assumption); (case zq_kla => k_mem); (case zq_kA => assumption); (case zq_k50 => omega); (case zq_kfx => ktn_ord); (case zq_kd => ktr_room); (case zq_ku => first | decide | ktr_units); k_whole; intro e' h' tk' kTh'; obtain ⟨t', dx', h1', t1', v1', h2', t2', v2', h3', t3', ra', n', add', F', N', far', dic', dat'⟩ := kTh'; (try dsimp only); (try k_sweep)))))
  (k_with "exec Raise some none" => ((k_here; k_dflt (refine' raise_71x ?zq_X ?zq_hh ?_; (case zq_X => k_asm); (case zq_hh => exact rfl); k_whole))))
  (k_with "RaiseEnd" => ((k_dflt (refine' RaiseEnd.of ?zq_F ?zq_X ?zq_N ?_; (case zq_F => k_asm); (case zq_X => k_asm); (case zq_N => k_asm); k_whole))))
  (k_with "leaving ref" => ((k_here; k_dflt (refine' leaveD ?zq_K ?zq_F ?zq_N ?zq_off ?zq_hf ?zq_hk ?_; (case zq_F => k_asm); (case zq_N => k_asm); (case zq_K => assumption); (case zq_off => assumption); (case zq_hf => exact rfl); (case zq_hk => exact rfl); k_whole); intro h' R' U'; (try dsimp only at R' U' ⊢))))
  (k_with "noteFrame ref" => ((k_here; (rename RaisedD _ _ _ _ _ _ _ => rkX); k_dflt (refine' caughtD ?zq_K ?zq_F ?zq_U ?zq_R ?zq_X ?zq_T ?zq_hx ?_; (case zq_R => exact rkX); (case zq_K => assumption); (case zq_F => assumption); (case zq_U => assumption); (case zq_X => k_asm); (case zq_T => k_asm); (case zq_hx => k_is); k_whole); intro h' oe' tk' F' N' c1' c2' c3'; (try simp only [List.cons_append, List.nil_append] at N'); (try k_sweep))))
  (k_with "getAttr ref" => ((k_here; k_dflt (refine' exc_get (fill := false) ?zq_F ?zq_X ?zq_N (excK71 _) (getA71 _) ?zq_hm ?zq_hmd ?zq_hc ?zq_hno ?zq_hd ?zq_hh ?zq_ha ?zq_hl ?zq_hv ?_; (case zq_F => k_asm); (case zq_X => k_asm); (case zq_N => k_asm); (case zq_hm => k_mem); (case zq_hc => assumption); (case zq_hno => assumption); (case zq_hd => assumption); (case zq_hmd => k_mem); (case zq_hh => exact rfl); (case zq_ha => k_is); (case zq_hl => first | k_is | exact rfl | with_unfolding_all rfl); (case zq_hv => k_handed); k_whole))))
  (k_with "compareOp NotEq" => (((with_reducible show wpAny _ _ (compareOp CmpOp.NotEq (Value.ref _) (Value.ref _)) _ _ _); refine Hold.out ?_)))
  (k_with "compareOp Eq" => (((with_reducible show wpAny _ _ (compareOp CmpOp.Eq (Value.ref _) (Value.ref _)) _ _ _); refine Hold.out ?_)))
  (k_with "compareOp NotEq ref" => (((with_reducible show wpAny _ _ (compareOp CmpOp.NotEq (Value.ref _) (Value.ref _)) _ _ _); refine Hold.out ?_)))
  (k_with "compareOp Eq ref" => (((with_reducible show wpAny _ _ (compareOp CmpOp.Eq (Value.ref _) (Value.ref _)) _ _ _); refine Hold.out ?_)))
  (k_with "compareOp NotEq ref ref" => (((with_reducible show wpAny _ _ (compareOp CmpOp.NotEq (Value.ref _) (Value.ref _)) _ _ _); refine Hold.out ?_)))
  (k_with "compareOp Eq ref ref" => (((with_reducible show wpAny _ _ (compareOp CmpOp.Eq (Value.ref _) (Value.ref _)) _ _ _); refine Hold.out ?_)))
  (k_with "call ref" => (((with_reducible show wpAny _ _ (call (Value.ref 236) _) _ _ _); k_here; k_dflt (refine' kindOf ?zq_kB ?zq_kF ?zq_kX ?zq_kN ?zq_kT ?zq_kK ?zq_kfx ?zq_kH ?zq_kTl ?zq_kTs ?zq_kl ?zq_kv ?zq_kG ?zq_kd ?zq_ku ?_; (case zq_kB => k_asm); (case zq_kF => k_asm); (case zq_kX => k_asm); (case zq_kN => k_asm); (case zq_kT => k_asm); (case zq_kK => first | exact rfl | assumption); (case zq_kH => assumption); (case zq_kTl => k_mem); (case zq_kTs => assumption); (case zq_kl => assumption); (case zq_kv => assumption); (case zq_kG => assumption); (case zq_kfx => ktn_ord); (case zq_kd => ktr_room); (case zq_ku => first | decide | ktr_units); k_whole; intro r' add' h' tk' F' N' ho' hD'; (try simp only [List.cons_append, List.nil_append] at N'); (try dsimp only); (try k_sweep)))))
  (k_with "call ref" => (((with_reducible show wpAny _ _ (call (Value.ref 139) _) _ _ _); k_here; k_dflt (refine' tableName ?zq_kB ?zq_kF ?zq_kX ?zq_kN ?zq_kT ?zq_kK ?zq_kl ?zq_kv ?zq_kt ?zq_kd ?zq_ku ?_; (case zq_kB => k_asm); (case zq_kF => k_asm); (case zq_kX => k_asm); (case zq_kN => k_asm); (case zq_kT => k_asm); (case zq_kK => first | exact rfl | assumption); (case zq_kv => assumption); (case zq_kl => ((refine List.forall_mem_append.mpr ⟨?_, ?_⟩); ktn_ord; kcf_all)); (case zq_kt => assumption); (case zq_kd => ktr_room); (case zq_ku => first | decide | ktr_units); k_whole; intro t' h' tk' F' N'; (try dsimp only); (try k_sweep)))))
  (k_with "bind" => ((k_here; k_dflt (refine' nameGoesX ?zq_F ?zq_N ?_ ?zq_hk ?zq_hl; (case zq_F => k_asm); (case zq_N => k_asm); (case zq_hk => rfl); (case zq_hl => rfl); k_whole); intro h' v' F' N'; (try k_sweep))))
  (k_with "call ref" => (((with_reducible show wpAny _ _ (call (Value.ref 269) _) _ _ _); k_here; k_dflt (refine' packed ?zq_kB ?zq_kF ?zq_kX ?zq_kN ?zq_kT ?zq_kK ?zq_kM ?zq_knm ?zq_kla ?zq_k5 ?zq_kb ?zq_kd ?zq_ku ?_; (case zq_kB => k_asm); (case zq_kF => k_asm); (case zq_kX => k_asm); (case zq_kN => k_asm); (case zq_kT => k_asm); (case zq_kK => first | exact rfl | assumption); (case zq_kM => exact MethAt.up (by assumption) (by intro p hp; kcf_m)); (case zq_kla => k_mem); (case zq_knm => k_mem); (case zq_k5 => assumption); (case zq_kb => assumption); (case zq_kd => ktr_room); (case zq_ku => first | decide | ktr_units); k_whole; intro r' n' items' add' h' tk' F' N' ho' hr' hP'; (try dsimp only); (try k_sweep)))))
  (k_with "call ref" => (((with_reducible show wpAny _ _ (call (Value.ref 354) _) _ _ _); k_here; k_dflt (refine' laid ?zq_kB ?zq_kF ?zq_kX ?zq_kN ?zq_kT ?zq_kK ?zq_kM ?zq_knm ?zq_kla ?zq_k5 ?zq_kP ?zq_kb0 ?zq_kb ?zq_kd ?zq_ku ?_; (case zq_kB => k_asm); (case zq_kF => k_asm); (case zq_kX => k_asm); (case zq_kN => k_asm); (case zq_kT => k_asm); (case zq_kK => first | exact rfl | assumption); (case zq_kP => exact Pk.up (by assumption) (by intro p hp; kcf_m)); (case zq_kM => exact MethAt.up (by assumption) (by intro p hp; kcf_m)); (case zq_kla => k_mem); (case zq_knm => k_mem); (case zq_k5 => assumption); (case zq_kb0 => assumption); (case zq_kb => assumption); (case zq_kd => ktr_room); (case zq_ku => first | decide | ktr_units); k_whole; intro r' n' add' h' tk' F' N' ho' hr'; (try dsimp only); (try k_sweep)))))
  delta stC
  intro w; revert w
  set_option tactic.hygienic false in intros
  (rename ((hd.heap_1_39 _).In (ghostOf _ _)) => kX9)
  revert kX9
  k_fill
  intro kX9
  (rename AnsW _ _ _ _ _ => kA9)
  (rename (DatIn _ _ (Dat.tuple [S "tuple", _, Dat.none])) => kD3)
  obtain ⟨ra3, rfl⟩ := datRef kD3
  rcases kA9 with ⟨t9, n9, hm9, rfl⟩ | ⟨t9, n9, v9, hm9, rfl⟩ | ⟨hO9, rfl⟩
  · k_steps
    unfold Hold
    (rename News _ _ _ _ => kN9)
    (with_reducible rename Fr _ _ _ _ => kF9)
    (rename (DatIn _ (Value.ref _) (Dat.tuple [S "struct", _, _])) => kD9)
    have kX7 := subLed kN9 (memTrans hFX8 (by kcf_all))
    refine neD (getE kF9 kX9 kN9) (getE kF9 kX9 kN9) (kD9.mono ?m1) ?m2 (okThrown (by assumption) (by assumption) (by decide +kernel)) ?hu ?go
    case m1 => simp only [List.cons_append, List.nil_append]; kcf_all
    case m2 => exact DatIn.tuple (by kcf_m) (.cons (.str _ _) (.cons (DatIn.tuple (by kcf_m) (.cons (.str _ _) (.cons (.str _ _) (.cons (.tuple (by kcf_m) .nil) .nil)))) (.cons (DatIn.tuple (by kcf_m) (.cons (hvX.mono kX7) (.cons (.tuple (by kcf_m) (.cons (.str _ _) (.cons (.tuple (by kcf_m) (hVX.mono kX7)) .nil))) .nil))) .nil)))
    case hu => first | ktr_units | k_units | decide
    case go =>
      clear kX7
      k_steps
      unfold Hold
      (rename News _ _ _ _ => kN6)
      (with_reducible rename Fr _ _ _ _ => kF6)
      have kX6 := subLed kN6 (memTrans hFX8 (by kcf_all))
      have kR6 := memOf (vs := kvs8) (r := rest9) (by assumption) (by assumption)
      (rename (DatIn _ _ (Dat.tuple [S "tuple", _, Dat.none])) => kD6)
      refine' eqL (xs := [.ref _]) (ys := [.ref _]) (ds := [_]) (getE kF6 kX9 kN6) (getE kF6 kX9 kN6) ?ma ?mb ?Da ?Db (okAsked ?o1 ?o2 ?o3) ?hu2 ?go2
      case ma => kcf_m
      case mb => kcf_m
      case Da => exact .cons (.tuple (by kcf_m) (.cons (.str _ _) (.cons (kD6.mono (sub3 kX6 (by kcf_all))) (.cons (.int _ _) .nil)))) .nil
      case Db => exact .cons (.tuple (by kcf_m) (.cons (.str _ _) (.cons (.tuple (by kcf_m) (.cons (.str _ _) (.cons (.tuple (by kcf_m) (.cons (hkX.mono kX6) (hKX.mono kX6))) (.cons .none .nil)))) (.cons (.int _ _) .nil)))) .nil
      case o1 => assumption
      case o2 => assumption
      case o3 => exact tname_ok (by assumption) (by assumption)
      case hu2 => first | ktr_units | k_units | decide
      case go2 =>
        clear kX6
        k_steps
  · k_steps
    unfold Hold
    (rename News _ _ _ _ => kN9)
    (with_reducible rename Fr _ _ _ _ => kF9)
    (rename (DatIn _ (Value.ref _) (Dat.tuple [S "struct", _, _])) => kD9)
    have kX7 := subLed kN9 (memTrans hFX8 (by kcf_all))
    refine neD (getE kF9 kX9 kN9) (getE kF9 kX9 kN9) (kD9.mono ?m1) ?m2 (okThrown (by assumption) (by assumption) (by decide +kernel)) ?hu ?go
    case m1 => simp only [List.cons_append, List.nil_append]; kcf_all
    case m2 => exact DatIn.tuple (by kcf_m) (.cons (.str _ _) (.cons (DatIn.tuple (by kcf_m) (.cons (.str _ _) (.cons (.str _ _) (.cons (.tuple (by kcf_m) .nil) .nil)))) (.cons (DatIn.tuple (by kcf_m) (.cons (hvX.mono kX7) (.cons (.tuple (by kcf_m) (.cons (.str _ _) (.cons (.tuple (by kcf_m) (hVX.mono kX7)) .nil))) .nil))) .nil)))
    case hu => first | ktr_units | k_units | decide
    case go =>
      clear kX7
      k_steps
      unfold Hold
      (rename News _ _ _ _ => kN6)
      (with_reducible rename Fr _ _ _ _ => kF6)
      have kX6 := subLed kN6 (memTrans hFX8 (by kcf_all))
      have kR6 := memOf (vs := kvs8) (r := rest9) (by assumption) (by assumption)
      (rename (DatIn _ _ (Dat.tuple [S "tuple", _, Dat.none])) => kD6)
      refine' eqL (xs := [.ref _]) (ys := [.ref _]) (ds := [_]) (getE kF6 kX9 kN6) (getE kF6 kX9 kN6) ?ma ?mb ?Da ?Db (okAsked ?o1 ?o2 ?o3) ?hu2 ?go2
      case ma => kcf_m
      case mb => kcf_m
      case Da => exact .cons (.tuple (by kcf_m) (.cons (.str _ _) (.cons (kD6.mono (sub3 kX6 (by kcf_all))) (.cons (.int _ _) .nil)))) .nil
      case Db => exact .cons (.tuple (by kcf_m) (.cons (.str _ _) (.cons (.tuple (by kcf_m) (.cons (.str _ _) (.cons (.tuple (by kcf_m) (.cons (hkX.mono kX6) (hKX.mono kX6))) (.cons .none .nil)))) (.cons (.int _ _) .nil)))) .nil
      case o1 => assumption
      case o2 => assumption
      case o3 => exact tname_ok (by assumption) (by assumption)
      case hu2 => first | ktr_units | k_units | decide
      case go2 =>
        clear kX6
        k_steps
  · obtain ⟨t9, n9, x9, st9, nm9, b9, names9, nn9, tn9, ts9, ni9, i9, ti9, tk9, o9, hm9, hM9, hnm9, hb0, hb1, hst9, hsy9, hdi9, htn9⟩ := hO9
    k_steps
    unfold Hold
    (rename News _ _ _ _ => kN9)
    refine kne_pairs (knd := PySem.strKind _ _) kN9 (by kcf_m) (by kcf_m) hdi9 hdi9 hsy9 hsy9 rfl ?hu (KeqHits.hit (by rfl) (SeqAt.EqAt.same _) .nil) ?go
    case hu => k_units
    case go =>
      k_steps
      unfold Hold
      (rename News _ _ _ _ => kN5)
      (with_reducible rename Fr _ _ _ _ => kF5)
      have kX5 := subLed kN5 (memTrans hFX8 (by kcf_all))
      have kR5 := memOf (vs := kvs8) (r := rest9) (by assumption) (by assumption)
      (rename (DatIn _ _ (Dat.tuple [S "tuple", _, Dat.none])) => kD5)
      refine' neD (getE kF5 kX9 kN5) (getE kF5 kX9 kN5) ?Da ?Db (okDue ?o1 ?o2) ?hu ?go
      case Da => exact kD5.mono (sub3 kX5 (by kcf_all))
      case Db => exact .tuple (by kcf_m) (.cons (.str _ _) (.cons (.tuple (by kcf_m) (.cons (hkX.mono kX5) (hKX.mono kX5))) (.cons .none .nil)))
      case o1 => assumption
      case o2 => assumption
      case hu => first | ktr_units | k_units | decide
      case go =>
        clear kX5 kR5
        k_steps
        unfold Hold
        (rename News _ _ _ _ => kN4)
        (with_reducible rename Fr _ _ _ _ => kF4)
        have kX4 := subLed kN4 (memTrans hFX8 (by kcf_all))
        refine' neL (ds := _ :: _) (getE kF4 kX9 kN4) (getE kF4 kX9 kN4) ?ma ?mb ?Da ?Db (okVals ?o1 ?o2) ?hu ?go
        case ma => kcf_m
        case mb => kcf_m
        case Da => exact .cons (hvX.mono kX4) (hVX.mono kX4)
        case Db => exact .cons (hvX.mono kX4) (hVX.mono kX4)
        case o1 => assumption
        case o2 => assumption
        case hu => first | ktr_units | k_units | decide
        case go =>
          clear kX4
          k_steps
          unfold Hold
          (rename News _ _ _ _ => kN6)
          (with_reducible rename Fr _ _ _ _ => kF6)
          have kX6 := subLed kN6 (memTrans hFX8 (by kcf_all))
          have kR6 := memOf (vs := kvs8) (r := rest9) (by assumption) (by assumption)
          (rename (DatIn _ _ (Dat.tuple [S "tuple", _, Dat.none])) => kD6)
          refine' eqL (xs := [.ref _]) (ys := [.ref _]) (ds := [_]) (getE kF6 kX9 kN6) (getE kF6 kX9 kN6) ?ma ?mb ?Da ?Db (okAsked ?o1 ?o2 ?o3) ?hu2 ?go2
          case ma => kcf_m
          case mb => kcf_m
          case Da => exact .cons (.tuple (by kcf_m) (.cons (.str _ _) (.cons (kD6.mono (sub3 kX6 (by kcf_all))) (.cons (.int _ _) .nil)))) .nil
          case Db => exact .cons (.tuple (by kcf_m) (.cons (.str _ _) (.cons (.tuple (by kcf_m) (.cons (.str _ _) (.cons (.tuple (by kcf_m) (.cons (hkX.mono kX6) (hKX.mono kX6))) (.cons .none .nil)))) (.cons (.int _ _) .nil)))) .nil
          case o1 => assumption
          case o2 => assumption
          case o3 => exact tname_ok (by assumption) (by assumption)
          case hu2 => first | ktr_units | k_units | decide
          case go2 =>
            clear kX6
            k_steps
theorem mainT : PySem.Challenge.rw_pc0201_01.Holds := hd.law fun said => (hd.top said).2 ⟨stA.2 ⟨stB.2 ⟨stC.2 ⟨stE⟩⟩⟩ said⟩
end
end Mine
theorem PySem.Challenge.cw_pc0201_01_holds : PySem.Challenge.rw_pc0201_01.Holds :=
  Mine.mainT
