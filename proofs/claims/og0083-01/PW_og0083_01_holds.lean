import PyProof.Rows.All
import Wide.All
import OpenK.AllK
import Wide.FinOn
import KE.BytesMake
import KE.KLcTest
import KE.KDictList
import KE.KDeep
import KE.KTup
import KE.KRevSl
import KE.BytesK
import PyProof.ExcInit
import PyProof.ExcBaseAll.Exception
import PyProof.InstStore
import PyProof.InstStoreFacts
import KE.KTryDeep
import Lean
import PySem.Challenge.RW_og0083_01
set_option linter.all false
set_option maxRecDepth 100000
set_option Elab.async false
namespace Mine
structure Flagged (n : Nat) : Prop where
open PySem PySem.W PyProof.Rows
noncomputable def atom0 : Str := Str.ofString "q"
theorem atom0_same : atom0 = atom0 := rfl
name_quick tw7974539635466776896 for atom0 by atom0_same
name_quick tw8075568018651887793 for atom0 by atom0_same
name_quick tw9506841374142046533 for atom0 by atom0_same
name_quick tw5944836496424732133 for atom0 by atom0_same
name_quick tw14979626087600564940 for atom0 by atom0_same
name_quick tw2313353295222260650 for atom0 by atom0_same
name_quick tw9719247598863346662 for atom0 by atom0_same
name_quick tw12299960069397203266 for atom0 by atom0_same
name_quick tw16360918003126229584 for atom0 by atom0_same
name_quick tw16966814322356759819 for atom0 by atom0_same
name_quick tw16697116713213952808 for atom0 by atom0_same
name_quick tw3657741979558153257 for atom0 by atom0_same
name_quick tw9951705424602377420 for atom0 by atom0_same
name_quick tw6711915476519705758 for atom0 by atom0_same
name_quick tw2334193516648215543 for atom0 by atom0_same
name_quick tw13640514254501968386 for atom0 by atom0_same
name_quick tw17846936440860909165 for atom0 by atom0_same
name_quick tw8400853705098224536 for atom0 by atom0_same
name_quick tw912392155897948271 for atom0 by atom0_same
name_quick tw219737044198020058 for atom0 by atom0_same
name_quick tw16817318245366136608 for atom0 by atom0_same
name_quick tw10029231156530900338 for atom0 by atom0_same
name_quick tw9862997608875712007 for atom0 by atom0_same
name_quick tw8693227569615203950 for atom0 by atom0_same
name_quick tw18220123701641295943 for atom0 by atom0_same
name_quick tw5268983451555188008 for atom0 by atom0_same
name_quick tw2283851925072248500 for atom0 by atom0_same
name_quick tw11317593695737139937 for atom0 by atom0_same
name_quick tw15450981722951097364 for atom0 by atom0_same
name_quick tw4224760802259116069 for atom0 by atom0_same
name_quick tw16427306112580772713 for atom0 by atom0_same
name_quick tw11625766737575182897 for atom0 by atom0_same
name_quick tw3856783459128436802 for atom0 by atom0_same
name_quick tw15894407043143930727 for atom0 by atom0_same
name_quick tw347637069881736656 for atom0 by atom0_same
name_quick tw12268644228514654432 for atom0 by atom0_same
name_quick tw15919542637913265678 for atom0 by atom0_same
name_quick tw11588390666370768167 for atom0 by atom0_same
name_quick tw17497748084772794779 for atom0 by atom0_same
name_quick tw10323183001455561277 for atom0 by atom0_same
name_quick tw16414604833108395602 for atom0 by atom0_same
name_quick tw10887116778572429059 for atom0 by atom0_same
name_quick tw5770868932273138760 for atom0 by atom0_same
name_quick tw17476080006546285661 for atom0 by atom0_same
name_quick tw10073347824450446311 for atom0 by atom0_same
name_quick tw117213463901210413 for atom0 by atom0_same
name_quick tw10948738476641704880 for atom0 by atom0_same
name_quick tw7401281599722004195 for atom0 by atom0_same
name_quick tw3177591051634278968 for atom0 by atom0_same
name_quick tw1092655722715705105 for atom0 by atom0_same
name_quick tw13335737130258781183 for atom0 by atom0_same
name_quick tw7581352650102555174 for atom0 by atom0_same
name_quick tw13317431791736044220 for atom0 by atom0_same
name_quick tw1537898542681612871 for atom0 by atom0_same
name_quick tw4658958612460137192 for atom0 by atom0_same
name_quick tw17111948838632640456 for atom0 by atom0_same
name_quick tw16241802466949684156 for atom0 by atom0_same
name_quick tw14386061602966655976 for atom0 by atom0_same
name_quick tw14333388528381170442 for atom0 by atom0_same
name_quick tw8703263022893421829 for atom0 by atom0_same
name_quick tw6550987210724342151 for atom0 by atom0_same
name_quick tw17730428716208468724 for atom0 by atom0_same
name_quick tw13145125596335152023 for atom0 by atom0_same
name_quick tw10010936943081839664 for atom0 by atom0_same
name_quick tw4748654258956052638 for atom0 by atom0_same
name_quick tw14537914154153760125 for atom0 by atom0_same
name_quick tw17672482021469178181 for atom0 by atom0_same
name_quick tw14311459727803291754 for atom0 by atom0_same
name_quick tw4302124980754421698 for atom0 by atom0_same
name_quick tw13016732220969518872 for atom0 by atom0_same
name_quick tw10007627690174824804 for atom0 by atom0_same
name_quick tw9467589175468403638 for atom0 by atom0_same
name_quick tw3105397867545767578 for atom0 by atom0_same
name_quick tw4407734736301137906 for atom0 by atom0_same
name_quick tw14126943448341045398 for atom0 by atom0_same
name_quick tw9948023125614773506 for atom0 by atom0_same
name_quick tw1829445100760108279 for atom0 by atom0_same
name_quick tw7232422423428716515 for atom0 by atom0_same
name_quick tw14073706353221006472 for atom0 by atom0_same
name_quick tw16979880578912567463 for atom0 by atom0_same
name_quick tw7892128664451923741 for atom0 by atom0_same
name_quick tw3972328310683599613 for atom0 by atom0_same
name_quick tw1962928258387122110 for atom0 by atom0_same
name_quick tw18350330562280901221 for atom0 by atom0_same
name_quick tw16531745337717519161 for atom0 by atom0_same
name_quick tw682011567655089306 for atom0 by atom0_same
name_quick tw5978237884098788730 for atom0 by atom0_same
name_quick tw4933834842325187142 for atom0 by atom0_same
name_quick tw15980859228951719591 for atom0 by atom0_same
name_quick tw10833955939284561965 for atom0 by atom0_same
name_quick tw1258717718454355964 for atom0 by atom0_same
name_quick tw1617757218408452269 for atom0 by atom0_same
name_quick tw17828083071136270317 for atom0 by atom0_same
name_quick tw8727135674562949291 for atom0 by atom0_same
name_quick tw2334299552400917057 for atom0 by atom0_same
name_quick tw1702518465993881591 for atom0 by atom0_same
name_quick tw4075660801711882420 for atom0 by atom0_same
name_quick tw7496433998918960881 for atom0 by atom0_same
name_quick tw12945451867199242903 for atom0 by atom0_same
name_quick tw16296994325663420285 for atom0 by atom0_same
name_quick tw151948405760981731 for atom0 by atom0_same
name_quick tw11566699232636054958 for atom0 by atom0_same
name_quick tw1503297043503765363 for atom0 by atom0_same
name_quick tw17988542015724977305 for atom0 by atom0_same
name_quick tw13215998728584607739 for atom0 by atom0_same
name_quick tw4549333791460862111 for atom0 by atom0_same
name_quick tw3152983702415266003 for atom0 by atom0_same
name_quick tw8579058602437062094 for atom0 by atom0_same
name_quick tw12233582284571471492 for atom0 by atom0_same
name_quick tw18211773271919218964 for atom0 by atom0_same
name_quick tw17532718790514356516 for atom0 by atom0_same
name_quick tw8206430501311747189 for atom0 by atom0_same
name_quick tw16145008321745377990 for atom0 by atom0_same
name_quick tw13254397897704925713 for atom0 by atom0_same
name_quick tw4980102563643897964 for atom0 by atom0_same
name_quick tw15663404670287596823 for atom0 by atom0_same
name_quick tw17069979004554194336 for atom0 by atom0_same
name_quick tw8603108125212654177 for atom0 by atom0_same
name_quick tw6245536207120538393 for atom0 by atom0_same
name_quick tw1377046205977697930 for atom0 by atom0_same
name_quick tw1333364371103165705 for atom0 by atom0_same
name_quick tw10424941004445345732 for atom0 by atom0_same
name_quick tw11636919720809706868 for atom0 by atom0_same
name_quick tw15766043655864335149 for atom0 by atom0_same
name_quick tw5349121933718820234 for atom0 by atom0_same
name_quick tw7250012664060256230 for atom0 by atom0_same
name_quick tw16439824349840649037 for atom0 by atom0_same
set_option maxRecDepth 100000 in
set_option maxHeartbeats 8000000 in
open_top hd for PySem.Challenge.rw_og0083_01
local macro_rules | `(tactic| walk_at $s:str) => `(tactic| k_extra $s)
open PySem.Calls PyProof.V
/-- some world -/
noncomputable def w0 : World := ⟨fun _ _ => 0, { strHash := fun _ => 0, shareClass := fun _ => 0, mergeTok := id, idOf := fun _ => 0, idOfShared := fun _ _ => 0, followText := fun _ => false, idOfImm := fun _ => 0 }⟩
/-- what holds of the chosen counterexample holds of all -/
theorem hk {α : Type} {ne : Nonempty α} {p : α → Prop} (h : p (@Classical.epsilon α ne fun x => ¬ p x)) (x : α) : p x :=
  Classical.byContradiction fun hn => absurd h (Classical.epsilon_spec (p := fun x => ¬ p x) ⟨x, hn⟩)
noncomputable abbrev Bts := Array UInt8
noncomputable abbrev RowsT := List (Int × Bts)

/-- the dict's values are bytes -/
inductive BP : List (Int × Value) → RowsT → Prop
  | nil : BP [] []
  | cons {k : Int} {b : Bts} {t : Tok} {kvs : List (Int × Value)} {r : RowsT} : BP kvs r → BP ((k, .bytes b t) :: kvs) ((k, b) :: r)

noncomputable def rkeys (r : RowsT) : List Int := r.map (·.1)
noncomputable def rhas (r : RowsT) (k : Int) : Bool := r.any fun p => decide (p.1 = k)
noncomputable def rget (r : RowsT) (k : Int) : Bts := ((r.find? fun p => decide (p.1 = k)).map (·.2)).getD #[]
noncomputable def rput (r : RowsT) (k : Int) (b : Bts) : RowsT := if rhas r k then r.map (fun p => if p.1 = k then (p.1, b) else p) else r ++ [(k, b)]
noncomputable def rdel (r : RowsT) (k : Int) : RowsT := r.filter fun p => decide (p.1 ≠ k)

theorem BP.keys {kvs : List (Int × Value)} {r : RowsT} (h : BP kvs r) : kvs.map (·.1) = rkeys r := by
  induction h with
  | nil => rfl
  | cons _ ih => simp only [List.map_cons, rkeys, ih]
theorem BP.length {kvs : List (Int × Value)} {r : RowsT} (h : BP kvs r) : kvs.length = r.length := by
  induction h with
  | nil => rfl
  | cons _ ih => simp only [List.length_cons, ih]
theorem BP.any {kvs : List (Int × Value)} {r : RowsT} (h : BP kvs r) (k : Int) : (kvs.any fun p => decide (p.1 = k)) = rhas r k := by
  unfold rhas
  induction h with
  | nil => rfl
  | cons _ ih => simp only [List.any_cons, ih]
theorem BP.isSome {kvs : List (Int × Value)} {r : RowsT} (h : BP kvs r) (k : Int) : (valueAt kvs k).isSome = rhas r k := by
  rw [← h.any k]
  unfold valueAt
  rw [Option.isSome_map]
  clear h
  induction kvs with
  | nil => rfl
  | cons p l ih =>
    rw [List.find?_cons, List.any_cons]
    by_cases e : p.1 = k
    · simp [e]
    · simpa [e] using ih
theorem BP.value {kvs : List (Int × Value)} {r : RowsT} (h : BP kvs r) {k : Int} (hk : rhas r k = true) : ∃ t, valueAt kvs k = some (.bytes (rget r k) t) := by
  unfold valueAt rget
  induction h with
  | nil => cases hk
  | @cons k' b t kvs r _ ih =>
    by_cases e : k' = k
    · subst e; exact ⟨t, by simp⟩
    · have hk' : rhas r k = true := by simpa [rhas, e] using hk
      obtain ⟨t', ih⟩ := ih hk'
      exact ⟨t', by simpa [e] using ih⟩
theorem BP.append {kvs kvs' : List (Int × Value)} {r r' : RowsT} (h : BP kvs r) (h' : BP kvs' r') : BP (kvs ++ kvs') (r ++ r') := by
  induction h with
  | nil => exact h'
  | cons _ ih => exact .cons ih
theorem BP.put {kvs : List (Int × Value)} {r : RowsT} (h : BP kvs r) (k : Int) (b : Bts) (t : Tok) : BP (stored kvs k (.bytes b t)) (rput r k b) := by
  unfold stored rput
  rw [h.any k]
  split
  · induction h with
    | nil => exact .nil
    | @cons k' b' t' kvs r hr ih =>
      rename_i hk
      by_cases e : k' = k
      · simp only [List.map_cons, e, if_true]
        refine .cons ?_
        clear hk ih
        induction hr with
        | nil => exact .nil
        | @cons k2 b2 t2 _ _ _ ih2 =>
          by_cases e2 : k2 = k
          · simp only [List.map_cons, e2, if_true]; exact .cons ih2
          · simp only [List.map_cons, e2, if_false]; exact .cons ih2
      · simp only [List.map_cons, e, if_false]
        exact .cons (ih (by simpa [rhas, e] using hk))
  · exact h.append (.cons .nil)
theorem BP.del {kvs : List (Int × Value)} {r : RowsT} (h : BP kvs r) (k : Int) : BP (without kvs k) (rdel r k) := by
  unfold without rdel
  induction h with
  | nil => exact .nil
  | @cons k' b t kvs r _ ih =>
    by_cases e : k' = k
    · simpa [e] using ih
    · simpa [e] using BP.cons ih
theorem BP.at {kvs : List (Int × Value)} {r : RowsT} (h : BP kvs r) {j : Nat} {k : Int} {v : Value} (e : kvs[j]? = some (k, v)) : ∃ b t, r[j]? = some (k, b) ∧ v = .bytes b t := by
  induction h generalizing j with
  | nil => cases e
  | @cons k' b t kvs r _ ih =>
    cases j with
    | zero => simp at e; obtain ⟨rfl, rfl⟩ := e; exact ⟨b, t, rfl, rfl⟩
    | succ j => exact ih (by simpa using e)

/-- a dict object of rows -/
noncomputable def RowsO (w : World) (o : Obj) (r : RowsT) : Prop := ∃ kvs, o.IsDictOf (PySem.intKind PySem.Challenge.rw_og0083_01.row.prog w) kvs ∧ BP kvs r
theorem RowsO.nodup {w : World} {o : Obj} {r : RowsT} (h : RowsO w o r) : (rkeys r).Nodup := by
  obtain ⟨kvs, ⟨_, _, _, _, _, _, n⟩, b⟩ := h
  rw [← b.keys]; exact n

section
variable {w : World} {A : Around} {E : Value → Shared → Prop} {s : Shared} {h₀ : Heap} {L d : Addr} {m : Str → Option Value} {news : List (Addr × Obj)} {g : Obj → List (Addr × Obj)} {o : Obj} {r : RowsT} {k : Int} {t : Tok}
noncomputable abbrev PR : Program := PySem.Challenge.rw_og0083_01.row.prog

/-- the dict lies in the base or in the ledger -/
noncomputable def RowsAt (w : World) (h : Heap) (d : Addr) (r : RowsT) : Prop := ∃ o, h.get? d = some o ∧ RowsO w o r
theorem RowsAt.keeps {h h' : Heap} (x : RowsAt w h d r) (k : ∀ b o, h.get? b = some o → h'.get? b = some o) : RowsAt w h' d r := let ⟨o, e, q⟩ := x; ⟨o, k _ _ e, q⟩
theorem RowsAt.ofNews (N : News h₀ L s.heap news) (hm : (d, o) ∈ news) (R : RowsO w o r) : RowsAt w s.heap d r := ⟨o, (N _ hm).1, R⟩
theorem RowsAt.ofFr (F : Fr h₀ L s.heap m) (R : RowsAt w h₀ d r) : RowsAt w s.heap d r := R.keeps F.keep
theorem RowsAt.dict {h : Heap} (x : RowsAt w h d r) : ∃ kvs, h.DictOf (PySem.intKind PR w) d kvs ∧ BP kvs r := let ⟨o, e, kvs, q, b⟩ := x; ⟨kvs, Heap.dictOf_iff.mpr ⟨o, e, q⟩, b⟩

theorem rows_in {Q : Value → Shared → Prop} (R : RowsAt w s.heap d r) (lo : (d == sysModules) = false) (h : Q (.bool (rhas r k)) { s with toks := s.toks + 1 }) :
    wpAny (model PR w) A (compareOp .In (.int k t) (.ref d)) Q E s := by
  obtain ⟨kvs, D, b⟩ := R.dict
  exact wpAny_in_of (intKind_is _ _ _ _) lo D.mapOf (by rw [b.isSome]; exact h)
theorem rows_notin {Q : Value → Shared → Prop} (R : RowsAt w s.heap d r) (lo : (d == sysModules) = false) (h : Q (.bool (!rhas r k)) { s with toks := s.toks + 1 }) :
    wpAny (model PR w) A (compareOp .NotIn (.int k t) (.ref d)) Q E s := by
  obtain ⟨kvs, D, b⟩ := R.dict
  exact wpAny_notIn_of (intKind_is _ _ _ _) lo D.mapOf (by rw [b.isSome]; exact h)
theorem rows_item {value slice : PySem.Expr} {Q : Value → Shared → Prop} (R : RowsAt w s.heap d r) (hk : rhas r k = true) (h : ∀ t', Q (.bytes (rget r k) t') { s with toks := s.toks + 1 })
    (hs : subscripted slice false (.ref d) (.int k t) = operate [.ref d, .int k t] (getItem (.ref d) (.int k t)) := by with_unfolding_all rfl) (hg : ∀ r, letTemporaryGo value (.ref d) r = pure () := by intro _; with_unfolding_all rfl) :
    wpAny (model PR w) A (subscriptTail value slice (.ref d) (.int k t)) Q E s := by
  obtain ⟨kvs, D, b⟩ := R.dict
  obtain ⟨t', e⟩ := b.value hk
  exact subscriptTail_builtin D.typeIs slot_dict_getitem.lookup (wpAny_getItem_of (intKind_is _ _ _ _) D.mapOf e (h t')) hs hg
theorem rows_set {b : Bts} {tb : Tok} {Q : Unit → Shared → Prop} (F : Fr h₀ L s.heap m) (N : News h₀ L s.heap news) (U : UpdF d o news g) (R : RowsO w o r) (hsz : r.length ≤ 1000)
    (h : ∀ h' o', Fr h₀ L h' m → News h₀ L h' (g o') → RowsO w o' (rput r k b) → Q () { s with heap := h', toks := s.toks + 1 }) : wpAny (model PR w) A (setItem (.ref d) (.int k t) (.bytes b tb)) Q E s := by
  obtain ⟨kvs, D, bp⟩ := R
  exact kda_set F N U D (intKind_is _ _ _ _) (by rw [bp.length, sizeLine_eq]; omega) fun h' o' F' N' D' => h h' o' F' N' ⟨_, D', bp.put k b tb⟩
theorem rows_pop {Q : Value → Shared → Prop} (F : Fr h₀ L s.heap m) (N : News h₀ L s.heap news) (U : UpdF d o news g) (R : RowsO w o r) (hk : rhas r k = true) (hsz : r.length ≤ 1000)
    (h : ∀ h' o' t', Fr h₀ L h' m → News h₀ L h' (g o') → RowsO w o' (rdel r k) → Q (.bytes (rget r k) t') { s with heap := h', toks := s.toks + 1 }) :
    wpAny (model PR w) A (call (.builtin "dict.pop") [.ref d, .int k t]) Q E s := by
  obtain ⟨kvs, D, bp⟩ := R
  obtain ⟨t', e⟩ := bp.value hk
  exact kob_pop (more := []) F N U D (intKind_is _ _ _ _) (.inl rfl) (by rfl) (PySem.F.args_dict_pop_2 _ _) e (by rw [bp.length, sizeLine_eq]; omega) fun h' o' F' N' D' => h h' o' t' F' N' ⟨_, D', bp.del k⟩
theorem rows_clear {Q : Value → Shared → Prop} (F : Fr h₀ L s.heap m) (N : News h₀ L s.heap news) (U : UpdF d o news g) (R : RowsO w o r) (hsz : r.length ≤ 1000)
    (h : ∀ h' o', Fr h₀ L h' m → News h₀ L h' (g o') → RowsO w o' [] → Q .none { s with heap := h' }) : wpAny (model PR w) A (call (.builtin "dict.clear") [.ref d]) Q E s := by
  obtain ⟨kvs, D, bp⟩ := R
  obtain ⟨pre, post, rfl, hg, a, b⟩ := U.split
  exact call_clear_madeIn (enc := PyData.int) (hsz := by rw [bp.length, sizeLine_eq]; omega) F N a b D fun h' o' F' N' x _ => h h' o' F' (hg o' ▸ N') ⟨_, x, .nil⟩
theorem rows_method {name : Str} {id : String} {pl : Sem Bool} {Q : Value × List Value → Shared → Prop} (R : RowsAt w s.heap d r) (slot : Slot "dict" name id) (ty : typeOf (.builtin id) = pure (.type "method_descriptor")) (h : Q (.builtin id, [.ref d]) s) :
    wpAny (model PR w) A (getMethod (.ref d) name pl) Q E s := by
  obtain ⟨kvs, D, b⟩ := R.dict
  exact getMethod_builtin D.typeIs PySem.F.plainAttrs_dict slot ty D.mapOf.noDict h
theorem rows_truthy {Q : Bool → Shared → Prop} (R : RowsAt w s.heap d r) (lo : (d == sysModules) = false) (hsz : r.length ≤ 1000) (h : Q (!r.isEmpty) { s with toks := s.toks + 1 + 1 }) : wpAny (model PR w) A (truthy (.ref d)) Q E s := by
  obtain ⟨kvs, D, b⟩ := R.dict
  refine wpAny_truthy_dict lo D (by have := b.length; omega) ?_
  have e : kvs.isEmpty = r.isEmpty := by cases b <;> rfl
  rw [e]; exact h
theorem ints_of_keys {kvs : List (Int × Value)} (bp : BP kvs r) {vs : List Value} (hl : vs.length = kvs.length) (hv : ∀ (j : Nat) (v : Value), vs[j]? = some v → ∃ k x, kvs[j]? = some (k, x) ∧ (PySem.intKind PR w).is k v = true) : IntsAre vs (rkeys r) := by
  refine kdy_ints (by rw [hl, bp.length, rkeys, List.length_map]) fun j v e => ?_
  obtain ⟨k, x, hx, hk⟩ := hv j v e
  obtain ⟨t, rfl⟩ := Value.isInt_shape hk
  obtain ⟨b, _, hr, _⟩ := bp.at hx
  exact ⟨k, by rw [rkeys, List.getElem?_map, hr]; rfl, t, rfl⟩
theorem rows_sorted {Q : Value → Shared → Prop} (hh : A.handled = none) (F : Fr h₀ L s.heap m) (N : News h₀ L s.heap news) (R : RowsAt w s.heap d r) (lo : (d == sysModules) = false) (hsz : r.length < 64)
    (h : ∀ D vs c h' tk ns, Fr h₀ L h' m → News h₀ L h' ((D, listOf vs.toArray c) :: news) → (∀ q ∈ news, q.1 < D) → IntsAre vs ns → ns.Perm (rkeys r) → ns.Pairwise (· ≤ ·) → Q (.ref D) { s with heap := h', toks := tk }) :
    wpAny (model PR w) A (call (.builtin "sorted") [.ref d]) Q E s := by
  obtain ⟨kvs, D, bp⟩ := R.dict
  obtain ⟨ep, hat⟩ := D.dictAt
  refine kdu_sorted (kdl_dict (knd := PySem.intKind PR w) (kvs := kvs) (ep := ep) lo) hh F N hat (kdl_size (by rw [bp.length]; omega)) fun B h' tk vs F' N' l1 hl hv => ?_
  have hi := ints_of_keys bp hl hv
  have z := N' (B, listOf vs.toArray 0) (.head _)
  have hlen : vs.length < 64 := by rw [hi.length, rkeys, List.length_map]; exact hsz
  refine wpAny_call_entry PyProof.Rows.slot_list_sort ⟨_, z.1, rfl⟩ PyProof.Rows.entry_list_sort (list_sort_tree (n := 0) (vs := vs) z.1 hi hlen fun out ns' hI hp hP => ⟨.none, rfl, ?_⟩) (PyProof.Rows.args_list_sort _)
  obtain ⟨e, he⟩ := sortedHeap_at (out := out) z.1
  have old : ∀ b o, b ≠ B → h'.get? b = some o → (sortedHeap h' B vs out).get? b = some o := fun b o hb e => (sortedHeap_old hb (Heap.lt_size e)).trans e
  obtain ⟨oL, es, ep, hL, hLd, hLk, hLf⟩ := F'.ns
  refine h B out.toList e _ tk ns' ⟨⟨oL, es, ep, old _ _ (Ne.symm z.2.1) hL, hLd, hLk, hLf⟩, fun b o e => old b o (fun q => ?_) (F'.keep b o e), F'.above⟩ (fun p hp => ?_) l1 hI hp hP
  · rw [q, z.2.2] at e; cases e
  · rcases List.mem_cons.mp hp with rfl | hp'
    · exact ⟨by rw [he, Array.toArray_toList], z.2⟩
    · exact ⟨old _ _ (Nat.ne_of_lt (l1 p hp')) (N' p (.tail _ hp')).1, (N' p (.tail _ hp')).2⟩
end
/-! data over a heap -/
inductive Fl : Value → Dat → Prop
  | none : Fl .none .none
  | bool (b : Bool) : Fl (.bool b) (.bool b)
  | int (i : Int) (t : Tok) : Fl (.int i t) (.int i)
  | str (x : Str) (t : Tok) : Fl (.str x t) (.str x)
  | bytes (b : Bts) (t : Tok) : Fl (.bytes b t) (.bytes b)

noncomputable def DH (h : Heap) : Nat → Value → Dat → Prop
  | 0, v, d => Fl v d
  | n + 1, v, d => Fl v d ∨ (∃ a vs ds, v = .ref a ∧ d = .tuple ds ∧ h.IsTuple a (List.toArray vs) ∧ Paired (DH h n) vs ds) ∨ (∃ a vs ds, v = .ref a ∧ d = .list ds ∧ h.IsList a (List.toArray vs) ∧ Paired (DH h n) vs ds)

theorem pimp {α β : Type} {F G : α → β → Prop} (h : ∀ a b, F a b → G a b) : ∀ {l₁ : List α} {l₂ : List β}, Paired F l₁ l₂ → Paired G l₁ l₂
  | _, _, .nil => .nil
  | _, _, .cons a t => .cons (h _ _ a) (pimp h t)
theorem DH.flat {h : Heap} {n : Nat} {v : Value} {d : Dat} (x : Fl v d) : DH h n v d := by
  cases n with
  | zero => exact x
  | succ n => exact .inl x
theorem DH.keeps {h h' : Heap} (k : ∀ b o, h.get? b = some o → h'.get? b = some o) : ∀ {n : Nat} {v : Value} {d : Dat}, DH h n v d → DH h' n v d := by
  intro n
  induction n with
  | zero => intro v d x; exact x
  | succ n ih =>
    intro v d x
    rcases x with x | ⟨a, vs, ds, e1, e2, hl, p⟩ | ⟨a, vs, ds, e1, e2, hl, p⟩
    · exact .inl x
    · exact .inr (.inl ⟨a, vs, ds, e1, e2, hl.at fun o e => k a o e, pimp (fun _ _ => ih) p⟩)
    · exact .inr (.inr ⟨a, vs, ds, e1, e2, hl.at fun o e => k a o e, pimp (fun _ _ => ih) p⟩)

theorem pget {α β : Type} {F : α → β → Prop} : ∀ {l₁ : List α} {l₂ : List β}, Paired F l₁ l₂ → ∀ (i : Nat) (h1 : i < l₁.length) (h2 : i < l₂.length), F l₁[i] l₂[i]
  | _, _, .cons a t, 0, _, _ => a
  | _, _, .cons a t, i + 1, h1, h2 => pget t i (by simpa using h1) (by simpa using h2)

theorem eqAt_bytes {A : Around} {s : Shared} (b : Bts) (t u : Tok) : SeqAt.EqAt A s (.bytes b t) (.bytes b u) true := fun prog w E Q h => by
  unfold eqBool
  refine wpAny_holding ?_
  by_cases e : (Value.bytes b t == Value.bytes b u) = true
  · rw [if_pos e]; exact wpAny_bind (wpAny_rule (wpAny_pure h))
  · rw [if_neg e]
    refine wpAny_bind (wpAny_mono (eq_bytes (Q := fun v s' => v = .bool true ∧ Q true s') ⟨by simp, h⟩) (fun v s' hv => ?_) fun _ _ x => x)
    obtain ⟨rfl, hq⟩ := hv
    exact wpAny_truthy_bool hq
theorem eqAt_flat {A : Around} {s : Shared} {v v' : Value} {d : Dat} (x : Fl v d) (y : Fl v' d) : SeqAt.EqAt A s v v' true := by
  cases x with
  | none => cases y; exact SeqAt.EqAt.same _
  | bool b => cases y; exact SeqAt.EqAt.same _
  | int i t => cases y with | int _ u => have := SeqAt.EqAt.int_int (A := A) (s := s) i t i u; rw [beq_self_eq_true] at this; exact this
  | str i t => cases y with | str _ u => have := SeqAt.EqAt.str_str (A := A) (s := s) i t i u; rw [beq_self_eq_true] at this; exact this
  | bytes b t => cases y with | bytes _ u => exact eqAt_bytes b t u

theorem all_true (n : Nat) : ((List.range n).all fun _ => true) = true := by simp
theorem Fl.noTuple {a : Addr} {d : Dat} (x : Fl (.ref a) d) : False := by cases x

/-- two values that bear one datum are equal -/
theorem eqAt_same {s : Shared} : ∀ (n : Nat) {A : Around} {v v' : Value} {d : Dat}, DH s.heap n v d → DH s.heap n v' d → A.units + n < cLine → SeqAt.EqAt A s v v' true := by
  intro n
  induction n with
  | zero => intro A v v' d x y _; exact eqAt_flat x y
  | succ n ih =>
    intro A v v' d x y hu
    rcases x with x | ⟨a, vs, ds, rfl, rfl, hl, p⟩ | ⟨a, vs, ds, rfl, rfl, hl, p⟩
    · rcases y with y | ⟨b, us, es, rfl, rfl, hl', q⟩ | ⟨b, us, es, rfl, rfl, hl', q⟩
      · exact eqAt_flat x y
      · cases x
      · cases x
    · rcases y with y | ⟨b, us, es, rfl, e, hl', q⟩ | ⟨b, us, es, rfl, e, hl', q⟩
      · cases y
      · cases e
        by_cases hab : a = b
        · subst hab; exact SeqAt.EqAt.same _
        · have l1 := p.length
          have l2 := q.length
          have hsz : us.toArray.size = vs.toArray.size := by simp; omega
          have key := SeqAt.RcAt.tuples (A := A) (e := fun _ => true) hl hl' (by omega) (fun j h1 h2 => by
            have h1' : j < vs.length := by simpa using h1
            have h2' : j < us.length := by simpa using h2
            have a1 := pget p j h1' (by omega)
            have a2 := pget q j h2' (by omega)
            simpa using ih (A := A.in1) a1 a2 (by simp only [Around.in1_units]; omega))
          rw [all_true, hsz, Bool.true_and, beq_self_eq_true] at key
          exact SeqAt.EqAt.of_refs hab key
      · cases e
    · rcases y with y | ⟨b, us, es, rfl, e, hl', q⟩ | ⟨b, us, es, rfl, e, hl', q⟩
      · cases y
      · cases e
      · cases e
        by_cases hab : a = b
        · subst hab; exact SeqAt.EqAt.same _
        · have l1 := p.length
          have l2 := q.length
          have hsz : vs.toArray.size = us.toArray.size := by simp; omega
          have key := SeqAt.RcAt.lists (A := A) (e := fun _ => true) hl hl' hsz (by omega) (fun j h1 h2 => by
            have h1' : j < vs.length := by simpa using h1
            have h2' : j < us.length := by simpa using h2
            have a1 := pget p j h1' (by omega)
            have a2 := pget q j h2' (by omega)
            simpa using ih (A := A.in1) a1 a2 (by simp only [Around.in1_units]; omega))
          rw [all_true] at key
          exact SeqAt.EqAt.of_refs hab key

section
variable {prog : Program} {w : World} {A : Around} {E : Value → Shared → Prop} {s : Shared} {Q : Value → Shared → Prop} {v v' : Value} {d : Dat} {n : Nat}
/-- two lists or tuples that bear one datum, of one kind -/
theorem same_refs {h : Heap} {a b : Addr} (hx : DH h (n + 1) (.ref a) d) (hy : DH h (n + 1) (.ref b) d) :
    ∃ vs us ds, Paired (DH h n) vs ds ∧ Paired (DH h n) us ds ∧ ((h.IsTuple a (List.toArray vs) ∧ h.IsTuple b (List.toArray us)) ∨ (h.IsList a (List.toArray vs) ∧ h.IsList b (List.toArray us))) := by
  rcases hx with x | ⟨a', vs, ds, e0, rfl, hl, p⟩ | ⟨a', vs, ds, e0, rfl, hl, p⟩
  · exact x.noTuple.elim
  · cases e0
    rcases hy with y | ⟨b', us, es, e1, e, hl', q⟩ | ⟨b', us, es, e1, e, hl', q⟩
    · exact y.noTuple.elim
    · cases e; cases e1; exact ⟨vs, us, ds, p, q, .inl ⟨hl, hl'⟩⟩
    · cases e
  · cases e0
    rcases hy with y | ⟨b', us, es, e1, e, hl', q⟩ | ⟨b', us, es, e1, e, hl', q⟩
    · exact y.noTuple.elim
    · cases e
    · cases e; cases e1; exact ⟨vs, us, ds, p, q, .inr ⟨hl, hl'⟩⟩
theorem same_items {vs us : List Value} {ds : List Dat} (p : Paired (DH s.heap n) vs ds) (q : Paired (DH s.heap n) us ds) (hu : A.units + n + 1 < cLine) :
    us.toArray.size = vs.toArray.size ∧ ∀ j (h1 : j < vs.toArray.size) (h2 : j < us.toArray.size), SeqAt.EqAt A.in1 s vs.toArray[j] us.toArray[j] ((fun _ => true) j) := by
  have l1 := p.length
  have l2 := q.length
  refine ⟨by simp; omega, fun j h1 h2 => ?_⟩
  have h1' : j < vs.length := by simpa using h1
  have h2' : j < us.length := by simpa using h2
  have a1 := pget p j h1' (by omega)
  have a2 := pget q j h2' (by omega)
  simpa using eqAt_same n (A := A.in1) a1 a2 (by simp only [Around.in1_units]; omega)
theorem eq_same_refs {a b : Addr} (hx : DH s.heap (n + 1) (.ref a) d) (hy : DH s.heap (n + 1) (.ref b) d) (hu : A.units + n + 1 < cLine) (h : Q (.bool true) s) : wpAny (model prog w) A (compareOp .Eq (.ref a) (.ref b)) Q E s := by
  obtain ⟨vs, us, ds, p, q, hl | hl⟩ := same_refs hx hy
  · obtain ⟨hsz, he⟩ := same_items (A := A) p q hu
    have key := SeqAt.RcAt.tuples (A := A) hl.1 hl.2 (by omega) he
    rw [all_true, hsz, Bool.true_and, beq_self_eq_true] at key
    exact key prog w E Q h
  · obtain ⟨hsz, he⟩ := same_items (A := A) p q hu
    have key := SeqAt.RcAt.lists (A := A) hl.1 hl.2 hsz.symm (by omega) he
    rw [all_true] at key
    exact key prog w E Q h
theorem ne_same_refs {a b : Addr} (hx : DH s.heap (n + 1) (.ref a) d) (hy : DH s.heap (n + 1) (.ref b) d) (hu : A.units + n + 1 < cLine) (h : Q (.bool false) s) : wpAny (model prog w) A (compareOp .NotEq (.ref a) (.ref b)) Q E s := by
  obtain ⟨vs, us, ds, p, q, hl | hl⟩ := same_refs hx hy
  · obtain ⟨hsz, he⟩ := same_items (A := A) p q hu
    have key := SeqAt.RcNeAt.tuples (A := A) hl.1 hl.2 (by omega) he
    rw [all_true, hsz, Bool.true_and, beq_self_eq_true] at key
    exact key prog w E Q h
  · obtain ⟨hsz, he⟩ := same_items (A := A) p q hu
    have key := SeqAt.RcNeAt.lists (A := A) hl.1 hl.2 hsz.symm (by omega) he
    rw [all_true] at key
    exact key prog w E Q h
end
section
variable {w : World} {A : Around} {E : Value → Shared → Prop} {s : Shared} {h₀ : Heap} {L d : Addr} {m : Str → Option Value} {news : List (Addr × Obj)} {g : Obj → List (Addr × Obj)} {o : Obj} {r : RowsT} {k : Int} {t : Tok}

theorem rows_copy {Q : Value → Shared → Prop} (F : Fr h₀ L s.heap m) (N : News h₀ L s.heap news) (hbig : h₀.NoLimit) (R : RowsAt w s.heap d r) (lo : (d == sysModules) = false) (hsz : r.length ≤ 1000)
    (h : ∀ h' o D, Fr h₀ L h' m → News h₀ L h' ((D, o) :: news) → (∀ p ∈ news, p.1 < D) → (D == sysModules) = false → RowsO w o r → Q (.ref D) { s with heap := h' }) :
    wpAny (model PR w) A (call (.type "dict") [.ref d]) Q E s := by
  obtain ⟨kvs, D, bp⟩ := R.dict
  refine kt_call_dict lo D (by rw [bp.length, sizeLine_eq]; omega) fun h' hm hs => ?_
  obtain ⟨o', ho', hd'⟩ := Heap.dictOf_iff.mp hm
  have N1 := News.push F N { cls := .type "dict", data := .dict #[] }
  exact h h' o' _ ((F.push _).change hs (N1 _ (.head _)).2.1 (N1.fresh (.head _))) (N1.setHead N.apart hs ho') (fun p hp => Heap.lt_size (N p hp).1) (F.notModules (modules_low hbig)) ⟨_, hd', bp⟩

theorem walks_keys {kvs : List (Int × Value)} (bp : BP kvs r) {i : Nat} {v : Value} (h : ∃ k x, kvs[i]? = some (k, x) ∧ (PySem.intKind PR w).is k v = true) : ∃ t, v = .int ((rkeys r).getD i 0) t := by
  obtain ⟨k, x, hx, hk⟩ := h
  obtain ⟨t, rfl⟩ := Value.isInt_shape hk
  obtain ⟨b, _, hr, _⟩ := bp.at hx
  refine ⟨t, ?_⟩
  have : (rkeys r)[i]? = some k := by rw [rkeys, List.getElem?_map, hr]; rfl
  simp [List.getD, this]
theorem rows_max {Q : Value → Shared → Prop} (hh : A.handled = none) (F : Fr h₀ L s.heap m) (N : News h₀ L s.heap news) (R : RowsAt w s.heap d r) (lo : (d == sysModules) = false) (hne : 0 < r.length)
    (h : ∀ h' M (t : Tok) tk, Fr h₀ L h' m → News h₀ L h' news → M ∈ rkeys r → (∀ a ∈ rkeys r, a ≤ M) → Q (.int M t) { s with heap := h', toks := tk }) :
    wpAny (model PR w) A (call (.builtin "max") [.ref d]) Q E s := by
  obtain ⟨kvs, D, bp⟩ := R.dict
  obtain ⟨ep, hat⟩ := D.dictAt
  have hlt : d < s.heap.objs.size := hat.lt_size
  refine call_max_walk (wpAny_pyIter_dict lo hat ?_)
  refine ⟨_, _, _, _, _, _, _, rfl, Walks.dictKeys (A := A.in1) hh s.heap.objs.size d (Nat.ne_of_lt hlt) kvs ep, ⟨⟨_, Heap.get?_push_size _ rfl, rfl, rfl⟩, hat.push _⟩, (fun b hb => ?_), by rw [bp.length]; exact hne,
    CmpOf.ints_gt (fun i => (rkeys r).getD i 0) (fun i v => walks_keys bp), fun v h' tk hP hk => ?_⟩
  · show b < (s.heap.push _).objs.size
    rw [Heap.size_push]
    rcases List.mem_cons.mp hb with rfl | hb
    · exact Nat.lt_succ_self _
    · rw [List.mem_singleton.mp hb]; exact Nat.lt_succ_of_lt hlt
  · obtain ⟨t, rfl⟩ := walks_keys bp hP
    have hk' : ∀ b o, s.heap.get? b = some o → h'.get? b = some o := fun b o e => hk b o (fun hm => absurd (Heap.lt_size e) (by rw [List.mem_singleton.mp hm]; exact Nat.lt_irrefl _)) (Heap.get?_push_of_some _ e)
    obtain ⟨h1, h2⟩ := argBest_gt (fun i => (rkeys r).getD i 0) (kvs.length - 1)
    have hl : (rkeys r).length = kvs.length := by rw [rkeys, List.length_map, bp.length]
    refine h h' _ t tk (F.grownK hk') (N.grown hk') (getD_mem (by rw [hl]; have := bp.length; omega)) fun a ha => ?_
    obtain ⟨j, hj, rfl⟩ := mem_getD ha
    exact h2 j (by omega)
theorem rows_min {Q : Value → Shared → Prop} (hh : A.handled = none) (F : Fr h₀ L s.heap m) (N : News h₀ L s.heap news) (R : RowsAt w s.heap d r) (lo : (d == sysModules) = false) (hne : 0 < r.length)
    (h : ∀ h' M (t : Tok) tk, Fr h₀ L h' m → News h₀ L h' news → M ∈ rkeys r → (∀ a ∈ rkeys r, M ≤ a) → Q (.int M t) { s with heap := h', toks := tk }) :
    wpAny (model PR w) A (call (.builtin "min") [.ref d]) Q E s := by
  obtain ⟨kvs, D, bp⟩ := R.dict
  obtain ⟨ep, hat⟩ := D.dictAt
  have hlt : d < s.heap.objs.size := hat.lt_size
  refine call_min_walk (wpAny_pyIter_dict lo hat ?_)
  refine ⟨_, _, _, _, _, _, _, rfl, Walks.dictKeys (A := A.in1) hh s.heap.objs.size d (Nat.ne_of_lt hlt) kvs ep, ⟨⟨_, Heap.get?_push_size _ rfl, rfl, rfl⟩, hat.push _⟩, (fun b hb => ?_), by rw [bp.length]; exact hne,
    CmpOf.ints_lt (fun i => (rkeys r).getD i 0) (fun i v => walks_keys bp), fun v h' tk hP hk => ?_⟩
  · show b < (s.heap.push _).objs.size
    rw [Heap.size_push]
    rcases List.mem_cons.mp hb with rfl | hb
    · exact Nat.lt_succ_self _
    · rw [List.mem_singleton.mp hb]; exact Nat.lt_succ_of_lt hlt
  · obtain ⟨t, rfl⟩ := walks_keys bp hP
    have hk' : ∀ b o, s.heap.get? b = some o → h'.get? b = some o := fun b o e => hk b o (fun hm => absurd (Heap.lt_size e) (by rw [List.mem_singleton.mp hm]; exact Nat.lt_irrefl _)) (Heap.get?_push_of_some _ e)
    obtain ⟨h1, h2⟩ := argBest_lt (fun i => (rkeys r).getD i 0) (kvs.length - 1)
    have hl : (rkeys r).length = kvs.length := by rw [rkeys, List.length_map, bp.length]
    refine h h' _ t tk (F.grownK hk') (N.grown hk') (getD_mem (by rw [hl]; have := bp.length; omega)) fun a ha => ?_
    obtain ⟨j, hj, rfl⟩ := mem_getD ha
    exact h2 j (by omega)
theorem rows_list {Q : Value → Shared → Prop} (hh : A.handled = none) (F : Fr h₀ L s.heap m) (N : News h₀ L s.heap news) (R : RowsAt w s.heap d r) (lo : (d == sysModules) = false) (hsz : r.length ≤ 1000)
    (h : ∀ (B : Addr) (n : Nat) h' tk vs, Fr h₀ L h' m → News h₀ L h' ((B, listOf vs.toArray n) :: news) → (∀ q ∈ news, q.1 < B) → IntsAre vs (rkeys r) → Q (.ref B) { s with heap := h', toks := tk }) :
    wpAny (model PR w) A (call (.type "list") [.ref d]) Q E s := by
  obtain ⟨kvs, D, bp⟩ := R.dict
  obtain ⟨ep, hat⟩ := D.dictAt
  refine kdl_N (kdl_dict (knd := PySem.intKind PR w) (kvs := kvs) (ep := ep) lo) hh F N hat (kdl_size (by rw [bp.length]; omega)) fun B n h' tk vs F' N' l1 hl hv => ?_
  exact h B n h' tk vs F' N' l1 (ints_of_keys bp hl hv)

/-- equal as dicts: the same rows, in any order -/
noncomputable def SameRows (a b : RowsT) : Prop := a.length = b.length ∧ ∀ k x, (k, x) ∈ a → rhas b k = true ∧ rget b k = x
theorem hits_of {A : Around} {s : Shared} {kb : List (Int × Value)} {b : RowsT} (hb : BP kb b) : ∀ {ka : List (Int × Value)} {a : RowsT}, BP ka a → (∀ k x, (k, x) ∈ a → rhas b k = true ∧ rget b k = x) → KeqHits A s kb ka true := by
  intro ka a ha
  induction ha with
  | nil => intro _; exact .nil
  | @cons k x t ka a _ ih =>
    intro hs
    obtain ⟨h1, h2⟩ := hs k x (.head _)
    obtain ⟨u, e⟩ := hb.value h1
    rw [h2] at e
    exact KeqHits.hit (e := true) (b := true) e (eqAt_bytes x t u) (ih fun k' x' hm => hs k' x' (.tail _ hm))
theorem rows_eq {d₂ : Addr} {r₂ : RowsT} {Q : Value → Shared → Prop} (R : RowsAt w s.heap d r) (R₂ : RowsAt w s.heap d₂ r₂) (lo : (d == sysModules) = false) (lo₂ : (d₂ == sysModules) = false) (hu : A.units < cLine) (same : SameRows r r₂)
    (h : Q (.bool true) s) : wpAny (model PR w) A (compareOp .Eq (.ref d) (.ref d₂)) Q E s := by
  obtain ⟨ka, Da, ba⟩ := R.dict
  obtain ⟨kb, Db, bb⟩ := R₂.dict
  refine keq_eq lo lo₂ Da Db hu (fun _ => hits_of bb ba same.2) ?_
  rw [ba.length, bb.length, same.1, beq_self_eq_true, Bool.true_and]; exact h
theorem rows_ne {d₂ : Addr} {r₂ : RowsT} {Q : Value → Shared → Prop} (R : RowsAt w s.heap d r) (R₂ : RowsAt w s.heap d₂ r₂) (lo : (d == sysModules) = false) (lo₂ : (d₂ == sysModules) = false) (hu : A.units < cLine) (same : SameRows r r₂)
    (h : Q (.bool false) s) : wpAny (model PR w) A (compareOp .NotEq (.ref d) (.ref d₂)) Q E s := by
  obtain ⟨ka, Da, ba⟩ := R.dict
  obtain ⟨kb, Db, bb⟩ := R₂.dict
  refine keq_ne lo lo₂ Da Db hu (fun _ => hits_of bb ba same.2) ?_
  rw [ba.length, bb.length, same.1, beq_self_eq_true, Bool.true_and]; exact h
/-- against an empty dict -/
theorem rows_eq_nil {d₂ : Addr} {Q : Value → Shared → Prop} (R : RowsAt w s.heap d r) (R₂ : RowsAt w s.heap d₂ []) (lo : (d == sysModules) = false) (lo₂ : (d₂ == sysModules) = false) (hu : A.units < cLine)
    (h : Q (.bool r.isEmpty) s) : wpAny (model PR w) A (compareOp .Eq (.ref d) (.ref d₂)) Q E s := by
  obtain ⟨ka, Da, ba⟩ := R.dict
  obtain ⟨kb, Db, bb⟩ := R₂.dict
  cases bb
  cases ba with
  | nil => exact keq_eq lo lo₂ Da Db hu (fun _ => .nil) (by simpa using h)
  | cons _ => exact keq_eq (r := true) lo lo₂ Da Db hu (fun e => by simp at e) (by simpa using h)
theorem rows_ne_nil {d₂ : Addr} {Q : Value → Shared → Prop} (R : RowsAt w s.heap d r) (R₂ : RowsAt w s.heap d₂ []) (lo : (d == sysModules) = false) (lo₂ : (d₂ == sysModules) = false) (hu : A.units < cLine)
    (h : Q (.bool (!r.isEmpty)) s) : wpAny (model PR w) A (compareOp .NotEq (.ref d) (.ref d₂)) Q E s := by
  obtain ⟨ka, Da, ba⟩ := R.dict
  obtain ⟨kb, Db, bb⟩ := R₂.dict
  cases bb
  cases ba with
  | nil => exact keq_ne lo lo₂ Da Db hu (fun _ => .nil) (by simpa using h)
  | cons _ => exact keq_ne (r := true) lo lo₂ Da Db hu (fun e => by simp at e) (by simpa using h)
end
/-- a tuple's items: pairs of a number and a row -/
noncomputable def PairsIn (h : Heap) : List Value → RowsT → Prop := Paired fun v kb => ∃ a t u, v = .ref a ∧ h.IsTuple a #[.int kb.1 t, .bytes kb.2 u]
theorem PairsIn.keeps {h h' : Heap} (k : ∀ b o, h.get? b = some o → h'.get? b = some o) {vs : List Value} {r : RowsT} (x : PairsIn h vs r) : PairsIn h' vs r :=
  pimp (fun _ _ ⟨a, t, u, e, q⟩ => ⟨a, t, u, e, q.at fun o e => k a o e⟩) x
theorem pdrop {α β : Type} {F : α → β → Prop} : ∀ {l₁ : List α} {l₂ : List β}, Paired F l₁ l₂ → ∀ n, Paired F (l₁.drop n) (l₂.drop n)
  | _, _, x, 0 => x
  | _, _, .nil, n + 1 => by simpa using Paired.nil
  | _, _, .cons _ t, n + 1 => by simpa using pdrop t n
noncomputable def rputs (r : RowsT) (l : RowsT) : RowsT := l.foldl (fun r p => rput r p.1 p.2) r

theorem entry_update_loop : entryFor table "dict.update.loop" = some Builtin.«dict.update.loop» := entryFor_of_tree (by kernel_rfl)
theorem plain_update_loop : plainId "dict.update.loop" = true := by decide +kernel
theorem miss_tuple_keys : typeLookup (.type "tuple") "keys" = pure none := by rw [typeLookup_type, builtinLookup_eq_fast]; kernel_rfl

section
variable {w : World} {A : Around} {E : Value → Shared → Prop} {s : Shared}

theorem getAttr?_keys_tuple {a : Addr} {xs : Array Value} {k : Nat} {sl : Array (Option Value)} {Q : Option Value → Shared → Prop}
    (hx : s.heap.get? a = some { cls := .type "tuple", dict := none, data := .seq xs k, slots := sl }) (hA : A.handled = none)
    (h : ∀ h' tk, (∀ b o, s.heap.get? b = some o → h'.get? b = some o) → Q none { s with heap := h', toks := tk }) :
    wpAny (model PR w) A (getAttr? (.ref a) "keys") Q E s := by
  obtain ⟨hp, g, d, tk, os⟩ := s
  have hT : ∀ tk', (⟨hp, g, d, tk', os⟩ : Shared).TypeIs (.ref a) "tuple" := fun _ => ⟨_, hx, rfl⟩
  have f1 := sub_AttributeError
  have f3 := F.slot_tuple_getattribute.lookup
  have f4 := F.slot_tuple_getattribute.bind (.ref a)
  have f5 := am_tuple_getattr_none
  unfold getAttr? getAttrBy? getAttrBy
  repeat (any_goals (first | assumption | exact hT _ | ((with_reducible show wpAny _ _ (call (Value.builtin "tuple.__getattribute__") _ _) _ _ _); refine call_meets F.slot_tuple_getattribute (hT _) am_entry_tuple_getattribute (F.args_tuple_getattribute_2 _ _) (meets_getattribute_miss_tuple a xs k sl "keys" _ miss_tuple_keys (by decide +kernel) (by decide +kernel)) ⟨hx, hA, fun h' tk' e hx' => ?_⟩) | wp_step))
  obtain ⟨t', u', he⟩ := hx'.there
  have hT' : (⟨h', g, d, tk', os⟩ : Shared).TypeIs (.ref e) "AttributeError" := ⟨_, he, rfl⟩
  show wpAny _ _ (getattributeRaised _ _ _ _ _ _ _) _ _ _
  unfold getattributeRaised
  repeat (any_goals (first | assumption | wp_step))
  exact h _ _ hx'.keeps

theorem update_loop {d I T : Addr} {items : List Value} {all : RowsT} {res : Value} (hh : A.handled = none) (hTI : T ≠ I) (hdI : d ≠ I) (hdT : d ≠ T) {h₀ : Heap} (hd₀ : h₀.get? d = none) (hI₀ : h₀.get? I = none) (hPI : PairsIn h₀ items all) (hsz : all.length ≤ 500) :
    ∀ (n i : Nat) (s : Shared) (r : RowsT) (j : Int), items.length - i = n → i ≤ items.length → j = i → (∀ b o, h₀.get? b = some o → s.heap.get? b = some o) →
      s.heap.IsTupleIter I T i → s.heap.IsTuple T items.toArray → RowsAt w s.heap d r → r.length ≤ 500 + i → ∀ {R : Result → Shared → Prop},
      (∀ h' tk, (∀ b o, b ≠ d → b ≠ I → s.heap.get? b = some o → h'.get? b = some o) → RowsAt w h' d (rputs r (all.drop i)) → R (.ok (.ret res)) { s with heap := h', toks := tk }) →
      codeAny (model PR w) A (.builtin "dict.update.loop" ⟨[.ref d, .ref I, rawInt j, res], []⟩) R s := by
  have W := Walks.tuple (prog := PR) (w := w) (A := A.in1) hh I T hTI items.toArray
  have hlen : items.length = all.length := hPI.length
  intro n
  induction n with
  | zero =>
    intro i s r j hn hi hj hk hit hT hR hrl R hq
    have hin : i = items.toArray.size := by simp; omega
    refine codeAny_builtin entry_update_loop ?_
    rw [Around.under_plainId plain_update_loop _]
    show wpAny _ A.in1 (pyNext (.ref I) >>= _) _ _ s
    refine wpAny_bind (W.done s _ _ (hin ▸ ⟨hit, hT⟩) fun h' tk hk' => ?_)
    show wpAny _ A.in1 (Builtin.Dict.addKeywords d [] >>= _) _ _ _
    refine wpAny_bind (wpAny_pure (wpAny_pure ?_))
    have hdrop : all.drop i = [] := List.drop_of_length_le (by omega)
    refine hq h' tk (fun b o _ hbI e => hk' b o (by simpa using hbI) e) ?_
    rw [hdrop]
    obtain ⟨o, e, q⟩ := hR
    exact ⟨o, hk' _ _ (by simpa using hdI) e, q⟩
  | succ n ih =>
    intro i s r j hn hi hj hk hit hT hR hrl R hq
    subst hj
    have hlt : i < items.toArray.size := by simp; omega
    have hlt1 : i < items.length := by simpa using hlt
    have hlt2 : i < all.length := by omega
    refine codeAny_builtin entry_update_loop ?_
    rw [Around.under_plainId plain_update_loop _]
    show wpAny _ A.in1 (pyNext (.ref I) >>= _) _ _ s
    refine wpAny_bind (W.item i s _ _ hlt ⟨hit, hT⟩ fun v h' tk hP hst hk' => ?_)
    obtain ⟨a, t, u, e, hp⟩ := pget hPI i hlt1 hlt2
    have hv : v = .ref a := by
      have : items.toArray[i]? = some v := hP
      simp [hlt1] at this
      rw [← this, e]
    subst hv
    have haI : a ≠ I := by
      rintro rfl; obtain ⟨o, eo, _⟩ := hp; rw [hI₀] at eo; cases eo
    have had : a ≠ d := by
      rintro rfl; obtain ⟨o, eo, _⟩ := hp; rw [hd₀] at eo; cases eo
    have hp' : h'.IsTuple a #[.int all[i].1 t, .bytes all[i].2 u] := hp.at fun o e => hk' _ _ (by simpa using haI) (hk _ _ e)
    have items2 : wpAny (model PR w) A.in1 (Builtin.Dict.pairItems (.ref a)) (fun l s' => l = [.int all[i].1 t, .bytes all[i].2 u] ∧ s' = { s with heap := h', toks := tk }) (fun _ _ => False) { s with heap := h', toks := tk } := by
      unfold Builtin.Dict.pairItems
      obtain ⟨o, ho, hc, k, hd⟩ := hp'
      refine wpAny_bind (wpAny_typeOf (T := "tuple") ⟨o, ho, hc⟩ ?_)
      rw [if_pos (by decide)]
      exact wpAny_bind (wpAny_seqItems ho hd (wpAny_pure ⟨rfl, rfl⟩))
    refine wpAny_bind (wpAny_holding (wpAny_bind (wpAny_tryCatch (wpAny_mono items2 (fun l s' hl => ?_) fun _ _ x => x.elim))))
    obtain ⟨rfl, rfl⟩ := hl
    obtain ⟨o, eo, kvs, hD, bp⟩ := hR
    have hD' : h'.DictOf (PySem.intKind PR w) d kvs := Heap.dictOf_iff.mpr ⟨o, hk' _ _ (by simpa using hdI) eo, hD⟩
    show wpAny _ A.in1 (holding [.int all[i].1 t, .bytes all[i].2 u] (dictSet d (.int all[i].1 t) (.bytes all[i].2 u))) _ _ _
    refine (wpAny_holding (wpAny_dictSet_pairs (hsz := by rw [bp.length, sizeLine_eq]; omega) (intKind_is _ _ _ _) hD' fun h'' hm hs => ?_))
    have oth : ∀ b o, b ≠ d → b ≠ I → s.heap.get? b = some o → h''.get? b = some o := fun b o hb hbI e => (hs.2 b hb).trans (hk' b o (by simpa using hbI) e)
    refine wpAny_pure ⟨plainId_quiet plain_update_loop _, ?_⟩
    have hR' : RowsAt w h'' d (rput r all[i].1 all[i].2) := by
      obtain ⟨o', ho', hd'⟩ := Heap.dictOf_iff.mp hm
      exact ⟨o', ho', _, hd', bp.put _ _ _⟩
    have hTl : h''.IsTuple T items.toArray := hT.at fun o e => oth T o (Ne.symm hdT) hTI e
    have hit' : h''.IsTupleIter I T (i + 1) := hst.1.at fun o e => (hs.2 I (Ne.symm hdI)).trans e
    refine ih (i + 1) { s with heap := h'', toks := tk + 1 } (rput r all[i].1 all[i].2) ((i : Int) + 1) (by omega) (by omega) (by push_cast; rfl) (fun b o e => oth b o (fun q => by rw [q, hd₀] at e; cases e) (fun q => by rw [q, hI₀] at e; cases e) (hk b o e)) hit' hTl hR' ?_ fun h3 tk3 k3 R3 => ?_
    · unfold rput; split
      · rw [List.length_map]; omega
      · rw [List.length_append, List.length_singleton]; omega
    · have hdrop : all.drop i = all[i] :: all.drop (i + 1) := List.drop_eq_getElem_cons hlt2
      refine hq h3 tk3 (fun b o hb hbI e => k3 b o hb hbI (oth b o hb hbI e)) ?_
      rw [hdrop]
      exact R3

/-- dict(a tuple of pairs) -/
theorem rows_of_pairs {h₀ : Heap} {L T : Addr} {m : Str → Option Value} {news : List (Addr × Obj)} {items : List Value} {all : RowsT} {Q : Value → Shared → Prop} (hh : A.handled = none) (F : Fr h₀ L s.heap m) (N : News h₀ L s.heap news) (hbig : h₀.NoLimit)
    (hT : ∃ k sl, s.heap.get? T = some { cls := .type "tuple", dict := none, data := .seq items.toArray k, slots := sl }) (hP : PairsIn s.heap items all) (hsz : all.length ≤ 500)
    (h : ∀ h' o D tk, Fr h₀ L h' m → News h₀ L h' ((D, o) :: news) → (∀ p ∈ news, p.1 < D) → (D == sysModules) = false → RowsO w o (rputs [] all) → Q (.ref D) { s with heap := h', toks := tk }) :
    wpAny (model PR w) A (call (.type "dict") [.ref T]) Q E s := by
  obtain ⟨k, sl, hT⟩ := hT
  refine callType_codes (Q₁ := fun obj s₁ => obj = .ref s.heap.objs.size ∧ s₁ = { s with heap := s.heap.push { cls := .type "dict", data := .dict #[] } }) PySem.F.kt_called_dict (PySem.F.kt_typeCall_dict_1 _) PySem.F.entry_dict_init (kt_code_dict_new _ ⟨rfl, rfl⟩) ?_
  rintro obj s₁ ⟨rfl, rfl⟩
  have hnew : (s.heap.push { cls := .type "dict", data := .dict #[] }).DictOf (PySem.intKind PR w) s.heap.objs.size [] := Heap.DictOf.new s.heap
  have hT1 := Heap.get?_push_of_some { cls := .type "dict", data := .dict #[] } hT
  refine ⟨hnew.typeIs, PySem.F.args_dict_init_2 _ _, ?_⟩
  unfold Builtin.«dict.__init__»
  refine wpAny_bind ?_
  unfold Builtin.Dict.selfAndRest
  refine wpAny_bind (wpAny_notOrdered_dict hnew.typeIs ?_)
  show wpAny _ _ (pure (s.heap.objs.size, [Value.ref T])) _ _ _
  refine wpAny_pure ?_
  show wpAny _ _ (Builtin.Dict.updateFrom "dict.__init__" s.heap.objs.size (.ref T) [] .none) _ _ _
  unfold Builtin.Dict.updateFrom
  refine wpAny_bind (wpAny_typeOf (T := "tuple") ⟨_, hT1, rfl⟩ ?_)
  rw [if_pos (by decide)]
  refine wpAny_bind (getAttr?_keys_tuple hT1 hh fun h1 tk1 k1 => ?_)
  show wpAny _ _ (rule _ >>= _) _ _ _
  refine wpAny_bind (wpAny_rule ?_)
  have hT2 : h1.IsTuple T items.toArray := ⟨_, k1 _ _ hT1, rfl, _, rfl⟩
  refine wpAny_bind (wpAny_pyIter_tuple hT2 ?_)
  refine wpAny_pure ⟨plainId_quiet plain_update_loop _, ?_⟩
  have hlt : T < s.heap.objs.size := Heap.lt_size hT
  have hlt1 : s.heap.objs.size < h1.objs.size := Heap.lt_size (k1 s.heap.objs.size { cls := .type "dict", data := .dict #[] } (Heap.get?_push_size s.heap rfl))
  have old : ∀ b o, s.heap.get? b = some o → (h1.push { cls := .type "tuple_iterator", data := .fields #[.ref T, .int 0 0] }).get? b = some o := fun b o e => Heap.get?_push_of_some _ (k1 _ _ (Heap.get?_push_of_some _ e))
  obtain ⟨o0, ho0, hd0⟩ := Heap.dictOf_iff.mp hnew
  refine update_loop (A := A.in1) (items := items) (all := all) (h₀ := s.heap) hh (Nat.ne_of_lt (Nat.lt_trans hlt hlt1)) (Nat.ne_of_lt hlt1) (Nat.ne_of_gt hlt) (Heap.get?_none_of_le (Nat.le_refl _)) (Heap.get?_none_of_le (Nat.le_of_lt hlt1)) hP hsz _ 0 { s with heap := h1.push { cls := .type "tuple_iterator", data := .fields #[.ref T, .int 0 0] }, toks := tk1 } [] 0 rfl (Nat.zero_le _) rfl old
    ⟨_, Heap.get?_push_size _ rfl, rfl, rfl⟩ (hT2.at fun o e => Heap.get?_push_of_some _ e) ⟨o0, Heap.get?_push_of_some _ (k1 _ _ ho0), [], hd0, .nil⟩ (Nat.zero_le _) fun h' tk k' R' => ?_
  obtain ⟨o', ho', hr'⟩ := R'
  have kk : ∀ b o, s.heap.get? b = some o → h'.get? b = some o := fun b o e => k' b o (Nat.ne_of_lt (Heap.lt_size e)) (Nat.ne_of_lt (Nat.lt_trans (Heap.lt_size e) hlt1)) (old b o e)
  refine ⟨rfl, h h' o' _ tk (F.kept kk) (N.kept_cons F kk (Nat.le_refl _) ho') (fun p hp => Heap.lt_size (N p hp).1) (F.notModules (modules_low hbig)) hr'⟩
end
/-! the plain file -/
inductive Mode where | inp | io | out | ext
  deriving DecidableEq
noncomputable def Mode.s : Mode → Str
  | .inp => Str.ofString "input" | .io => Str.ofString "i-o" | .out => Str.ofString "output" | .ext => Str.ofString "extend"
noncomputable def Mode.reads : Mode → Bool
  | .inp => true | .io => true | _ => false
inductive Op where | eq | gt | ge
  deriving DecidableEq
noncomputable def Op.s : Op → Str
  | .eq => Str.ofString "=" | .gt => Str.ofString ">" | .ge => Str.ofString ">="

noncomputable def minL : List Int → Int
  | [] => 0
  | a :: l => l.foldl min a
noncomputable def maxL : List Int → Int
  | [] => 0
  | a :: l => l.foldl max a
noncomputable def leastL (ks : List Int) (low : Int) : Int := minL (ks.filter fun k => decide (low ≤ k))

theorem foldl_min_spec : ∀ (l : List Int) (a : Int), (l.foldl min a = a ∨ l.foldl min a ∈ l) ∧ l.foldl min a ≤ a ∧ ∀ b ∈ l, l.foldl min a ≤ b
  | [], a => ⟨.inl rfl, Int.le_refl _, fun _ h => nomatch h⟩
  | c :: l, a => by
    obtain ⟨h1, h2, h3⟩ := foldl_min_spec l (min a c)
    rw [List.foldl_cons]
    refine ⟨?_, by omega, fun b hb => ?_⟩
    · rcases h1 with h1 | h1
      · rw [h1]
        by_cases h : a ≤ c
        · left; omega
        · right; have : min a c = c := by omega
          rw [this]; exact .head _
      · exact .inr (.tail _ h1)
    · rcases List.mem_cons.mp hb with rfl | hb
      · omega
      · exact h3 b hb
theorem foldl_max_spec : ∀ (l : List Int) (a : Int), (l.foldl max a = a ∨ l.foldl max a ∈ l) ∧ a ≤ l.foldl max a ∧ ∀ b ∈ l, b ≤ l.foldl max a
  | [], a => ⟨.inl rfl, Int.le_refl _, fun _ h => nomatch h⟩
  | c :: l, a => by
    obtain ⟨h1, h2, h3⟩ := foldl_max_spec l (max a c)
    rw [List.foldl_cons]
    refine ⟨?_, by omega, fun b hb => ?_⟩
    · rcases h1 with h1 | h1
      · rw [h1]
        by_cases h : c ≤ a
        · left; omega
        · right; have : max a c = c := by omega
          rw [this]; exact .head _
      · exact .inr (.tail _ h1)
    · rcases List.mem_cons.mp hb with rfl | hb
      · omega
      · exact h3 b hb
theorem minL_mem {l : List Int} (h : l ≠ []) : minL l ∈ l := by
  cases l with
  | nil => exact absurd rfl h
  | cons a l =>
    rcases (foldl_min_spec l a).1 with e | e
    · show l.foldl min a ∈ _; rw [e]; exact .head _
    · exact .tail _ e
theorem minL_le {l : List Int} {b : Int} (h : b ∈ l) : minL l ≤ b := by
  cases l with
  | nil => cases h
  | cons a l =>
    obtain ⟨_, h2, h3⟩ := foldl_min_spec l a
    rcases List.mem_cons.mp h with rfl | h
    · exact h2
    · exact h3 b h
theorem minL_eq {l : List Int} {M : Int} (hm : M ∈ l) (hl : ∀ a ∈ l, M ≤ a) : minL l = M := by
  have h1 := minL_le hm
  have h2 := hl _ (minL_mem (List.ne_nil_of_mem hm))
  omega
theorem maxL_mem {l : List Int} (h : l ≠ []) : maxL l ∈ l := by
  cases l with
  | nil => exact absurd rfl h
  | cons a l =>
    rcases (foldl_max_spec l a).1 with e | e
    · show l.foldl max a ∈ _; rw [e]; exact .head _
    · exact .tail _ e
theorem le_maxL {l : List Int} {b : Int} (h : b ∈ l) : b ≤ maxL l := by
  cases l with
  | nil => cases h
  | cons a l =>
    obtain ⟨_, h2, h3⟩ := foldl_max_spec l a
    rcases List.mem_cons.mp h with rfl | h
    · exact h2
    · exact h3 b h
theorem maxL_eq {l : List Int} {M : Int} (hm : M ∈ l) (hl : ∀ a ∈ l, a ≤ M) : maxL l = M := by
  have h1 := le_maxL hm
  have h2 := hl _ (maxL_mem (List.ne_nil_of_mem hm))
  omega
theorem rhas_iff {r : RowsT} {k : Int} : rhas r k = true ↔ k ∈ rkeys r := by
  unfold rhas rkeys
  rw [List.any_eq_true, List.mem_map]
  constructor
  · rintro ⟨p, hp, e⟩; exact ⟨p, hp, of_decide_eq_true e⟩
  · rintro ⟨p, hp, e⟩; exact ⟨p, hp, decide_eq_true e⟩
theorem leastL_has {r : RowsT} {low : Int} (h : leastL (rkeys r) low ≠ 0) : rhas r (leastL (rkeys r) low) = true := by
  have hne : (rkeys r).filter (fun k => decide (low ≤ k)) ≠ [] := fun e => h (by unfold leastL; rw [e]; rfl)
  exact rhas_iff.mpr (List.mem_filter.mp (minL_mem hne)).1
/-- the search finds it -/
theorem leastL_found {ns ks : List Int} {low n : Int} {pre post : List Int} (p : ns.Perm ks) (o : ns.Pairwise (· ≤ ·)) (e : ns = pre ++ n :: post) (hpre : ∀ v ∈ pre, ¬ low ≤ v) (hn : low ≤ n) : leastL ks low = n := by
  subst e
  refine minL_eq (List.mem_filter.mpr ⟨p.mem_iff.mp (List.mem_append_right _ (.head _)), decide_eq_true hn⟩) fun a ha => ?_
  obtain ⟨h1, h2⟩ := List.mem_filter.mp ha
  have h2 := of_decide_eq_true h2
  rcases List.mem_append.mp (p.mem_iff.mpr h1) with h | h
  · exact absurd h2 (hpre a h)
  · rcases List.mem_cons.mp h with rfl | h
    · exact Int.le_refl _
    · exact (List.pairwise_cons.mp (List.pairwise_append.mp o).2.1).1 a h
theorem leastL_none {ns ks : List Int} {low : Int} (p : ns.Perm ks) (h : ∀ v ∈ ns, ¬ low ≤ v) : leastL ks low = 0 := by
  have : ks.filter (fun k => decide (low ≤ k)) = [] := List.filter_eq_nil_iff.mpr fun a ha => by simpa using h a (p.mem_iff.mpr ha)
  unfold leastL; rw [this]; rfl

structure FSt where
  rows : RowsT
  place : Int
  beh : Bool
  val : Bool
  last : Int
  number : Int

noncomputable def startNum (r : RowsT) (op : Op) (n : Int) : Int := match op with
  | .eq => if rhas r n then n else 0
  | .gt => leastL (rkeys r) (n + 1)
  | .ge => leastL (rkeys r) n
noncomputable def lowOf (st : FSt) : Int := if st.beh then st.place + 1 else st.place

noncomputable abbrev s00 : Str := Str.ofString "00"
noncomputable abbrev s10 : Str := Str.ofString "10"
noncomputable abbrev s14 : Str := Str.ofString "14"
noncomputable abbrev s22 : Str := Str.ofString "22"
noncomputable abbrev s23 : Str := Str.ofString "23"
noncomputable abbrev s24 : Str := Str.ofString "24"
noncomputable abbrev s43 : Str := Str.ofString "43"
noncomputable abbrev s46 : Str := Str.ofString "46"
noncomputable abbrev s47 : Str := Str.ofString "47"
noncomputable abbrev s48 : Str := Str.ofString "48"
noncomputable abbrev s49 : Str := Str.ofString "49"

noncomputable def fFound (st : FSt) (n : Int) : FSt := { st with place := n, beh := true, val := true, last := n, number := n }
noncomputable def fReadNext (mode : Mode) (most : Int) (st : FSt) : (Str × Bts) × FSt :=
  if mode.reads = false then ((s47, #[]), { st with last := 0 })
  else if st.val = false then ((s46, #[]), { st with last := 0 })
  else if leastL (rkeys st.rows) (lowOf st) = 0 then ((s10, #[]), { st with last := 0, val := false })
  else if 0 < most ∧ most < leastL (rkeys st.rows) (lowOf st) then ((s14, #[]), { st with last := 0, val := false })
  else ((s00, rget st.rows (leastL (rkeys st.rows) (lowOf st))), fFound st (leastL (rkeys st.rows) (lowOf st)))
noncomputable def fStart (mode : Mode) (op : Op) (n : Int) (st : FSt) : Str × FSt :=
  if mode.reads = false then (s47, { st with last := 0 })
  else if 0 < startNum st.rows op n then (s00, { st with last := 0, val := true, place := startNum st.rows op n, beh := false })
  else (s23, { st with last := 0, val := false })
noncomputable def fWrite (mode : Mode) (most : Int) (b : Bts) (st : FSt) : Str × FSt :=
  if mode = .inp ∨ mode = .io then (s48, { st with last := 0 })
  else if st.number + 1 < 1 ∨ (0 < most ∧ most < st.number + 1) then (s24, { st with last := 0 })
  else if rhas st.rows (st.number + 1) then (s22, { st with last := 0 })
  else (s00, { st with last := 0, rows := rput st.rows (st.number + 1) b, number := st.number + 1 })
noncomputable def fRewrite (mode : Mode) (b : Bts) (st : FSt) : Str × FSt :=
  if mode ≠ .io then (s49, { st with last := 0 })
  else if 0 < st.last then (s00, { st with last := 0, rows := rput st.rows st.last b, number := st.last })
  else (s43, { st with last := 0 })
noncomputable def fDelete (mode : Mode) (st : FSt) : Str × FSt :=
  if mode ≠ .io then (s49, { st with last := 0 })
  else if 0 < st.last then (s00, { st with last := 0, rows := rdel st.rows st.last })
  else (s43, { st with last := 0 })
/-- the surroundings of a call, written out -/
noncomputable abbrev aro (dp un : Nat) (gd : Option (List Code)) (outer : List Env) : Around :=
  { handled := none, depth := dp, frames := some outer, guards := gd, units := un }

/-- g is h less what is turned -/
structure Cut (muts : List (Addr × Obj)) (h g : Heap) : Prop where
  size : g.objs.size = h.objs.size
  stays : g.StaysIn h
  rest : ∀ b o, h.get? b = some o → b ∉ muts.map (·.1) → g.get? b = some o
  here : ∀ p ∈ muts, h.get? p.1 = some p.2 ∧ g.get? p.1 = none

/-- what stands behind a call: all of g, and these objects outside of it -/
structure Aft (g h : Heap) (outs : List (Addr × Obj)) : Prop where
  keep : g.StaysIn h
  outs : ∀ p ∈ outs, h.get? p.1 = some p.2 ∧ g.get? p.1 = none

theorem cut_of {h₀ h : Heap} {L : Addr} {m : Str → Option Value} {news muts : List (Addr × Obj)} (F : Fr h₀ L h m) (N : News h₀ L h news) (hs : ∀ p ∈ muts, p ∈ news) :
    Cut muts h (hideAll h (muts.map (·.1))) ∧ h₀.StaysIn (hideAll h (muts.map (·.1))) ∧ L ∉ muts.map (·.1) := by
  have nm : ∀ b o, h₀.get? b = some o → b ∉ muts.map (·.1) := fun b o e q => by
    obtain ⟨p, hp, rfl⟩ := List.mem_map.mp q
    rw [(N p (hs p hp)).2.2] at e; cases e
  refine ⟨⟨hideAll_size _ _, fun b o e => of_hideAll _ e, fun b o e n => hideAll_get _ e n, fun p hp => ⟨(N p (hs p hp)).1, hideAll_none _ (List.mem_map_of_mem hp)⟩⟩, fun b o e => hideAll_get _ (F.keep b o e) (nm b o e), fun q => ?_⟩
  obtain ⟨p, hp, e⟩ := List.mem_map.mp q
  exact (N p (hs p hp)).2.1 e

theorem below_cut {A : Around} {base h : Heap} {outer : List Env} {as : List Addr} (B : Below A base outer h) (hst : ∀ b o, base.get? b = some o → b ∉ as) (hfr : ∀ env ∈ outer, ∀ a ∈ as, env.frame ≠ some a) :
    Below A base outer (hideAll h as) :=
  ⟨B.stack, fun b o e => hideAll_get _ (B.stays b o e) (hst b o e), funFrames_hideAll B.frames hfr⟩

/-- at a call, from the caller's frame: the cut heap and the frames below it -/
theorem ground_S {A : Around} {base h₀ h : Heap} {outer : List Env} {L : Addr} {m : Str → Option Value} {env : Env} {news muts : List (Addr × Obj)}
    (B : Below A base outer h₀) (F : Fr h₀ L h m) (N : News h₀ L h news) (hs : ∀ p ∈ muts, p ∈ news) (hf : env.frame = some L) (hke : env.scope.kind = .function) :
    ∃ g, Cut muts h g ∧ h₀.StaysIn g ∧ Below (A.deeper env) base (env :: outer) g ∧ Fr h₀ L g m ∧
      (∀ h', g.StaysIn h' → Fr h₀ L h' m) ∧
      (∀ h' p, g.StaysIn h' → p ∈ news → p.1 ∉ muts.map (·.1) → h'.get? p.1 = some p.2 ∧ p.1 ≠ L ∧ h₀.get? p.1 = none) ∧
      (∀ h' outs, Aft g h' outs → News h₀ L h' outs) := by
  obtain ⟨C, st, nL⟩ := cut_of F N hs
  obtain ⟨oL, es, ep, hL, hLd, hLk, hLf⟩ := F.ns
  have hLg := hideAll_get (muts.map (·.1)) hL nL
  have fr : ∀ h', (hideAll h (muts.map (·.1))).StaysIn h' → Fr h₀ L h' m := fun h' k => ⟨⟨oL, es, ep, k L oL hLg, hLd, hLk, hLf⟩, fun b o e => k b o (st b o e), F.above⟩
  refine ⟨_, C, st, ?_, fr _ fun _ _ e => e, fr, ?_, ?_⟩
  · have B₁ := pushX B F hf hke
    refine ⟨B₁.stack, fun b o e => st b o (B.stays b o e), funFrames_hideAll B₁.frames fun env' he b hb hf' => ?_⟩
    cases he with
    | head => exact nL ((Option.some.inj (hf.symm.trans hf') : L = b) ▸ hb)
    | tail _ he =>
      obtain ⟨L₁, o₁, hf₁, ho₁⟩ := funFrames_in B.frames env' he
      rw [hf₁] at hf'
      have e : L₁ = b := Option.some.inj hf'
      subst e
      obtain ⟨p, hp, e⟩ := List.mem_map.mp hb
      have := (N p (hs p hp)).2.2
      rw [e, ho₁] at this
      cases this
  · intro h' p k hp hn
    exact ⟨k _ _ (C.rest _ _ (N p hp).1 hn), (N p hp).2⟩
  · intro h' outs a p hp
    obtain ⟨h1, h2⟩ := a.outs p hp
    refine ⟨h1, fun q => ?_, ?_⟩
    · rw [q, hLg] at h2; cases h2
    · cases q : h₀.get? p.1 with
      | none => rfl
      | some o => have := st _ _ q; rw [h2] at this; cases this

/-- a call of a text's def from a cut heap -/
theorem call_S {prog : Program} {w : World} {A : Around} {s : Shared} {g : Heap} {muts : List (Addr × Obj)}
    {R : Result → Shared → Prop} {name qual : Str} {params : Arguments} {body : List Stmt} {scope : Scope} {cl : List (Str × Addr)} {dV kV doc pm cdv ct : Value} {an : Option Addr} {fo : Obj} {f : Addr} {args : Args} {binds : List (Str × Value)}
    (C : Cut muts s.heap g) (hlim : g.NoLimit) (ho : g.get? f = some fo) (hd : fo.data = .func (fnX name qual params body scope cl dV kV doc pm an cdv ct)) (hcd : g.CodeRec cdv qual) (hroom : A.depth < recursionLimit)
    (hbind : BindsTo s (fnX name qual params body scope cl dV kV doc pm an cdv ct) args binds) (hloc : ∀ y ∈ binds, scope.names.lookup y.1 = some .local)
    (h : ∀ L' h₁, Fr g L' h₁ (fun y => binds.reverse.lookup y) → News g L' h₁ muts → (∀ p ∈ muts, p.1 < L') →
      wpAny (model prog w) (A.deeper (envX qual scope L' f cdv cl)) (execs body (envX qual scope L' f cdv cl))
        (fun fl s' => R (.ok (.ret (match fl with | .ret v => v | _ => .none))) s')
        (fun e s' => wpAny (model prog w) (A.deeper (envX qual scope L' f cdv cl)) (leaving (envX qual scope L' f cdv cl) e) (fun _ s'' => R (.error e) s'') (fun e' s'' => R (.error e') s'') s')
        { s with heap := h₁, toks := s.toks + binds.length })
    (hcell : ∀ x ∈ scope.names, x.2 ≠ .cell) (hco : scope.isCoroutine = false := by rfl) (hgen : scope.isGenerator = false := by rfl) (hk : scope.kind = .function := by rfl) : codeAny (model prog w) A (.call (.ref f) args) R s := by
  refine codeAny_call_def (fd := fnX name qual params body scope cl dV kV doc pm an cdv ct) (body := body) (binds := binds) hroom (C.stays _ _ ho) hd (hlim.keeps C.stays) (hcd.keeps C.stays) rfl hbind hcell hloc (fun h₁ hns hk₁ => ?_) hco hgen hk
  exact h s.heap.objs.size h₁ ⟨hns, fun b o e => hk₁ b o (C.stays b o e), Nat.le_of_eq C.size⟩
    (fun p hp => ⟨hk₁ _ _ (C.here p hp).1, Nat.ne_of_lt (Heap.lt_size (C.here p hp).1), (C.here p hp).2⟩) (fun p hp => Heap.lt_size (C.here p hp).1)

theorem aft_of {g h : Heap} {L : Addr} {m : Str → Option Value} {news : List (Addr × Obj)} (F : Fr g L h m) (N : News g L h news) : Aft g h news :=
  ⟨F.keep, fun p hp => ⟨(N p hp).1, (N p hp).2.2⟩⟩
theorem Aft.sub {g h : Heap} {news outs : List (Addr × Obj)} (a : Aft g h news) (hs : ∀ p ∈ outs, p ∈ news) : Aft g h outs := ⟨a.keep, fun p hp => a.outs p (hs p hp)⟩

noncomputable abbrev VW : Program := topProg
noncomputable abbrev LO : List Str := looseW hd.view_39 [Str.ofString "LedgerError"] ++ (recsOf hd.view_39).map (fun x => x.name) ++ (litsOf hd.view_39).map (fun x => x.1) ++ (clssOf hd.view_39 (looseW hd.view_39 [Str.ofString "LedgerError"])).map (fun x => x.name)

/-- the caller's frame -/
structure Here (w : World) (mean : ExcName → Option Value) (mg mb : Str → Option Value) (A₀ : Around) (base h₀ : Heap) (outer : List Env) (env : Env) (L : Addr) (m : Str → Option Value) (news : List (Addr × Obj)) (h : Heap) : Prop where
  B : Below A₀ base outer h₀
  F : Fr h₀ L h m
  X : Frag.In (hd.heap_39 w.params) h₀
  N : News h₀ L h news
  T : Top VW LO mean mg mb h₀
  hf : env.frame = some L
  hk : env.scope.kind = .function

theorem Here.cut {w : World} {mean : ExcName → Option Value} {mg mb : Str → Option Value} {A₀ : Around} {base h₀ h : Heap} {outer : List Env} {env : Env} {L : Addr} {m : Str → Option Value} {news muts : List (Addr × Obj)} {dp un : Nat} {gd : Option (List Code)}
    (H : Here w mean mg mb A₀ base h₀ outer env L m news h) (hs : ∀ p ∈ muts, p ∈ news) :
    ∃ g, Cut muts h g ∧ h₀.StaysIn g ∧ Below (aro dp un gd (env :: outer)) base (env :: outer) g ∧ Frag.In (hd.heap_39 w.params) g ∧ Top VW LO mean mg mb g ∧
      (∀ h', g.StaysIn h' → Fr h₀ L h' m) ∧ (∀ h' p, g.StaysIn h' → p ∈ news → p.1 ∉ muts.map (·.1) → h'.get? p.1 = some p.2 ∧ p.1 ≠ L ∧ h₀.get? p.1 = none) ∧
      (∀ h' outs, Aft g h' outs → News h₀ L h' outs) := by
  obtain ⟨g, C, st, B', F', fr, kp, ns⟩ := ground_S H.B H.F H.N hs H.hf H.hk
  exact ⟨g, C, st, ⟨rfl, B'.stays, B'.frames⟩, H.X.keeps st, H.T.keeps st, fr, kp, ns⟩

theorem code_S {prog : Program} {w : World} {A : Around} {s : Shared} {g : Heap} {muts : List (Addr × Obj)} {K : Frag} {p : Program} {loose : List Str} {mean : ExcName → Option Value} {mg mb : Str → Option Value}
    {R : Result → Shared → Prop} {name qual : Str} {params : Arguments} {body : List Stmt} {scope : Scope} {dV kV doc pm cdv ct oc : Value} {an od : Option Addr} {osl : Array (Option Value)} {f : Addr} {args : Args} {binds : List (Str × Value)}
    (C : Cut muts s.heap g) (X : K.In g) (T : Top p loose mean mg mb g)
    (ho : K.lookup f = some ⟨oc, od, .func (fnOf name qual params body scope dV kV doc pm an cdv ct), osl⟩) (hcd : codeIn K cdv qual = true) (hroom : A.depth < recursionLimit)
    (hbind : BindsTo s (fnOf name qual params body scope dV kV doc pm an cdv ct) args binds) (hloc : ∀ y ∈ binds, scope.names.lookup y.1 = some .local)
    (h : ∀ L' h₁ tk, Fr g L' h₁ (fun y => binds.reverse.lookup y) → News g L' h₁ muts → (∀ p ∈ muts, p.1 < L') →
      wpAny (model prog w) (A.deeper (envOf qual scope L' f cdv)) (execs body (envOf qual scope L' f cdv))
        (fun fl s' => R (.ok (.ret (match fl with | .ret v => v | _ => .none))) s')
        (fun e s' => wpAny (model prog w) (A.deeper (envOf qual scope L' f cdv)) (leaving (envOf qual scope L' f cdv) e) (fun _ s'' => R (.error e) s'') (fun e' s'' => R (.error e') s'') s')
        { s with heap := h₁, toks := tk })
    (hco : scope.isCoroutine = false) (hgen : scope.isGenerator = false) (hk : scope.kind = .function)
    (hcell : ∀ x ∈ scope.names, x.2 ≠ .cell) : codeAny (model prog w) A (.call (.ref f) args) R s :=
  call_S (cl := []) C T.nolimit (X _ _ ho) rfl (codeRec_of X hcd) hroom hbind hloc (fun L' h₁ a b c => h L' h₁ _ a b c) hcell hco hgen hk

/-- RelFile's own dict -/
inductive FileObj (dc : Addr) (mode access : Str) (most : Int) (st : FSt) : Obj → Prop
  | mk (h0 h1 h2 h3 h4 h5 h6 h7 h8 : Int) (t0 t1 t2 t3 t4 t5 t6 t7 t8 u1 u2 u3 u4 u5 u6 : Tok) : FileObj dc mode access most st (dictOf
      [⟨h0, .str "content" t0, .ref dc⟩, ⟨h1, .str "mode" t1, .str mode u1⟩, ⟨h2, .str "access" t2, .str access u2⟩, ⟨h3, .str "most" t3, .int most u3⟩, ⟨h4, .str "place" t4, .int st.place u4⟩,
       ⟨h5, .str "is_behind" t5, .bool st.beh⟩, ⟨h6, .str "is_valid" t6, .bool st.val⟩, ⟨h7, .str "last" t7, .int st.last u5⟩, ⟨h8, .str "number" t8, .int st.number u6⟩] 9)

theorem twoP {h₀ h : Heap} {L a b : Addr} {news : List (Addr × Obj)} {o o' : Obj} (N : News h₀ L h news) (h1 : (a, o) ∈ news) (h2 : (b, o') ∈ news) (hc : o.cls ≠ o'.cls) : @Ne Nat a b := fun e => by
  have e1 := (N _ h1).1
  have e2 := (N _ h2).1
  rw [show (a, o).1 = (b, o').1 from e, e2] at e1
  exact hc (congrArg Obj.cls (Option.some.inj e1)).symm
theorem cut_ne {muts : List (Addr × Obj)} {h g : Heap} (C : Cut muts h g) {h₀ : Heap} {L : Addr} {news : List (Addr × Obj)} (N : News h₀ L h news) {a : Addr} (hg : g.get? a = none) (hm : ∀ p ∈ muts, p.1 ≠ a) : ∀ p ∈ news, p.1 ≠ a := by
  intro p hp e
  by_cases q : p.1 ∈ muts.map (·.1)
  · obtain ⟨x, hx, e'⟩ := List.mem_map.mp q
    exact hm x hx (e'.trans e)
  · have := C.rest _ _ (N p hp).1 q
    rw [e, hg] at this; cases this
noncomputable def AllNe (d : Nat) : List (Addr × Obj) → Prop
  | [] => True
  | p :: r => @Ne Nat p.1 d ∧ AllNe d r
theorem allNe_of {d : Addr} : ∀ {l : List (Addr × Obj)}, (∀ p ∈ l, p.1 ≠ d) → AllNe d l
  | [], _ => trivial
  | p :: _, h => ⟨h p (.head _), allNe_of fun q hq => h q (.tail _ hq)⟩

/-- the ledger behind a call that has turned one object of it -/
theorem news_turn {muts : List (Addr × Obj)} {h g h' : Heap} (C : Cut muts h g) {h₀ : Heap} {L : Addr} {news outs : List (Addr × Obj)} {d : Addr} {o o' : Obj} {u : Obj → List (Addr × Obj)} (N : News h₀ L h news) (U : UpdF d o news u) (a : Aft g h' outs)
    (N' : News h₀ L h' outs) (kp : ∀ p, p ∈ news → p.1 ∉ muts.map (·.1) → h'.get? p.1 = some p.2 ∧ p.1 ≠ L ∧ h₀.get? p.1 = none) (ho : (d, o') ∈ outs) (hm : ∀ p ∈ muts, p.1 = d ∨ p ∈ outs) : News h₀ L h' (u o') := by
  obtain ⟨pre, post, rfl, hu, h1, h2⟩ := U.split
  rw [hu]
  have oth : ∀ p, p ∈ pre ++ (d, o) :: post → p.1 ≠ d → h'.get? p.1 = some p.2 ∧ p.1 ≠ L ∧ h₀.get? p.1 = none := fun p hp hd => by
    by_cases q : p.1 ∈ muts.map (·.1)
    · obtain ⟨x, hx, e⟩ := List.mem_map.mp q
      rcases hm x hx with e' | hx'
      · exact absurd (e.symm.trans e') hd
      · have e1 := (C.here x hx).1
        have e2 := (N p hp).1
        rw [e, e2] at e1
        have : p = x := Prod.ext e.symm (Option.some.inj e1)
        exact this ▸ N' x hx'
    · exact kp p hp q
  intro p hp
  rcases List.mem_append.mp hp with q | q
  · exact oth p (List.mem_append_left _ q) (h1 p q)
  · rcases List.mem_cons.mp q with rfl | q
    · exact N' _ ho
    · exact oth p (List.mem_append_right _ (.tail _ q)) (h2 p q)

/-- p is a part of the conjunction c -/
inductive InC (p : Prop) : Prop → Prop
  | here : InC p p
  | left (q : Prop) : InC p (p ∧ q)
  | right (q : Prop) {r : Prop} : InC p r → InC p (q ∧ r)
theorem InC.get {p c : Prop} (s : InC p c) (h : c) : p := by
  induction s with
  | here => exact h
  | left => exact h.1
  | right _ _ ih => exact ih h.2
theorem lt_c {a d x : Nat} {r : Prop} (h : x < d ∧ r) (s : InC (a < d) (x < d ∧ r)) : a < d := s.get h
theorem ne_c1 {a b y : Nat} {r : Prop} (h : @Ne Nat a y ∧ r) (s : InC (@Ne Nat a b) (@Ne Nat a y ∧ r)) : @Ne Nat a b := s.get h
theorem ne_c2 {a b y : Nat} {r : Prop} (h : @Ne Nat a y ∧ r) (s : InC (@Ne Nat a b) (@Ne Nat a y ∧ r)) : @Ne Nat b a := (s.get h).symm
theorem ne_c3 {a b y : Nat} {r : Prop} (h : @Ne Nat y b ∧ r) (s : InC (@Ne Nat a b) (@Ne Nat y b ∧ r)) : @Ne Nat a b := s.get h
theorem ne_c4 {a b y : Nat} {r : Prop} (h : @Ne Nat y b ∧ r) (s : InC (@Ne Nat a b) (@Ne Nat y b ∧ r)) : @Ne Nat b a := (s.get h).symm
theorem lt_c1 {a d x : Nat} {r : Prop} (h : x < d ∧ r) (s : InC (a + 1 < d) (x < d ∧ r)) : a < d := Nat.lt_of_succ_lt (s.get h)
theorem lt_c2 {a d x : Nat} {r : Prop} (h : x < d ∧ r) (s : InC (a + 1 + 1 < d) (x < d ∧ r)) : a < d := Nat.lt_of_succ_lt (lt_c1 h s)
theorem lt_c3 {a d x : Nat} {r : Prop} (h : x < d ∧ r) (s : InC (a + 1 + 1 + 1 < d) (x < d ∧ r)) : a < d := Nat.lt_of_succ_lt (lt_c2 h s)
theorem lt_t {a b d x : Nat} {r : Prop} (hb : b < d) (h : x < b ∧ r) (s : InC (a < b) (x < b ∧ r)) : a < d := Nat.lt_trans (s.get h) hb
theorem words1 : True := by
  k_with "S lt" => (((repeat (first | (with_reducible exact Nat.lt_succ_self _) | ((with_reducible show @LT.lt Nat instLTNat _ (@HAdd.hAdd Nat Nat Nat (@instHAdd Nat instAddNat) _ _)); (with_reducible refine Nat.lt_succ_of_lt ?_)))); (first | done | (with_reducible assumption) | ((with_reducible refine lt_c (by assumption) ?_); ((repeat (first | (with_reducible exact InC.left _) | (with_reducible exact InC.here) | (with_reducible refine InC.right _ ?_))); done)) | (with_reducible exact Nat.lt_of_succ_lt (by assumption)) | ((with_reducible refine lt_c1 (by assumption) ?_); ((repeat (first | (with_reducible exact InC.left _) | (with_reducible exact InC.here) | (with_reducible refine InC.right _ ?_))); done)) | ((with_reducible refine lt_c2 (by assumption) ?_); ((repeat (first | (with_reducible exact InC.left _) | (with_reducible exact InC.here) | (with_reducible refine InC.right _ ?_))); done)) | ((with_reducible refine lt_c3 (by assumption) ?_); ((repeat (first | (with_reducible exact InC.left _) | (with_reducible exact InC.here) | (with_reducible refine InC.right _ ?_))); done)) | ((with_reducible refine lt_t (by assumption) (by assumption) ?_); ((repeat (first | (with_reducible exact InC.left _) | (with_reducible exact InC.here) | (with_reducible refine InC.right _ ?_))); done)))))
  k_with "S cne" => ((first | (with_reducible assumption) | (with_reducible exact Ne.symm (by assumption)) | ((with_reducible refine Nat.ne_of_gt ?_); ((repeat (first | (with_reducible exact Nat.lt_succ_self _) | ((with_reducible show @LT.lt Nat instLTNat _ (@HAdd.hAdd Nat Nat Nat (@instHAdd Nat instAddNat) _ _)); (with_reducible refine Nat.lt_succ_of_lt ?_)))); (first | done | (with_reducible assumption) | ((with_reducible refine lt_c (by assumption) ?_); ((repeat (first | (with_reducible exact InC.left _) | (with_reducible exact InC.here) | (with_reducible refine InC.right _ ?_))); done)) | (with_reducible exact Nat.lt_of_succ_lt (by assumption)) | ((with_reducible refine lt_c1 (by assumption) ?_); ((repeat (first | (with_reducible exact InC.left _) | (with_reducible exact InC.here) | (with_reducible refine InC.right _ ?_))); done)) | ((with_reducible refine lt_c2 (by assumption) ?_); ((repeat (first | (with_reducible exact InC.left _) | (with_reducible exact InC.here) | (with_reducible refine InC.right _ ?_))); done)) | ((with_reducible refine lt_c3 (by assumption) ?_); ((repeat (first | (with_reducible exact InC.left _) | (with_reducible exact InC.here) | (with_reducible refine InC.right _ ?_))); done)) | ((with_reducible refine lt_t (by assumption) (by assumption) ?_); ((repeat (first | (with_reducible exact InC.left _) | (with_reducible exact InC.here) | (with_reducible refine InC.right _ ?_))); done))))) | ((with_reducible refine Nat.ne_of_lt ?_); ((repeat (first | (with_reducible exact Nat.lt_succ_self _) | ((with_reducible show @LT.lt Nat instLTNat _ (@HAdd.hAdd Nat Nat Nat (@instHAdd Nat instAddNat) _ _)); (with_reducible refine Nat.lt_succ_of_lt ?_)))); (first | done | (with_reducible assumption) | ((with_reducible refine lt_c (by assumption) ?_); ((repeat (first | (with_reducible exact InC.left _) | (with_reducible exact InC.here) | (with_reducible refine InC.right _ ?_))); done)) | (with_reducible exact Nat.lt_of_succ_lt (by assumption)) | ((with_reducible refine lt_c1 (by assumption) ?_); ((repeat (first | (with_reducible exact InC.left _) | (with_reducible exact InC.here) | (with_reducible refine InC.right _ ?_))); done)) | ((with_reducible refine lt_c2 (by assumption) ?_); ((repeat (first | (with_reducible exact InC.left _) | (with_reducible exact InC.here) | (with_reducible refine InC.right _ ?_))); done)) | ((with_reducible refine lt_c3 (by assumption) ?_); ((repeat (first | (with_reducible exact InC.left _) | (with_reducible exact InC.here) | (with_reducible refine InC.right _ ?_))); done)) | ((with_reducible refine lt_t (by assumption) (by assumption) ?_); ((repeat (first | (with_reducible exact InC.left _) | (with_reducible exact InC.here) | (with_reducible refine InC.right _ ?_))); done))))) | ((with_reducible refine ne_c1 (by assumption) ?_); ((repeat (first | (with_reducible exact InC.left _) | (with_reducible exact InC.here) | (with_reducible refine InC.right _ ?_))); done)) | ((with_reducible refine ne_c2 (by assumption) ?_); ((repeat (first | (with_reducible exact InC.left _) | (with_reducible exact InC.here) | (with_reducible refine InC.right _ ?_))); done)) | ((with_reducible refine ne_c3 (by assumption) ?_); ((repeat (first | (with_reducible exact InC.left _) | (with_reducible exact InC.here) | (with_reducible refine InC.right _ ?_))); done)) | ((with_reducible refine ne_c4 (by assumption) ?_); ((repeat (first | (with_reducible exact InC.left _) | (with_reducible exact InC.here) | (with_reducible refine InC.right _ ?_))); done)) | omega))
  trivial
local macro_rules | `(tactic| k_ne) => `(tactic| (refine neN ?_; (try dsimp only); walk_at "S cne"))
local macro_rules | `(tactic| k_steps) => `(tactic| repeat' (first | (k_unfold; (try dsimp only)) | (k_end; kc_close) | (walk1 <;> (try dsimp only)) | (dsimp only; walk1) | (leave1; walk_say "STEP leave1"; try dsimp only) | fail "no step"))
local macro_rules | `(tactic| walk_at "execs cons") => `(tactic| (first | (k_extra "S fold") | (k_extra "S execs") | ((with_reducible refine wpAny_execs_cons ?_); (try dsimp only); (try ((rename News _ _ _ _ => lN'); (dsimp only at lN'))))))
local macro_rules | `(tactic| k_room) => `(tactic| ((try simp only [depth_under_make, depth_under_kw, depth_in1, depth_deeper, depth_caller]); (try dsimp only [aro]); omega))
theorem words2 : True := by
  k_with "S enter" => (((refine' code_S (by k_asm) (by k_asm) (by k_asm) (by k_is) (by k_is) (by k_room) (by first | exact BindsTo.of_eq rfl | exact binds_K (Frag.In.keeps (by k_asm) (Cut.stays (by k_asm))) rfl (by k_is) rfl rfl rfl | fail "s_enter: no rule for these arguments") (by exact locs rfl) ?_ (by exact rfl) (by exact rfl) (by exact rfl) (by decide); k_whole); intro L' h' tk' F' N' l1; (try k_lt l1); (revert L' h' tk' F' N' l1; intro _ _ _ _ _ _); (try dsimp only); (try k_fold)))
  trivial
/-- RelFile's own dict, its hashes and tokens as two lists -/
noncomputable def fileD (dc : Addr) (mode access : Str) (most : Int) (st : FSt) (hs : Nat → Int) (ts : Nat → Tok) : Obj := dictOf
      [⟨hs 0, .str "content" (ts 0), .ref dc⟩, ⟨hs 1, .str "mode" (ts 1), .str mode (ts 9)⟩, ⟨hs 2, .str "access" (ts 2), .str access (ts 10)⟩, ⟨hs 3, .str "most" (ts 3), .int most (ts 11)⟩, ⟨hs 4, .str "place" (ts 4), .int st.place (ts 12)⟩,
       ⟨hs 5, .str "is_behind" (ts 5), .bool st.beh⟩, ⟨hs 6, .str "is_valid" (ts 6), .bool st.val⟩, ⟨hs 7, .str "last" (ts 7), .int st.last (ts 13)⟩, ⟨hs 8, .str "number" (ts 8), .int st.number (ts 14)⟩] 9
theorem FileObj.inv {dc : Addr} {mode access : Str} {most : Int} {st : FSt} {od : Obj} (h : FileObj dc mode access most st od) : ∃ hs ts, od = fileD dc mode access most st hs ts := by
  cases h with
  | mk h0 h1 h2 h3 h4 h5 h6 h7 h8 t0 t1 t2 t3 t4 t5 t6 t7 t8 u1 u2 u3 u4 u5 u6 =>
    exact ⟨fun | 0 => h0 | 1 => h1 | 2 => h2 | 3 => h3 | 4 => h4 | 5 => h5 | 6 => h6 | 7 => h7 | _ => h8,
      fun | 0 => t0 | 1 => t1 | 2 => t2 | 3 => t3 | 4 => t4 | 5 => t5 | 6 => t6 | 7 => t7 | 8 => t8 | 9 => u1 | 10 => u2 | 11 => u3 | 12 => u4 | 13 => u5 | _ => u6, rfl⟩
theorem Here.cutK {w : World} {mean : ExcName → Option Value} {mg mb : Str → Option Value} {A₀ : Around} {base h₀ h : Heap} {outer : List Env} {env : Env} {L : Addr} {m : Str → Option Value} {news muts : List (Addr × Obj)} {dp un : Nat} {gd : Option (List Code)} {P : Prop}
    (H : Here w mean mg mb A₀ base h₀ outer env L m news h) (hs : ∀ p ∈ muts, p ∈ news)
    (k : ∀ g, Cut muts h g → h₀.StaysIn g → Below (aro dp un gd (env :: outer)) base (env :: outer) g → Frag.In (hd.heap_39 w.params) g → Top VW LO mean mg mb g →
      (∀ h', g.StaysIn h' → Fr h₀ L h' m) → (∀ h' p, g.StaysIn h' → p ∈ news → p.1 ∉ muts.map (·.1) → h'.get? p.1 = some p.2 ∧ p.1 ≠ L ∧ h₀.get? p.1 = none) →
      (∀ h' outs, Aft g h' outs → News h₀ L h' outs) → News h₀ L h news → P) : P := by
  obtain ⟨g, C, st', B, X, T, fr, kp, ns⟩ := H.cut (dp := dp) (un := un) (gd := gd) hs
  exact k g C st' B X T fr kp ns H.N
section
variable {w : World} {mean : ExcName → Option Value} {mg mb : Str → Option Value} {A₀ : Around} {base h₀ h : Heap} {outer : List Env} {env : Env} {L : Addr} {m : Str → Option Value} {news : List (Addr × Obj)} {dp un : Nat} {gd : Option (List Code)}
  {x dx dc : Addr} {mode acc : Str} {most : Int} {st : FSt} {od oc : Obj} {rows : RowsT}
theorem file_ne (N : News h₀ L h news) (hod : FileObj dc mode acc most st od) (hx : (x, instObj 168 dx) ∈ news) (hdx : (dx, od) ∈ news) : @Ne Nat x dx := by
  cases hod; exact twoP N hx hdx (by intro h; cases h)
theorem inst_rows_ne (N : News h₀ L h news) (R : RowsO w oc rows) (hx : (x, instObj 168 dx) ∈ news) (hdc : (dc, oc) ∈ news) : @Ne Nat x dc :=
  twoP N hx hdc (by obtain ⟨_, ⟨_, _, ⟨hc, _⟩, _⟩, _⟩ := R; rw [hc]; intro h; cases h)
theorem file_cut {P : Prop} (H : Here w mean mg mb A₀ base h₀ outer env L m news h) (hod : FileObj dc mode acc most st od) (hx : (x, instObj 168 dx) ∈ news) (hdx : (dx, od) ∈ news) (hdc : (dc, oc) ∈ news) (R : RowsO w oc rows)
    (k : ∀ g hs ts, Cut [(x, instObj 168 dx), (dx, fileD dc mode acc most st hs ts), (dc, oc)] h g → h₀.StaysIn g → Below (aro dp un gd (env :: outer)) base (env :: outer) g → Frag.In (hd.heap_39 w.params) g → Top VW LO mean mg mb g →
      (∀ h', g.StaysIn h' → Fr h₀ L h' m) → (∀ h' p, g.StaysIn h' → p ∈ news → p.1 ∉ [(x, instObj 168 dx), (dx, fileD dc mode acc most st hs ts), (dc, oc)].map (·.1) → h'.get? p.1 = some p.2 ∧ p.1 ≠ L ∧ h₀.get? p.1 = none) →
      (∀ h' outs, Aft g h' outs → News h₀ L h' outs) → News h₀ L h news → @Ne Nat x dx → @Ne Nat x dc → P) : P := by
  obtain ⟨hs, ts, e⟩ := hod.inv
  obtain ⟨g, C, st', B, X, T, fr, kp, ns⟩ := H.cut (dp := dp) (un := un) (gd := gd) (muts := [(x, instObj 168 dx), (dx, fileD dc mode acc most st hs ts), (dc, oc)]) (by simp [hx, ← e, hdx, hdc])
  exact k g hs ts C st' B X T fr kp ns H.N (file_ne H.N hod hx hdx) (inst_rows_ne H.N R hx hdc)
end
-- the kit looks for a known test among the facts only where the test holds a variable: here the tests are closed
theorem words3 : True := by
  k_with "ite" => ((k_here; k_whole; first | (refine ite_pos (by with_reducible assumption) ?_) | (refine ite_neg (by with_reducible assumption) ?_) | (refine ite_isFalse (by with_reducible assumption) ?_)))
  trivial
theorem ne_g1 {a b u y : Nat} {r : Prop} (h : @Ne Nat u y ∧ r) (s : InC (@Ne Nat a b) (@Ne Nat u y ∧ r)) : @Ne Nat a b := s.get h
theorem ne_g2 {a b u y : Nat} {r : Prop} (h : @Ne Nat u y ∧ r) (s : InC (@Ne Nat a b) (@Ne Nat u y ∧ r)) : @Ne Nat b a := (s.get h).symm
local macro_rules | `(tactic| k_ne) => `(tactic| (refine neN ?_; (try dsimp only); (first | (with_reducible assumption) | ((with_reducible refine ne_g1 (by assumption) ?_); ((repeat (first | (with_reducible exact InC.left _) | (with_reducible exact InC.here) | (with_reducible refine InC.right _ ?_))); done)) | ((with_reducible refine ne_g2 (by assumption) ?_); ((repeat (first | (with_reducible exact InC.left _) | (with_reducible exact InC.here) | (with_reducible refine InC.right _ ?_))); done)))))
noncomputable def LpEnd (h₀ : Heap) (L : Addr) (J : (Str → Option Value) → List (Addr × Obj) → Prop) (own : List (Addr × Obj)) (s₁ s₂ : Shared) : Prop :=
  ∃ h' tk m' nx, s₂ = { s₁ with heap := h', toks := tk } ∧ Fr h₀ L h' m' ∧ News h₀ L h' (nx ++ own) ∧ (∀ p ∈ nx, ∀ q ∈ own, p.1 ≠ q.1) ∧ J m' nx
noncomputable def LpPost (h₀ : Heap) (L : Addr) (J : (Str → Option Value) → List (Addr × Obj) → Prop) (own : List (Addr × Obj)) (s₁ : Shared) (Q : Flow → Shared → Prop) (f : Flow) (s₂ : Shared) : Prop :=
  match f with
  | .ret v => Q (.ret v) s₂
  | .brk => Q .next s₂
  | _ => LpEnd h₀ L J own s₁ s₂

section
variable {prog : Program} {w : World} {A : Around} {E : Value → Shared → Prop} {s : Shared} {env : Env} {h₀ : Heap} {target : Expr} {body : List Stmt} {Q : Flow → Shared → Prop}

theorem turnsAt_S {I : Addr} {fp : List Addr} {n : Nat} {P : Nat → Value → Prop} {St : Nat → Heap → Prop} {m : Str → Option Value} {news : List (Addr × Obj)} (W : Walks prog w A I fp [I] n P St)
    (hgo : ∀ i v (s : Shared) (Q : Unit → Shared → Prop) (E : Value → Shared → Prop), St i s.heap → Q () s → wpAny (model prog w) A (letOwnedTupleGo target (.ref I) v) Q E s)
    (hLf : env.locals ∉ fp) (hI : h₀.get? I = none) (hlive : ∀ i h, St i h → ∀ b ∈ fp, ∃ o, h.get? b = some o) (hst : St 0 s.heap) (F : Fr h₀ env.locals s.heap m) (N : News h₀ env.locals s.heap news) (hoff : ∀ p ∈ news, p.1 ∉ fp)
    (J : Nat → (Str → Option Value) → List (Addr × Obj) → Prop) (j0 : J 0 m news)
    (turn : ∀ i v m₁ nx h tk own, i < n → P i v → J i m₁ nx → (∀ p ∈ nx, ∀ q ∈ own, p.1 ≠ q.1) → (∀ p ∈ own, p.1 ∈ fp) → Fr h₀ env.locals h m₁ → News h₀ env.locals h (nx ++ own) →
      wpAny (model prog w) A (assign target env v) (fun _ s₃ => wpAny (model prog w) A (execs body env) (LpPost h₀ env.locals (J (i + 1)) own { s with heap := h, toks := tk } Q) E s₃) E { s with heap := h, toks := tk })
    (done : ∀ m₁ nx h tk, J n m₁ nx → Fr h₀ env.locals h m₁ → News h₀ env.locals h nx → Q .next { s with heap := h, toks := tk }) :
    TurnsAt prog w A h₀ env target body Q E (.ref I) s := by
  have hIf : I ∈ fp := W.sub I (.head _)
  refine ⟨I, fp, [I], n, _, _, St, m, news, fun i m nx => (∀ p ∈ nx, p.1 ∉ fp) ∧ J i m nx, rfl, KTurns.ofWalks W hgo, hLf, (fun b hb => by rw [List.mem_singleton.mp hb]; exact hI), (fun p hp hq => hoff p hp (by rw [List.mem_singleton.mp hq]; exact hIf)), hst, F, N, ⟨hoff, j0⟩, ?_, ?_⟩
  · rintro i v m₁ nx h tk own hin hP ⟨hof, hJ⟩ hnw hof2 hget hall hst' F₁ N₁
    have sep : ∀ p ∈ nx, ∀ q ∈ own, p.1 ≠ q.1 := fun p hp q hq e => hof p hp (e ▸ hof2 q hq)
    refine wpAny_mono (turn i v m₁ nx h tk own hin hP hJ sep hof2 F₁ (fun p hp => N₁ p ((List.mem_append.mp hp).elim (fun q => List.mem_append_right _ q) fun q => List.mem_append_left _ q))) (fun _ s₃ h₃ => wpAny_mono h₃ (fun f s₄ h₄ => ?_) fun _ _ e => e) fun _ _ e => e
    have fin : LpEnd h₀ env.locals (J (i + 1)) own { s with heap := h, toks := tk } s₄ → LoopStepU h₀ env.locals [I] own (fun m nx => (∀ p ∈ nx, p.1 ∉ fp) ∧ J (i + 1) m nx) { s with heap := h, toks := tk } .next s₄ := by
      rintro ⟨h', tk', m', nx', e, F', N', sep', hJ'⟩
      have off' : ∀ p ∈ nx', p.1 ∉ fp := fun p hp hq => by
        obtain ⟨o, ho⟩ := hlive _ _ hst' _ hq
        cases hn : h₀.get? p.1 with
        | none => exact sep' p hp _ (hall _ hq hn o ho) rfl
        | some o' => have := (N' p (List.mem_append_left _ hp)).2.2; rw [hn] at this; cases this
      exact ⟨rfl, h', tk', m', nx', e, F', fun p hp => N' p ((List.mem_append.mp hp).elim (fun q => List.mem_append_right _ q) fun q => List.mem_append_left _ q), fun p hp hq => off' p hp (by rw [List.mem_singleton.mp hq]; exact hIf), off', hJ'⟩
    cases f with
    | ret v => exact .ret h₄
    | brk => exact .brk h₄
    | next => exact .next (fin h₄)
    | cont => exact .cont (fin h₄)
  · rintro h' tk m' nx F' N' _ ⟨_, hJ⟩
    exact done m' nx h' tk hJ F' N'

/-- for over a list of the base, or a list of the ledger that nothing else names -/
theorem iter_list {l : Addr} {items : Array Value} {m : Str → Option Value} {news : List (Addr × Obj)} (hh : A.handled = none) (F : Fr h₀ env.locals s.heap m) (N : News h₀ env.locals s.heap news) (hl : s.heap.IsList l items) (hlL : l ≠ env.locals) (hof : ∀ p ∈ news, p.1 ≠ l)
    (J : Nat → (Str → Option Value) → List (Addr × Obj) → Prop) (j0 : J 0 m news)
    (turn : ∀ i v m₁ nx h tk own, items[i]? = some v → J i m₁ nx → (∀ p ∈ nx, ∀ q ∈ own, p.1 ≠ q.1) → Fr h₀ env.locals h m₁ → News h₀ env.locals h (nx ++ own) →
      wpAny (model prog w) A (assign target env v) (fun _ s₃ => wpAny (model prog w) A (execs body env) (LpPost h₀ env.locals (J (i + 1)) own { s with heap := h, toks := tk } Q) E s₃) E { s with heap := h, toks := tk })
    (done : ∀ m₁ nx h tk, J items.size m₁ nx → Fr h₀ env.locals h m₁ → News h₀ env.locals h nx → Q .next { s with heap := h, toks := tk }) :
    wpAny (model prog w) A (pyIter (.ref l)) (fun it s₂ => TurnsAt prog w A h₀ env target body Q E it s₂) E s := by
  have hlt : l < s.heap.objs.size := by obtain ⟨_, e, _⟩ := hl; exact Heap.lt_size e
  refine wpAny_pyIter_list hl ?_
  refine turnsAt_S (s := { s with heap := s.heap.push _ }) (Walks.list hh s.heap.objs.size l (Nat.ne_of_lt hlt) items) (fun i v s' Q' E' st hQ' => letGo_listiter st.1 hQ') ?_ (next_is_new F) (fun i h st b hb => ?_)
    ⟨⟨_, Heap.get?_push_size _ rfl, rfl, rfl⟩, hl.push _⟩ (F.push _) (fun p hp => ⟨Heap.get?_push_of_some _ (N p hp).1, (N p hp).2⟩) (fun p hp hm => ?_) J j0 (fun i v m₁ nx h tk own _ hP hJ hs _ F₁ N₁ => turn i v m₁ nx h tk own hP hJ hs F₁ N₁) done
  · intro hm
    rcases List.mem_cons.mp hm with e | hm
    · exact absurd F.ns.lt (e ▸ Nat.lt_irrefl _)
    · exact hlL (List.mem_singleton.mp hm).symm
  · rcases List.mem_cons.mp hb with rfl | hb
    · obtain ⟨o, e, _⟩ := st.1; exact ⟨o, e⟩
    · rw [List.mem_singleton.mp hb]; obtain ⟨o, e, _⟩ := st.2; exact ⟨o, e⟩
  · rcases List.mem_cons.mp hm with e | hm
    · exact absurd (Heap.lt_size (N p hp).1) (e ▸ Nat.lt_irrefl _)
    · exact hof p hp (List.mem_singleton.mp hm)
theorem iter_tuple {l : Addr} {items : Array Value} {m : Str → Option Value} {news : List (Addr × Obj)} (hh : A.handled = none) (F : Fr h₀ env.locals s.heap m) (N : News h₀ env.locals s.heap news) (hl : s.heap.IsTuple l items) (hlL : l ≠ env.locals) (hof : ∀ p ∈ news, p.1 ≠ l)
    (J : Nat → (Str → Option Value) → List (Addr × Obj) → Prop) (j0 : J 0 m news)
    (turn : ∀ i v m₁ nx h tk own, items[i]? = some v → J i m₁ nx → (∀ p ∈ nx, ∀ q ∈ own, p.1 ≠ q.1) → Fr h₀ env.locals h m₁ → News h₀ env.locals h (nx ++ own) →
      wpAny (model prog w) A (assign target env v) (fun _ s₃ => wpAny (model prog w) A (execs body env) (LpPost h₀ env.locals (J (i + 1)) own { s with heap := h, toks := tk } Q) E s₃) E { s with heap := h, toks := tk })
    (done : ∀ m₁ nx h tk, J items.size m₁ nx → Fr h₀ env.locals h m₁ → News h₀ env.locals h nx → Q .next { s with heap := h, toks := tk }) :
    wpAny (model prog w) A (pyIter (.ref l)) (fun it s₂ => TurnsAt prog w A h₀ env target body Q E it s₂) E s := by
  have hlt : l < s.heap.objs.size := by obtain ⟨_, e, _⟩ := hl; exact Heap.lt_size e
  refine wpAny_pyIter_tuple hl ?_
  refine turnsAt_S (s := { s with heap := s.heap.push _ }) (Walks.tuple hh s.heap.objs.size l (Nat.ne_of_lt hlt) items) (fun i v s' Q' E' st hQ' => letGo_tupleiter st.1 hQ') ?_ (next_is_new F) (fun i h st b hb => ?_)
    ⟨⟨_, Heap.get?_push_size _ rfl, rfl, rfl⟩, hl.push _⟩ (F.push _) (fun p hp => ⟨Heap.get?_push_of_some _ (N p hp).1, (N p hp).2⟩) (fun p hp hm => ?_) J j0 (fun i v m₁ nx h tk own _ hP hJ hs _ F₁ N₁ => turn i v m₁ nx h tk own hP hJ hs F₁ N₁) done
  · intro hm
    rcases List.mem_cons.mp hm with e | hm
    · exact absurd F.ns.lt (e ▸ Nat.lt_irrefl _)
    · exact hlL (List.mem_singleton.mp hm).symm
  · rcases List.mem_cons.mp hb with rfl | hb
    · obtain ⟨o, e, _⟩ := st.1; exact ⟨o, e⟩
    · rw [List.mem_singleton.mp hb]; obtain ⟨o, e, _⟩ := st.2; exact ⟨o, e⟩
  · rcases List.mem_cons.mp hm with e | hm
    · exact absurd (Heap.lt_size (N p hp).1) (e ▸ Nat.lt_irrefl _)
    · exact hof p hp (List.mem_singleton.mp hm)
end
section
variable {prog : Program} {w : World} {A : Around} {E : Value → Shared → Prop} {s : Shared} {env : Env} {h₀ : Heap} {target : Expr} {body : List Stmt} {Q : Flow → Shared → Prop}

theorem ints_split {vs : List Value} {ns : List Int} (hi : IntsAre vs ns) {i : Nat} {v : Value} (e : vs.toArray[i]? = some v) : ∃ n t, v = .int n t ∧ ns = ns.take i ++ n :: ns.drop (i + 1) ∧ ns.take (i + 1) = ns.take i ++ [n] := by
  have e' : vs[i]? = some v := by rw [← List.getElem?_toArray]; exact e
  have hlt : i < ns.length := by rw [← hi.length]; exact (List.getElem?_eq_some_iff.mp e').1
  have hg : ns[i]? = some ns[i] := List.getElem?_eq_getElem hlt
  obtain ⟨t, ht⟩ := hi.get i ns[i] hg
  rw [e'] at ht
  have hs : ns.take (i + 1) = ns.take i ++ [ns[i]] := by rw [List.take_add_one, hg]; rfl
  refine ⟨ns[i], t, Option.some.inj ht, ?_, hs⟩
  have := List.take_append_drop (i + 1) ns
  rw [hs, List.append_assoc] at this
  exact this.symm

/-- what a turn of a search leaves: its word, the frame but for the loop's own name, the ledger -/
noncomputable def SrEnd (h₀ : Heap) (L : Addr) (x : Str) (m₀ : Str → Option Value) (news own : List (Addr × Obj)) (P : Prop) (s₁ s₂ : Shared) : Prop :=
  ∃ h' tk m', s₂ = { s₁ with heap := h', toks := tk } ∧ Fr h₀ L h' m' ∧ (∀ z, z ≠ x → m' z = m₀ z) ∧ News h₀ L h' (news ++ own) ∧ P
noncomputable def SrPost (h₀ : Heap) (L : Addr) (x : Str) (m₀ : Str → Option Value) (news own : List (Addr × Obj)) (P : Prop) (s₁ : Shared) (Q : Flow → Shared → Prop) (f : Flow) (s₂ : Shared) : Prop :=
  match f with
  | .ret v => Q (.ret v) s₂
  | .brk => Q .next s₂
  | _ => SrEnd h₀ L x m₀ news own P s₁ s₂
theorem SrEnd.intro {L : Addr} {x : Str} {m₀ m' : Str → Option Value} {news own all : List (Addr × Obj)} {P : Prop} {s₁ : Shared} {h' : Heap} {tk : Nat} (F : Fr h₀ L h' m') (N : News h₀ L h' all) (hm : ∀ z, z ≠ x → m' z = m₀ z) (hs : ∀ p ∈ news ++ own, p ∈ all) (p : P) :
    SrEnd h₀ L x m₀ news own P s₁ { s₁ with heap := h', toks := tk } := ⟨h', tk, m', rfl, F, hm, fun p hp => N p (hs p hp), p⟩

theorem search_ints {l : Addr} {vs : List Value} {ns : List Int} {c : Nat} {m₀ : Str → Option Value} {news : List (Addr × Obj)} (x : Str) (P : Int → Prop) (hh : A.handled = none) (F : Fr h₀ env.locals s.heap m₀) (N : News h₀ env.locals s.heap ((l, listOf vs.toArray c) :: news))
    (hof : ∀ p ∈ news, p.1 ≠ l) (hi : IntsAre vs ns)
    (turn : ∀ pre n post t (u : Option Value) h tk own, ns = pre ++ n :: post → (∀ v ∈ pre, P v) → (∀ p ∈ news, ∀ q ∈ own, p.1 ≠ q.1) → Fr h₀ env.locals h (fun z => if z = x then u else m₀ z) → News h₀ env.locals h (news ++ own) →
      wpAny (model prog w) A (assign target env (.int n t)) (fun _ s₃ => wpAny (model prog w) A (execs body env) (SrPost h₀ env.locals x m₀ news own (P n) { s with heap := h, toks := tk } Q) E s₃) E { s with heap := h, toks := tk })
    (done : ∀ (u : Option Value) h tk, (∀ v ∈ ns, P v) → Fr h₀ env.locals h (fun z => if z = x then u else m₀ z) → News h₀ env.locals h news → Q .next { s with heap := h, toks := tk }) :
    wpAny (model prog w) A (pyIter (.ref l)) (fun it s₂ => TurnsAt prog w A h₀ env target body Q E it s₂) E s := by
  have z := N _ (.head _)
  have frame : ∀ {m' : Str → Option Value}, (∀ y, y ≠ x → m' y = m₀ y) → (fun y => if y = x then m' x else m₀ y) = m' := fun h => by
    funext y
    by_cases e : y = x
    · subst e; simp
    · simp only [if_neg e]; exact (h y e).symm
  refine iter_list hh F (fun p hp => N p (.tail _ hp)) ⟨_, z.1, rfl, c, rfl⟩ z.2.1 hof (fun i m nx => nx = news ∧ (∀ y, y ≠ x → m y = m₀ y) ∧ ∀ v ∈ ns.take i, P v) ⟨rfl, fun _ _ => rfl, by simp⟩ ?_ ?_
  · rintro i v m₁ nx h tk own he ⟨rfl, hm, hP⟩ hs F₁ N₁
    obtain ⟨n, t, rfl, e1, e2⟩ := ints_split hi he
    rw [← frame hm] at F₁
    refine wpAny_mono (turn _ n _ t _ h tk own e1 hP hs F₁ N₁) (fun _ s₃ h₃ => wpAny_mono h₃ (fun f s₄ h₄ => ?_) fun _ _ e => e) fun _ _ e => e
    have fin : SrEnd h₀ env.locals x m₀ nx own (P n) { s with heap := h, toks := tk } s₄ → LpEnd h₀ env.locals (fun m nx' => nx' = nx ∧ (∀ y, y ≠ x → m y = m₀ y) ∧ ∀ v ∈ ns.take (i + 1), P v) own { s with heap := h, toks := tk } s₄ := by
      rintro ⟨h', tk', m', e, F', hm', N', hp⟩
      refine ⟨h', tk', m', nx, e, F', N', hs, rfl, hm', fun v hv => ?_⟩
      rw [e2] at hv
      rcases List.mem_append.mp hv with hv | hv
      · exact hP v hv
      · rw [List.mem_singleton.mp hv]; exact hp
    cases f with
    | ret v => exact h₄
    | brk => exact h₄
    | next => exact fin h₄
    | cont => exact fin h₄
  · rintro m₁ nx h tk ⟨rfl, hm, hP⟩ F₁ N₁
    rw [← frame hm] at F₁
    exact done _ h tk (by have e : vs.toArray.size = ns.length := by simp [hi.length]
                          rw [e, List.take_length] at hP; exact hP) F₁ N₁
end
/-- a structure: the closers of k_steps must not see through it -/
structure Stop (p : Prop) : Prop where
  go : p
theorem stop_at {p : Prop} (h : Stop p) : p := h.go
theorem stop_off {p : Prop} (h : p) : Stop p := ⟨h⟩
section
variable {prog : Program} {w : World} {A : Around} {E : Value → Shared → Prop} {s : Shared} {h₀ : Heap} {L : Addr} {m : Str → Option Value} {news : List (Addr × Obj)}
theorem int_join {e : Expr} {env : Env} {Q : Value → Shared → Prop} {n : Int} (_F : Fr h₀ L s.heap m) (_N : News h₀ L s.heap news)
    (h : ∀ Q' : Value → Shared → Prop, (∀ h' t tk, Fr h₀ L h' m → News h₀ L h' news → Q' (.int n t) { s with heap := h', toks := tk }) → wpAny (model prog w) A (eval e env) Q' E s)
    (k : ∀ h' t tk, Fr h₀ L h' m → News h₀ L h' news → Q (.int n t) { s with heap := h', toks := tk }) : wpAny (model prog w) A (eval e env) Q E s := h Q k
end
theorem words4 : True := by
  k_with "eval IfExp" => (k_extra "S ifexp")
  trivial
local macro_rules | `(tactic| walk_at "S for") => `(tactic| (k_here; (rename Fr _ _ _ _ => lF'); (with_unfolding_all refine' For_turns lF' ?_); k_whole))
theorem words5 : True := by
  k_with "exec For Name Call cons nil" => (walk_at "S for")
  k_with "pyIter ref" => (k_extra "S iter")
  k_with "S rows" => (first | with_reducible assumption | exact RowsAt.ofFr (by with_reducible assumption) (by with_reducible assumption) | exact RowsAt.ofNews (by with_reducible assumption) (by k_mem) (by with_reducible assumption))
  k_with "call builtin:sorted" => ((k_here; (with_reducible show wpAny _ _ (call (Value.builtin _) [Value.ref _]) _ _ _); k_dflt (refine' rows_sorted (by rfl) (by k_asm) (by k_asm) (by walk_at "S rows") (by k_asm) (by omega) ?_; k_whole); intro D' v' c' h' tk' ns' F' N' l1 i' p' o'; (try k_lt l1); (revert D' v' c' h' tk' ns' F' N' l1 i' p' o'; intro _ _ _ _ _ _ _ _ _ _ _ _); (try k_sweep)))
  k_with "SrPost" => ((dsimp only [SrPost]))
  k_with "SrEnd" => ((refine SrEnd.intro (by assumption) (by assumption) (by intro z h1; first | rfl | (simp [h1]; done) | (simp_all; done)) (by intro p hp; first | assumption | exact List.mem_of_mem_tail hp) ?_; first | assumption | omega))
  trivial
-- short ways: the library's line for these keys is found only behind a hundred that fall
theorem words6 : True := by
  k_with "subscriptTail Name Constant ref int" => ((k_here; k_dflt (refine item_tupleL (by first | assumption | exact Fr.tup (by assumption) (by assumption) | exact News.isTup (by assumption) (by k_mem)) (by decide) (by decide) (by first | rfl | decide) (by first | rfl | simp) ?_)))
  k_with "subscriptTail Attribute Name Name ref int" => ((walk_at "last subscriptTail"))
  k_with "eval Name" => ((k_here; k_dflt (refine' nameX_L (by k_asm) (by rfl) ?_ (by rfl) (by rfl); k_whole)))
  trivial
section
variable {w : World} {mean : ExcName → Option Value} {mg mb : Str → Option Value} {A₀ : Around} {base h₀ : Heap} {outer : List Env} {env : Env} {L : Addr} {m : Str → Option Value} {news : List (Addr × Obj)} {s : Shared}
  {dp un : Nat} {gd : Option (List Code)} {Q E : Value → Shared → Prop}

set_option maxHeartbeats 4000000 in
theorem least_spec (H : Here w mean mg mb A₀ base h₀ outer env L m news s.heap) (hd : dp + 20 < recursionLimit) (hu : un + 200 < cLine) {d : Addr} {r : RowsT} {low : Int} {t : Tok} (R : RowsAt w s.heap d r) (lo : (d == sysModules) = false) (hl : r.length < 64)
    (ret : ∀ h' tk' t', Fr h₀ L h' m → News h₀ L h' news → Q (.int (leastL (rkeys r) low) t') { s with heap := h', toks := tk' }) :
    wpAny (model PySem.Challenge.rw_og0083_01.row.prog w) (aro dp un gd (env :: outer)) (call (.ref 65) [.ref d, .int low t]) Q E s := by
  obtain ⟨g, C, st, B, X, T, fr, kp, ns⟩ := H.cut (dp := dp) (un := un) (gd := gd) (muts := []) (fun _ h => nomatch h)
  have Rg : RowsAt w g d r := by obtain ⟨o, e, q⟩ := R; exact ⟨o, C.rest _ _ e (by simp), q⟩
  have hN := H.N
  clear H R
  have ret' : ∀ h' tk' t' v, v = leastL (rkeys r) low → Fr h₀ L h' m → News h₀ L h' news → Q (.int v t') { s with heap := h', toks := tk' } := fun h' tk' t' v e => e ▸ ret h' tk' t'
  (revert T C; revert X; k_fill; intro X T C)
  refine wpAny_call ?_
  (repeat (rename Flagged _ => mk0; clear mk0))
  k_with "S iter" => ((rename Flagged 1 => mk1); ((refine' search_ints (Str.ofString "number") (fun v => ¬ low ≤ v) ?k1 ?k2 ?k3 ?k4 ?k5 ?k6 ?k7; (case k1 => rfl); (case k2 => k_asm); (case k3 => k_asm); (case k4 => exact List.forall_mem_nil _); (case k5 => k_asm); k_whole; (case' k6 => intro pre' n' post' t' u' h' tk' own' he' hp' hs' F' N'); (case' k7 => intro u' h' tk' hp' F' N'))))
  have mk1 : Flagged 1 := ⟨⟩
  walk_at "S enter"
  k_steps
  all_goals (try dsimp only)
  all_goals (refine ret' _ _ _ _ ?_ (fr _ (Fr.keep (by assumption))) fun p hp => kp _ p (Fr.keep (by assumption)) hp (by simp))
  · exact (leastL_none (by assumption) (by assumption)).symm
  · exact (leastL_found (by assumption) (by assumption) (by assumption) (by assumption) (by assumption)).symm
end
theorem words7 : True := by
  k_with "S room" => (((try simp only [depth_under_make, depth_under_kw, depth_in1, depth_deeper, depth_caller, units_in1, units_deeper, Around.mark_units, units_caller]); (try dsimp only [aro, Around.deeper, Around.in1, Around.mark]); omega))
  k_with "S len" => (first | assumption | omega)
  k_with "call ref" => ((k_here; (with_reducible show wpAny _ _ (call (Value.ref 65) [Value.ref _, Value.int _ _] []) _ _ _); (k_dflt (refine' least_spec ⟨(by k_asm), (by k_asm), (by k_asm), (by k_asm), (by k_asm), (by rfl), (by rfl)⟩ (by walk_at "S room") (by walk_at "S room") (by walk_at "S rows") (by k_asm) (by walk_at "S len") ?_; k_whole)); (intro _ _ _ _ _); (try k_sweep)))
  k_with "S has" => (first | assumption | exact leastL_has (by assumption))
  k_with "subscriptTail" => ((k_here; (with_reducible show wpAny _ _ (subscriptTail _ _ (Value.ref _) (Value.int _ _)) _ _ _); (k_dflt (refine' rows_item (by walk_at "S rows") (by walk_at "S has") ?_; k_whole)); (intro _)))
  k_with "subscriptTail Name Name ref int" => ((k_here; (with_reducible show wpAny _ _ (subscriptTail _ _ (Value.ref _) (Value.int _ _)) _ _ _); (k_dflt (refine' rows_item (by walk_at "S rows") (by walk_at "S has") ?_; k_whole)); (intro _)))
  trivial
noncomputable def isTheStr (x : Str) : Value → Bool
  | .str b _ => b == x
  | _ => false
noncomputable def allStr : List Value → Bool
  | [] => true
  | .str _ _ :: r => allStr r
  | _ => false
theorem allStr_at : ∀ {l : List Value}, allStr l = true → ∀ y ∈ l, ∃ b t, y = .str b t
  | .str b t :: r, h, y, hy => by
    rcases List.mem_cons.mp hy with rfl | hy
    · exact ⟨b, t, rfl⟩
    · exact allStr_at (l := r) h y hy
section
variable {prog : Program} {w : World} {A : Around} {E : Value → Shared → Prop} {s : Shared} {a : Addr} {items : Array Value} {x : Str} {t : Tok} {Q : Value → Shared → Prop}
theorem eqAt_strs {A : Around} (ha : allStr items.toList = true) : ∀ y, y ∈ items → SeqAt.EqAt A.in1 s y (.str x t) (isTheStr x y) := fun y hy => by
  obtain ⟨b, u, rfl⟩ := allStr_at ha y (by simpa using hy)
  exact SeqAt.EqAt.str_str b u x t
theorem in_strs (hl : s.heap.IsTuple a items) (ha : allStr items.toList = true) (b : Bool) (hb : items.toList.any (isTheStr x) = b) (h : Q (.bool b) s) : wpAny (model prog w) A (compareOp .In (.str x t) (.ref a)) Q E s :=
  SeqAt.in_tupleAt (isTheStr x) hl (eqAt_strs ha) (by rw [← hb] at h; simpa using h)
theorem notIn_strs (hl : s.heap.IsTuple a items) (ha : allStr items.toList = true) (b : Bool) (hb : items.toList.any (isTheStr x) = b) (h : Q (.bool (!b)) s) : wpAny (model prog w) A (compareOp .NotIn (.str x t) (.ref a)) Q E s :=
  SeqAt.notIn_tupleAt (isTheStr x) hl (eqAt_strs ha) (by rw [← hb] at h; simpa using h)
theorem tuple_K {K : Frag} {h₀ h : Heap} {L : Addr} {m : Str → Option Value} {items : List Value} {n : Nat} {d : Option Addr} {sl : Array (Option Value)} (X : K.In h₀) (F : Fr h₀ L h m) (ho : K.lookup a = some ⟨.type "tuple", d, .seq items.toArray n, sl⟩) : h.IsTuple a items.toArray :=
  ⟨_, F.keep _ _ (X _ _ ho), rfl, n, rfl⟩
theorem tuple_N {h₀ h : Heap} {L : Addr} {news : List (Addr × Obj)} {items : List Value} {n : Nat} {d : Option Addr} {sl : Array (Option Value)} (N : News h₀ L h news) (hm : (a, (⟨.type "tuple", d, .seq items.toArray n, sl⟩ : Obj)) ∈ news) : h.IsTuple a items.toArray :=
  ⟨_, (N _ hm).1, rfl, n, rfl⟩
theorem tuple_B {h₀ h : Heap} {L : Addr} {m : Str → Option Value} {its : Array Value} (F : Fr h₀ L h m) (x : h₀.IsTuple a its) : h.IsTuple a its := x.at fun o e => F.keep _ o e
end
theorem words8 : True := by
  k_with "S tuple" => (first | (refine' tuple_N (by k_asm) (by k_mem)) | (refine' tuple_K (by k_asm) (by k_asm) (by k_is)) | exact tuple_B (by k_asm) (by k_asm) | k_asm)
  trivial
theorem mode_reads {m : Mode} {b : Bool} {t u : Tok} (h : m.reads = b) : [Value.str (Str.ofString "input") t, Value.str (Str.ofString "i-o") u].any (isTheStr m.s) = b := by subst h; cases m <;> (simp only [List.any_cons, isTheStr, List.any_nil, Mode.s, Mode.reads]; decide)
theorem words9 : True := by
  k_with "S any" => (first | decide | exact mode_reads (by assumption) | rfl)
  k_with "compareOp NotIn str ref" => ((k_here; k_dflt first | (refine' notIn_strs (by walk_at "S tuple") (by rfl) true (by walk_at "S any") ?_; k_whole) | (refine' notIn_strs (by walk_at "S tuple") (by rfl) false (by walk_at "S any") ?_; k_whole)))
  k_with "compareOp In str ref" => ((k_here; k_dflt first | (refine' in_strs (by walk_at "S tuple") (by rfl) true (by walk_at "S any") ?_; k_whole) | (refine' in_strs (by walk_at "S tuple") (by rfl) false (by walk_at "S any") ?_; k_whole)))
  trivial
section
variable {mode : Mode} {most : Int} {rows : RowsT} {place last number low : Int} {beh val : Bool}
theorem low_t {st : FSt} (h : st.beh = true) : lowOf st = st.place + 1 := by unfold lowOf; rw [if_pos h]
theorem low_f {st : FSt} (h : st.beh = false) : lowOf st = st.place := by unfold lowOf; rw [if_neg (by rw [h]; decide)]
theorem rn_47 {st : FSt} (h : mode.reads = false) : fReadNext mode most st = ((s47, #[]), { st with last := 0 }) := by unfold fReadNext; rw [if_pos h]
theorem rn_46 {st : FSt} (h : mode.reads = true) (h1 : st.val = false) : fReadNext mode most st = ((s46, #[]), { st with last := 0 }) := by
  unfold fReadNext; rw [if_neg (by rw [h]; decide), if_pos h1]
theorem rn_10 {st : FSt} (h : mode.reads = true) (h1 : st.val = true) (hl : lowOf st = low) (h2 : leastL (rkeys st.rows) low = 0) : fReadNext mode most st = ((s10, #[]), { st with last := 0, val := false }) := by
  subst hl; unfold fReadNext; rw [if_neg (by rw [h]; decide), if_neg (by rw [h1]; decide), if_pos h2]
theorem rn_14 {st : FSt} (h : mode.reads = true) (h1 : st.val = true) (hl : lowOf st = low) (h2 : leastL (rkeys st.rows) low ≠ 0) (h3 : 0 < most) (h4 : most < leastL (rkeys st.rows) low) : fReadNext mode most st = ((s14, #[]), { st with last := 0, val := false }) := by
  subst hl; unfold fReadNext; rw [if_neg (by rw [h]; decide), if_neg (by rw [h1]; decide), if_neg h2, if_pos ⟨h3, h4⟩]
theorem rn_00 {st : FSt} (h : mode.reads = true) (h1 : st.val = true) (hl : lowOf st = low) (h2 : leastL (rkeys st.rows) low ≠ 0) (h3 : ¬ (0 < most ∧ most < leastL (rkeys st.rows) low)) :
    fReadNext mode most st = ((s00, rget st.rows (leastL (rkeys st.rows) low)), fFound st (leastL (rkeys st.rows) low)) := by
  subst hl; unfold fReadNext; rw [if_neg (by rw [h]; decide), if_neg (by rw [h1]; decide), if_neg h2, if_neg h3]
end
section

noncomputable abbrev tupO (vs : Array Value) : Obj := { cls := .type "tuple", data := .seq vs }
noncomputable def seqA : Str := Str.ofString "sequential"

set_option maxHeartbeats 8000000 in
noncomputable def readNext_spec_a_pre : (Pa : (World) → (ExcName → Option Value) → (Str → Option Value) → (Str → Option Value) → (Heap) → (Heap) → (List Env) → (Env) → (Addr) → (Str → Option Value) → (List (Addr × Obj)) → (Shared) → (Nat) → (Nat) → (Option (List Code)) → (Value → Shared → Prop) → (Value → Shared → Prop) → (Addr) → (Addr) → (Addr) → (Mode) → (Int) → (FSt) → (Obj) → (Obj → List (Addr × Obj)) → (Obj) → (Heap) → (Nat → Int) → (Nat → Tok) → (Addr) → (Heap) → (Nat) → Prop) ×' ((∀ w mean mg mb base h₀ outer env L m news s dp un gd Q E x dx dc mode most st od u oc g hs ts L9 h9 tk9, Pa w mean mg mb base h₀ outer env L m news s dp un gd Q E x dx dc mode most st od u oc g hs ts L9 h9 tk9) → (∀ (w : World) (mean : ExcName → Option Value) (mg mb : Str → Option Value) (A₀ : Around) (base h₀ : Heap) (outer : List Env) (env : Env) (L : Addr) (m : Str → Option Value) (news : List (Addr × Obj)) (s : Shared) (dp un : Nat) (gd : Option (List Code)) (Q E : Value → Shared → Prop) (H : Here w mean mg mb A₀ base h₀ outer env L m news s.heap) (hd : dp + 40 < recursionLimit) (hu : un + 400 < cLine) (x dx dc : Addr) (mode : Mode) (most : Int) (st : FSt) (od : Obj) (u : Obj → List (Addr × Obj)) (oc : Obj) (hod : FileObj dc mode.s (Str.ofString "sequential") most st od) (hx : (x, instObj 168 dx) ∈ news) (U : UpdF dx od news u) (hdx : (dx, od) ∈ news) (hdc : (dc, oc) ∈ news) (R : RowsO w oc st.rows) (hcd : @Ne Nat dc dx) (lo : (dc == sysModules) = false) (hl : st.rows.length < 64) (ret : ∀ a h' tk' od' t1 t2, Fr h₀ L h' m → News h₀ L h' ((a, tupO #[.str (fReadNext mode most st).1.1 t1, .bytes (fReadNext mode most st).1.2 t2]) :: u od') → (∀ p ∈ news, p.1 ≠ a) → FileObj dc mode.s (Str.ofString "sequential") most (fReadNext mode most st).2 od' → Q (.ref a) { s with heap := h', toks := tk' }), wpAny (model PySem.Challenge.rw_og0083_01.row.prog w) (aro dp un gd (env :: outer)) (call (.ref 115) [.ref x]) Q E s)) := by
  refine' ⟨_, fun hPa => ?_⟩
  rotate_left 1
  · skip
    intro w mean mg mb A₀ base h₀ outer env L m news s dp un gd Q E H hd hu x dx dc mode most st od u oc hod hx U hdx hdc R hcd lo hl ret
    refine file_cut (dp := dp) (un := un) (gd := gd) H hod hx hdx hdc R (fun g hs ts C st' B X T fr kp ns hN hxd hxc => ?_)
    clear H
    (revert C T; revert X; k_fill; intro X C T)
    refine wpAny_call ?_
    walk_at "S enter"
    rename_i L9 h9 tk9 F9 N9 l9
    k_sweep
    revert l9; revert N9; revert F9; revert T; revert C; revert X; revert hxc; revert hxd; revert hN; revert ns; revert kp; revert fr; revert B; revert st'; revert ret; revert hl; revert lo; revert hcd; revert R; revert hdc; revert hdx; revert U; revert hx; revert hod; revert hu; revert hd
    exact hPa w mean mg mb base h₀ outer env L m news s dp un gd Q E x dx dc mode most st od u oc g hs ts L9 h9 tk9
noncomputable def readNext_spec_a_v : (World) × (ExcName → Option Value) × (Str → Option Value) × (Str → Option Value) × (Heap) × (Heap) × (List Env) × (Env) × (Addr) × (Str → Option Value) × (List (Addr × Obj)) × (Shared) × (Nat) × (Nat) × (Option (List Code)) × (Value → Shared → Prop) × (Value → Shared → Prop) × (Addr) × (Addr) × (Addr) × (Mode) × (Int) × (FSt) × (Obj) × (Obj → List (Addr × Obj)) × (Obj) × (Heap) × (Nat → Int) × (Nat → Tok) × (Addr) × (Heap) × (Nat) := @Classical.epsilon _ ⟨(w0, (fun _ => none), (fun _ => none), (fun _ => none), {}, {}, [], default, 0, (fun _ => none), [], {}, 0, 0, none, (fun _ => (fun _ => True)), (fun _ => (fun _ => True)), 0, 0, 0, .inp, 0, ⟨[], 0, true, true, 0, 0⟩, default, (fun _ => []), default, {}, (fun _ => 0), (fun _ => 0), 0, {}, 0)⟩ fun v => ¬ readNext_spec_a_pre.1 v.1 v.2.1 v.2.2.1 v.2.2.2.1 v.2.2.2.2.1 v.2.2.2.2.2.1 v.2.2.2.2.2.2.1 v.2.2.2.2.2.2.2.1 v.2.2.2.2.2.2.2.2.1 v.2.2.2.2.2.2.2.2.2.1 v.2.2.2.2.2.2.2.2.2.2.1 v.2.2.2.2.2.2.2.2.2.2.2.1 v.2.2.2.2.2.2.2.2.2.2.2.2.1 v.2.2.2.2.2.2.2.2.2.2.2.2.2.1 v.2.2.2.2.2.2.2.2.2.2.2.2.2.2.1 v.2.2.2.2.2.2.2.2.2.2.2.2.2.2.2.1 v.2.2.2.2.2.2.2.2.2.2.2.2.2.2.2.2.1 v.2.2.2.2.2.2.2.2.2.2.2.2.2.2.2.2.2.1 v.2.2.2.2.2.2.2.2.2.2.2.2.2.2.2.2.2.2.1 v.2.2.2.2.2.2.2.2.2.2.2.2.2.2.2.2.2.2.2.1 v.2.2.2.2.2.2.2.2.2.2.2.2.2.2.2.2.2.2.2.2.1 v.2.2.2.2.2.2.2.2.2.2.2.2.2.2.2.2.2.2.2.2.2.1 v.2.2.2.2.2.2.2.2.2.2.2.2.2.2.2.2.2.2.2.2.2.2.1 v.2.2.2.2.2.2.2.2.2.2.2.2.2.2.2.2.2.2.2.2.2.2.2.1 v.2.2.2.2.2.2.2.2.2.2.2.2.2.2.2.2.2.2.2.2.2.2.2.2.1 v.2.2.2.2.2.2.2.2.2.2.2.2.2.2.2.2.2.2.2.2.2.2.2.2.2.1 v.2.2.2.2.2.2.2.2.2.2.2.2.2.2.2.2.2.2.2.2.2.2.2.2.2.2.1 v.2.2.2.2.2.2.2.2.2.2.2.2.2.2.2.2.2.2.2.2.2.2.2.2.2.2.2.1 v.2.2.2.2.2.2.2.2.2.2.2.2.2.2.2.2.2.2.2.2.2.2.2.2.2.2.2.2.1 v.2.2.2.2.2.2.2.2.2.2.2.2.2.2.2.2.2.2.2.2.2.2.2.2.2.2.2.2.2.1 v.2.2.2.2.2.2.2.2.2.2.2.2.2.2.2.2.2.2.2.2.2.2.2.2.2.2.2.2.2.2.1 v.2.2.2.2.2.2.2.2.2.2.2.2.2.2.2.2.2.2.2.2.2.2.2.2.2.2.2.2.2.2.2
namespace readNext_spec_a
noncomputable def w : World := readNext_spec_a_v.1
noncomputable def mean : ExcName → Option Value := readNext_spec_a_v.2.1
noncomputable def mg : Str → Option Value := readNext_spec_a_v.2.2.1
noncomputable def mb : Str → Option Value := readNext_spec_a_v.2.2.2.1
noncomputable def base : Heap := readNext_spec_a_v.2.2.2.2.1
noncomputable def h₀ : Heap := readNext_spec_a_v.2.2.2.2.2.1
noncomputable def outer : List Env := readNext_spec_a_v.2.2.2.2.2.2.1
noncomputable def env : Env := readNext_spec_a_v.2.2.2.2.2.2.2.1
noncomputable def L : Addr := readNext_spec_a_v.2.2.2.2.2.2.2.2.1
noncomputable def m : Str → Option Value := readNext_spec_a_v.2.2.2.2.2.2.2.2.2.1
noncomputable def news : List (Addr × Obj) := readNext_spec_a_v.2.2.2.2.2.2.2.2.2.2.1
noncomputable def s : Shared := readNext_spec_a_v.2.2.2.2.2.2.2.2.2.2.2.1
noncomputable def dp : Nat := readNext_spec_a_v.2.2.2.2.2.2.2.2.2.2.2.2.1
noncomputable def un : Nat := readNext_spec_a_v.2.2.2.2.2.2.2.2.2.2.2.2.2.1
noncomputable def gd : Option (List Code) := readNext_spec_a_v.2.2.2.2.2.2.2.2.2.2.2.2.2.2.1
noncomputable def Q : Value → Shared → Prop := readNext_spec_a_v.2.2.2.2.2.2.2.2.2.2.2.2.2.2.2.1
noncomputable def E : Value → Shared → Prop := readNext_spec_a_v.2.2.2.2.2.2.2.2.2.2.2.2.2.2.2.2.1
noncomputable def x : Addr := readNext_spec_a_v.2.2.2.2.2.2.2.2.2.2.2.2.2.2.2.2.2.1
noncomputable def dx : Addr := readNext_spec_a_v.2.2.2.2.2.2.2.2.2.2.2.2.2.2.2.2.2.2.1
noncomputable def dc : Addr := readNext_spec_a_v.2.2.2.2.2.2.2.2.2.2.2.2.2.2.2.2.2.2.2.1
noncomputable def mode : Mode := readNext_spec_a_v.2.2.2.2.2.2.2.2.2.2.2.2.2.2.2.2.2.2.2.2.1
noncomputable def most : Int := readNext_spec_a_v.2.2.2.2.2.2.2.2.2.2.2.2.2.2.2.2.2.2.2.2.2.1
noncomputable def st : FSt := readNext_spec_a_v.2.2.2.2.2.2.2.2.2.2.2.2.2.2.2.2.2.2.2.2.2.2.1
noncomputable def od : Obj := readNext_spec_a_v.2.2.2.2.2.2.2.2.2.2.2.2.2.2.2.2.2.2.2.2.2.2.2.1
noncomputable def u : Obj → List (Addr × Obj) := readNext_spec_a_v.2.2.2.2.2.2.2.2.2.2.2.2.2.2.2.2.2.2.2.2.2.2.2.2.1
noncomputable def oc : Obj := readNext_spec_a_v.2.2.2.2.2.2.2.2.2.2.2.2.2.2.2.2.2.2.2.2.2.2.2.2.2.1
noncomputable def g : Heap := readNext_spec_a_v.2.2.2.2.2.2.2.2.2.2.2.2.2.2.2.2.2.2.2.2.2.2.2.2.2.2.1
noncomputable def hs : Nat → Int := readNext_spec_a_v.2.2.2.2.2.2.2.2.2.2.2.2.2.2.2.2.2.2.2.2.2.2.2.2.2.2.2.1
noncomputable def ts : Nat → Tok := readNext_spec_a_v.2.2.2.2.2.2.2.2.2.2.2.2.2.2.2.2.2.2.2.2.2.2.2.2.2.2.2.2.1
noncomputable def L9 : Addr := readNext_spec_a_v.2.2.2.2.2.2.2.2.2.2.2.2.2.2.2.2.2.2.2.2.2.2.2.2.2.2.2.2.2.1
noncomputable def h9 : Heap := readNext_spec_a_v.2.2.2.2.2.2.2.2.2.2.2.2.2.2.2.2.2.2.2.2.2.2.2.2.2.2.2.2.2.2.1
noncomputable def tk9 : Nat := readNext_spec_a_v.2.2.2.2.2.2.2.2.2.2.2.2.2.2.2.2.2.2.2.2.2.2.2.2.2.2.2.2.2.2.2
set_option maxHeartbeats 8000000 in
theorem walk : readNext_spec_a_pre.1 w mean mg mb base h₀ outer env L m news s dp un gd Q E x dx dc mode most st od u oc g hs ts L9 h9 tk9 := by
  delta readNext_spec_a_pre
  dsimp only
  intro hd hu hod hx U hdx hdc R hcd lo hl ret st' B fr kp ns hN hxd hxc X C T F9 N9 l9
  dsimp only [fileD] at N9
  have fin : ∀ a h' tk' L' m' led od' t1 t2 rs rb st', Fr g L' h' m' → News g L' h' led → (a, tupO #[.str rs t1, .bytes rb t2]) ∈ led → (dx, od') ∈ led → (dc, oc) ∈ led → (x, instObj 168 dx) ∈ led →
      FileObj dc mode.s (Str.ofString "sequential") most st' od' → fReadNext mode most st = ((rs, rb), st') → Q (.ref a) { s with heap := h', toks := tk' } := by
    intro a h' tk' L' m' led od' t1 t2 rs rb st' F' N' m1 m2 m3 m4 hf he
    have af : Aft g h' [(a, tupO #[.str rs t1, .bytes rb t2]), (x, instObj 168 dx), (dx, od'), (dc, oc)] := (aft_of F' N').sub (by simp [m1, m2, m3, m4])
    have nn := ns _ _ af
    have hne : ∀ p ∈ news, p.1 ≠ a := cut_ne C hN (N' _ m1).2.2 (by
      have e1 : @Ne Nat x a := twoP N' m4 m1 (by intro h; cases h)
      have e2 : @Ne Nat dx a := by cases hf; exact twoP N' m2 m1 (by show Value.type "dict" ≠ Value.type "tuple"; decide)
      have e3 : @Ne Nat dc a := twoP N' m3 m1 (by obtain ⟨_, ⟨_, _, ⟨hc, _⟩, _⟩, _⟩ := R; rw [hc]; show Value.type "dict" ≠ Value.type "tuple"; decide)
      simp only [List.forall_mem_cons, List.forall_mem_nil]; exact ⟨e1, e2, e3, by simp⟩)
    have nt := news_turn C hN U af nn (fun p hp hq => kp _ p F'.keep hp hq) (o' := od') (by simp) (by simp)
    have key := ret a h' tk' od' t1 t2 (fr _ F'.keep)
    rw [he] at key
    exact key (fun p hp => by rcases List.mem_cons.mp hp with rfl | hp; exact nn _ (.head _); exact nt p hp) hne hf
  cases hm : mode.reads
  · k_steps
    all_goals exact fin _ _ _ _ _ _ _ _ _ _ _ _ (by assumption) (by assumption) (by k_mem) (by k_mem) (by k_mem) (by k_mem) (FileObj.mk ..) (rn_47 (by assumption))
  · k_with "S ifexp" => ((rename Flagged 2 => mk2); ((refine stop_at ?_)))
    have mk2 : Flagged 2 := ⟨⟩
    k_steps
    (repeat (rename Flagged _ => mk0; clear mk0))
    all_goals first
      | exact fin _ _ _ _ _ _ _ _ _ _ _ _ (by assumption) (by assumption) (by k_mem) (by k_mem) (by k_mem) (by k_mem) (FileObj.mk ..) (rn_46 (by assumption) (by assumption))
      | refine stop_off (int_join (n := if st.beh = true then st.place + 1 else st.place) (by assumption) (by assumption) ?_ ?_)
    · intro Q' hQ'
      refine IfExp_ ?_
      k_steps
      · rw [if_pos (by assumption)] at hQ'
        exact hQ' _ _ _ (by assumption) (by assumption)
      · rw [if_neg (Bool.eq_false_iff.mp (by assumption))] at hQ'
        exact hQ' _ _ _ (by assumption) (by assumption)
    intro h3 t3 tk3 F3 N3
    k_steps
    all_goals first
      | exact fin _ _ _ _ _ _ _ _ _ _ _ _ (by assumption) (by assumption) (by k_mem) (by k_mem) (by k_mem) (by k_mem) (FileObj.mk ..) (rn_10 (by assumption) (by assumption) rfl (by assumption))
      | exact fin _ _ _ _ _ _ _ _ _ _ _ _ (by assumption) (by assumption) (by k_mem) (by k_mem) (by k_mem) (by k_mem) (FileObj.mk ..) (rn_14 (by assumption) (by assumption) rfl (by assumption) (by assumption) (by assumption))
      | exact fin _ _ _ _ _ _ _ _ _ _ _ _ (by assumption) (by assumption) (by k_mem) (by k_mem) (by k_mem) (by k_mem) (FileObj.mk ..) (rn_00 (by assumption) (by assumption) rfl (by assumption) (fun q => absurd q.1 (by assumption)))
      | exact fin _ _ _ _ _ _ _ _ _ _ _ _ (by assumption) (by assumption) (by k_mem) (by k_mem) (by k_mem) (by k_mem) (FileObj.mk ..) (rn_00 (by assumption) (by assumption) rfl (by assumption) (fun q => absurd q.2 (by assumption)))
end readNext_spec_a
theorem readNext_spec_a_all : ∀ (w' : World) (mean' : ExcName → Option Value) (mg' : Str → Option Value) (mb' : Str → Option Value) (base' : Heap) (h₀' : Heap) (outer' : List Env) (env' : Env) (L' : Addr) (m' : Str → Option Value) (news' : List (Addr × Obj)) (s' : Shared) (dp' : Nat) (un' : Nat) (gd' : Option (List Code)) (Q' : Value → Shared → Prop) (E' : Value → Shared → Prop) (x' : Addr) (dx' : Addr) (dc' : Addr) (mode' : Mode) (most' : Int) (st' : FSt) (od' : Obj) (u' : Obj → List (Addr × Obj)) (oc' : Obj) (g' : Heap) (hs' : Nat → Int) (ts' : Nat → Tok) (L9' : Addr) (h9' : Heap) (tk9' : Nat), readNext_spec_a_pre.1 w' mean' mg' mb' base' h₀' outer' env' L' m' news' s' dp' un' gd' Q' E' x' dx' dc' mode' most' st' od' u' oc' g' hs' ts' L9' h9' tk9' := by
  intro w' mean' mg' mb' base' h₀' outer' env' L' m' news' s' dp' un' gd' Q' E' x' dx' dc' mode' most' st' od' u' oc' g' hs' ts' L9' h9' tk9'
  have hw := readNext_spec_a.walk
  with_unfolding_all exact hk (α := (World) × (ExcName → Option Value) × (Str → Option Value) × (Str → Option Value) × (Heap) × (Heap) × (List Env) × (Env) × (Addr) × (Str → Option Value) × (List (Addr × Obj)) × (Shared) × (Nat) × (Nat) × (Option (List Code)) × (Value → Shared → Prop) × (Value → Shared → Prop) × (Addr) × (Addr) × (Addr) × (Mode) × (Int) × (FSt) × (Obj) × (Obj → List (Addr × Obj)) × (Obj) × (Heap) × (Nat → Int) × (Nat → Tok) × (Addr) × (Heap) × (Nat)) (p := fun v => readNext_spec_a_pre.1 v.1 v.2.1 v.2.2.1 v.2.2.2.1 v.2.2.2.2.1 v.2.2.2.2.2.1 v.2.2.2.2.2.2.1 v.2.2.2.2.2.2.2.1 v.2.2.2.2.2.2.2.2.1 v.2.2.2.2.2.2.2.2.2.1 v.2.2.2.2.2.2.2.2.2.2.1 v.2.2.2.2.2.2.2.2.2.2.2.1 v.2.2.2.2.2.2.2.2.2.2.2.2.1 v.2.2.2.2.2.2.2.2.2.2.2.2.2.1 v.2.2.2.2.2.2.2.2.2.2.2.2.2.2.1 v.2.2.2.2.2.2.2.2.2.2.2.2.2.2.2.1 v.2.2.2.2.2.2.2.2.2.2.2.2.2.2.2.2.1 v.2.2.2.2.2.2.2.2.2.2.2.2.2.2.2.2.2.1 v.2.2.2.2.2.2.2.2.2.2.2.2.2.2.2.2.2.2.1 v.2.2.2.2.2.2.2.2.2.2.2.2.2.2.2.2.2.2.2.1 v.2.2.2.2.2.2.2.2.2.2.2.2.2.2.2.2.2.2.2.2.1 v.2.2.2.2.2.2.2.2.2.2.2.2.2.2.2.2.2.2.2.2.2.1 v.2.2.2.2.2.2.2.2.2.2.2.2.2.2.2.2.2.2.2.2.2.2.1 v.2.2.2.2.2.2.2.2.2.2.2.2.2.2.2.2.2.2.2.2.2.2.2.1 v.2.2.2.2.2.2.2.2.2.2.2.2.2.2.2.2.2.2.2.2.2.2.2.2.1 v.2.2.2.2.2.2.2.2.2.2.2.2.2.2.2.2.2.2.2.2.2.2.2.2.2.1 v.2.2.2.2.2.2.2.2.2.2.2.2.2.2.2.2.2.2.2.2.2.2.2.2.2.2.1 v.2.2.2.2.2.2.2.2.2.2.2.2.2.2.2.2.2.2.2.2.2.2.2.2.2.2.2.1 v.2.2.2.2.2.2.2.2.2.2.2.2.2.2.2.2.2.2.2.2.2.2.2.2.2.2.2.2.1 v.2.2.2.2.2.2.2.2.2.2.2.2.2.2.2.2.2.2.2.2.2.2.2.2.2.2.2.2.2.1 v.2.2.2.2.2.2.2.2.2.2.2.2.2.2.2.2.2.2.2.2.2.2.2.2.2.2.2.2.2.2.1 v.2.2.2.2.2.2.2.2.2.2.2.2.2.2.2.2.2.2.2.2.2.2.2.2.2.2.2.2.2.2.2) hw (w', mean', mg', mb', base', h₀', outer', env', L', m', news', s', dp', un', gd', Q', E', x', dx', dc', mode', most', st', od', u', oc', g', hs', ts', L9', h9', tk9')
theorem readNext_spec {w : World} {mean : ExcName → Option Value} {mg mb : Str → Option Value} {A₀ : Around} {base h₀ : Heap} {outer : List Env} {env : Env} {L : Addr} {m : Str → Option Value} {news : List (Addr × Obj)} {s : Shared} {dp un : Nat} {gd : Option (List Code)} {Q E : Value → Shared → Prop} (H : Here w mean mg mb A₀ base h₀ outer env L m news s.heap) (hd : dp + 40 < recursionLimit) (hu : un + 400 < cLine) {x dx dc : Addr} {mode : Mode} {most : Int} {st : FSt} {od : Obj} {u : Obj → List (Addr × Obj)}
    {oc : Obj} (hod : FileObj dc mode.s (Str.ofString "sequential") most st od) (hx : (x, instObj 168 dx) ∈ news) (U : UpdF dx od news u) (hdx : (dx, od) ∈ news) (hdc : (dc, oc) ∈ news) (R : RowsO w oc st.rows) (hcd : @Ne Nat dc dx) (lo : (dc == sysModules) = false) (hl : st.rows.length < 64)
    (ret : ∀ a h' tk' od' t1 t2, Fr h₀ L h' m → News h₀ L h' ((a, tupO #[.str (fReadNext mode most st).1.1 t1, .bytes (fReadNext mode most st).1.2 t2]) :: u od') → (∀ p ∈ news, p.1 ≠ a) → FileObj dc mode.s (Str.ofString "sequential") most (fReadNext mode most st).2 od' → Q (.ref a) { s with heap := h', toks := tk' }) :
    wpAny (model PySem.Challenge.rw_og0083_01.row.prog w) (aro dp un gd (env :: outer)) (call (.ref 115) [.ref x]) Q E s := by
  exact readNext_spec_a_pre.2 readNext_spec_a_all w mean mg mb A₀ base h₀ outer env L m news s dp un gd Q E H hd hu x dx dc mode most st od u oc hod hx U hdx hdc R hcd lo hl ret
end
theorem op_starts {o : Op} {t1 t2 t3 : Tok} : [Value.str (Str.ofString "=") t1, Value.str (Str.ofString ">") t2, Value.str (Str.ofString ">=") t3].any (isTheStr o.s) = true := by
  cases o <;> (simp only [List.any_cons, isTheStr, List.any_nil, Op.s]; decide)
theorem words10 : True := by
  k_with "S any" => (exact op_starts)
  trivial
section
variable {mode : Mode} {most n k : Int} {op : Op} {st : FSt}
theorem fs_47 (h : mode.reads = false) : fStart mode op n st = (s47, { st with last := 0 }) := by unfold fStart; rw [if_pos h]
theorem fs_00 (h : mode.reads = true) (e : startNum st.rows op n = k) (h1 : 0 < k) : fStart mode op n st = (s00, { st with last := 0, val := decide (0 < k), place := k, beh := false }) := by
  subst e; unfold fStart; rw [if_neg (by rw [h]; decide), if_pos h1, decide_eq_true h1]
theorem fs_23 (h : mode.reads = true) (e : startNum st.rows op n = k) (h1 : ¬ 0 < k) : fStart mode op n st = (s23, { st with last := 0, val := decide (0 < k) }) := by
  subst e; unfold fStart; rw [if_neg (by rw [h]; decide), if_neg h1, decide_eq_false h1]
theorem sn_eq_t {r : RowsT} (h : rhas r n = true) : startNum r .eq n = n := by unfold startNum; rw [if_pos h]
theorem sn_eq_f {r : RowsT} (h : rhas r n = false) : startNum r .eq n = 0 := by unfold startNum; rw [if_neg (by rw [h]; decide)]
end
theorem words11 : True := by
  k_with "compareOp In int ref" => ((k_here; k_dflt (refine' rows_in (by walk_at "S rows") (by k_asm) ?_; k_whole)))
  k_with "compareOp NotIn int ref" => ((k_here; k_dflt (refine' rows_notin (by walk_at "S rows") (by k_asm) ?_; k_whole)))
  trivial
section

set_option maxHeartbeats 8000000 in
noncomputable def start_spec_a_pre : (Pa : (World) → (ExcName → Option Value) → (Str → Option Value) → (Str → Option Value) → (Heap) → (Heap) → (List Env) → (Env) → (Addr) → (Str → Option Value) → (List (Addr × Obj)) → (Shared) → (Nat) → (Nat) → (Option (List Code)) → (Value → Shared → Prop) → (Value → Shared → Prop) → (Addr) → (Addr) → (Addr) → (Mode) → (Int) → (Int) → (Tok) → (Tok) → (FSt) → (Obj) → (Obj → List (Addr × Obj)) → (Obj) → (Heap) → (Nat → Int) → (Nat → Tok) → (Addr) → (Heap) → (Nat) → Prop) ×' ((∀ w mean mg mb base h₀ outer env L m news s dp un gd Q E x dx dc mode most n to tn st od u oc g hs ts L9 h9 tk9, Pa w mean mg mb base h₀ outer env L m news s dp un gd Q E x dx dc mode most n to tn st od u oc g hs ts L9 h9 tk9) → (∀ (w : World) (mean : ExcName → Option Value) (mg mb : Str → Option Value) (A₀ : Around) (base h₀ : Heap) (outer : List Env) (env : Env) (L : Addr) (m : Str → Option Value) (news : List (Addr × Obj)) (s : Shared) (dp un : Nat) (gd : Option (List Code)) (Q E : Value → Shared → Prop) (H : Here w mean mg mb A₀ base h₀ outer env L m news s.heap) (hd : dp + 40 < recursionLimit) (hu : un + 400 < cLine) (x dx dc : Addr) (mode : Mode) (most n : Int) (op : Op) (to tn : Tok) (st : FSt) (od : Obj) (u : Obj → List (Addr × Obj)) (oc : Obj) (hod : FileObj dc mode.s (Str.ofString "sequential") most st od) (hx : (x, instObj 168 dx) ∈ news) (U : UpdF dx od news u) (hdx : (dx, od) ∈ news) (hdc : (dc, oc) ∈ news) (R : RowsO w oc st.rows) (hcd : @Ne Nat dc dx) (lo : (dc == sysModules) = false) (hl : st.rows.length < 64) (ret : ∀ h' tk' od' t1, Fr h₀ L h' m → News h₀ L h' (u od') → FileObj dc mode.s (Str.ofString "sequential") most (fStart mode op n st).2 od' → Q (.str (fStart mode op n st).1 t1) { s with heap := h', toks := tk' }), wpAny (model PySem.Challenge.rw_og0083_01.row.prog w) (aro dp un gd (env :: outer)) (call (.ref 129) [.ref x, .str op.s to, .int n tn]) Q E s)) := by
  refine' ⟨_, fun hPa => ?_⟩
  rotate_left 1
  · skip
    intro w mean mg mb A₀ base h₀ outer env L m news s dp un gd Q E H hd hu x dx dc mode most n op to tn st od u oc hod hx U hdx hdc R hcd lo hl ret
    refine file_cut (dp := dp) (un := un) (gd := gd) H hod hx hdx hdc R (fun g hs ts C st' B X T fr kp ns hN hxd hxc => ?_)
    clear H
    (revert C T; revert X; k_fill; intro X C T)
    refine wpAny_call ?_
    walk_at "S enter"
    rename_i L9 h9 tk9 F9 N9 l9
    k_sweep
    revert l9; revert N9; revert F9; revert T; revert C; revert X; revert hxc; revert hxd; revert hN; revert ns; revert kp; revert fr; revert B; revert st'; revert ret; revert hl; revert lo; revert hcd; revert R; revert hdc; revert hdx; revert U; revert hx; revert hod; revert op; revert hu; revert hd
    exact hPa w mean mg mb base h₀ outer env L m news s dp un gd Q E x dx dc mode most n to tn st od u oc g hs ts L9 h9 tk9
noncomputable def start_spec_a_v : (World) × (ExcName → Option Value) × (Str → Option Value) × (Str → Option Value) × (Heap) × (Heap) × (List Env) × (Env) × (Addr) × (Str → Option Value) × (List (Addr × Obj)) × (Shared) × (Nat) × (Nat) × (Option (List Code)) × (Value → Shared → Prop) × (Value → Shared → Prop) × (Addr) × (Addr) × (Addr) × (Mode) × (Int) × (Int) × (Tok) × (Tok) × (FSt) × (Obj) × (Obj → List (Addr × Obj)) × (Obj) × (Heap) × (Nat → Int) × (Nat → Tok) × (Addr) × (Heap) × (Nat) := @Classical.epsilon _ ⟨(w0, (fun _ => none), (fun _ => none), (fun _ => none), {}, {}, [], default, 0, (fun _ => none), [], {}, 0, 0, none, (fun _ => (fun _ => True)), (fun _ => (fun _ => True)), 0, 0, 0, .inp, 0, 0, 0, 0, ⟨[], 0, true, true, 0, 0⟩, default, (fun _ => []), default, {}, (fun _ => 0), (fun _ => 0), 0, {}, 0)⟩ fun v => ¬ start_spec_a_pre.1 v.1 v.2.1 v.2.2.1 v.2.2.2.1 v.2.2.2.2.1 v.2.2.2.2.2.1 v.2.2.2.2.2.2.1 v.2.2.2.2.2.2.2.1 v.2.2.2.2.2.2.2.2.1 v.2.2.2.2.2.2.2.2.2.1 v.2.2.2.2.2.2.2.2.2.2.1 v.2.2.2.2.2.2.2.2.2.2.2.1 v.2.2.2.2.2.2.2.2.2.2.2.2.1 v.2.2.2.2.2.2.2.2.2.2.2.2.2.1 v.2.2.2.2.2.2.2.2.2.2.2.2.2.2.1 v.2.2.2.2.2.2.2.2.2.2.2.2.2.2.2.1 v.2.2.2.2.2.2.2.2.2.2.2.2.2.2.2.2.1 v.2.2.2.2.2.2.2.2.2.2.2.2.2.2.2.2.2.1 v.2.2.2.2.2.2.2.2.2.2.2.2.2.2.2.2.2.2.1 v.2.2.2.2.2.2.2.2.2.2.2.2.2.2.2.2.2.2.2.1 v.2.2.2.2.2.2.2.2.2.2.2.2.2.2.2.2.2.2.2.2.1 v.2.2.2.2.2.2.2.2.2.2.2.2.2.2.2.2.2.2.2.2.2.1 v.2.2.2.2.2.2.2.2.2.2.2.2.2.2.2.2.2.2.2.2.2.2.1 v.2.2.2.2.2.2.2.2.2.2.2.2.2.2.2.2.2.2.2.2.2.2.2.1 v.2.2.2.2.2.2.2.2.2.2.2.2.2.2.2.2.2.2.2.2.2.2.2.2.1 v.2.2.2.2.2.2.2.2.2.2.2.2.2.2.2.2.2.2.2.2.2.2.2.2.2.1 v.2.2.2.2.2.2.2.2.2.2.2.2.2.2.2.2.2.2.2.2.2.2.2.2.2.2.1 v.2.2.2.2.2.2.2.2.2.2.2.2.2.2.2.2.2.2.2.2.2.2.2.2.2.2.2.1 v.2.2.2.2.2.2.2.2.2.2.2.2.2.2.2.2.2.2.2.2.2.2.2.2.2.2.2.2.1 v.2.2.2.2.2.2.2.2.2.2.2.2.2.2.2.2.2.2.2.2.2.2.2.2.2.2.2.2.2.1 v.2.2.2.2.2.2.2.2.2.2.2.2.2.2.2.2.2.2.2.2.2.2.2.2.2.2.2.2.2.2.1 v.2.2.2.2.2.2.2.2.2.2.2.2.2.2.2.2.2.2.2.2.2.2.2.2.2.2.2.2.2.2.2.1 v.2.2.2.2.2.2.2.2.2.2.2.2.2.2.2.2.2.2.2.2.2.2.2.2.2.2.2.2.2.2.2.2.1 v.2.2.2.2.2.2.2.2.2.2.2.2.2.2.2.2.2.2.2.2.2.2.2.2.2.2.2.2.2.2.2.2.2.1 v.2.2.2.2.2.2.2.2.2.2.2.2.2.2.2.2.2.2.2.2.2.2.2.2.2.2.2.2.2.2.2.2.2.2
namespace start_spec_a
noncomputable def w : World := start_spec_a_v.1
noncomputable def mean : ExcName → Option Value := start_spec_a_v.2.1
noncomputable def mg : Str → Option Value := start_spec_a_v.2.2.1
noncomputable def mb : Str → Option Value := start_spec_a_v.2.2.2.1
noncomputable def base : Heap := start_spec_a_v.2.2.2.2.1
noncomputable def h₀ : Heap := start_spec_a_v.2.2.2.2.2.1
noncomputable def outer : List Env := start_spec_a_v.2.2.2.2.2.2.1
noncomputable def env : Env := start_spec_a_v.2.2.2.2.2.2.2.1
noncomputable def L : Addr := start_spec_a_v.2.2.2.2.2.2.2.2.1
noncomputable def m : Str → Option Value := start_spec_a_v.2.2.2.2.2.2.2.2.2.1
noncomputable def news : List (Addr × Obj) := start_spec_a_v.2.2.2.2.2.2.2.2.2.2.1
noncomputable def s : Shared := start_spec_a_v.2.2.2.2.2.2.2.2.2.2.2.1
noncomputable def dp : Nat := start_spec_a_v.2.2.2.2.2.2.2.2.2.2.2.2.1
noncomputable def un : Nat := start_spec_a_v.2.2.2.2.2.2.2.2.2.2.2.2.2.1
noncomputable def gd : Option (List Code) := start_spec_a_v.2.2.2.2.2.2.2.2.2.2.2.2.2.2.1
noncomputable def Q : Value → Shared → Prop := start_spec_a_v.2.2.2.2.2.2.2.2.2.2.2.2.2.2.2.1
noncomputable def E : Value → Shared → Prop := start_spec_a_v.2.2.2.2.2.2.2.2.2.2.2.2.2.2.2.2.1
noncomputable def x : Addr := start_spec_a_v.2.2.2.2.2.2.2.2.2.2.2.2.2.2.2.2.2.1
noncomputable def dx : Addr := start_spec_a_v.2.2.2.2.2.2.2.2.2.2.2.2.2.2.2.2.2.2.1
noncomputable def dc : Addr := start_spec_a_v.2.2.2.2.2.2.2.2.2.2.2.2.2.2.2.2.2.2.2.1
noncomputable def mode : Mode := start_spec_a_v.2.2.2.2.2.2.2.2.2.2.2.2.2.2.2.2.2.2.2.2.1
noncomputable def most : Int := start_spec_a_v.2.2.2.2.2.2.2.2.2.2.2.2.2.2.2.2.2.2.2.2.2.1
noncomputable def n : Int := start_spec_a_v.2.2.2.2.2.2.2.2.2.2.2.2.2.2.2.2.2.2.2.2.2.2.1
noncomputable def to : Tok := start_spec_a_v.2.2.2.2.2.2.2.2.2.2.2.2.2.2.2.2.2.2.2.2.2.2.2.1
noncomputable def tn : Tok := start_spec_a_v.2.2.2.2.2.2.2.2.2.2.2.2.2.2.2.2.2.2.2.2.2.2.2.2.1
noncomputable def st : FSt := start_spec_a_v.2.2.2.2.2.2.2.2.2.2.2.2.2.2.2.2.2.2.2.2.2.2.2.2.2.1
noncomputable def od : Obj := start_spec_a_v.2.2.2.2.2.2.2.2.2.2.2.2.2.2.2.2.2.2.2.2.2.2.2.2.2.2.1
noncomputable def u : Obj → List (Addr × Obj) := start_spec_a_v.2.2.2.2.2.2.2.2.2.2.2.2.2.2.2.2.2.2.2.2.2.2.2.2.2.2.2.1
noncomputable def oc : Obj := start_spec_a_v.2.2.2.2.2.2.2.2.2.2.2.2.2.2.2.2.2.2.2.2.2.2.2.2.2.2.2.2.1
noncomputable def g : Heap := start_spec_a_v.2.2.2.2.2.2.2.2.2.2.2.2.2.2.2.2.2.2.2.2.2.2.2.2.2.2.2.2.2.1
noncomputable def hs : Nat → Int := start_spec_a_v.2.2.2.2.2.2.2.2.2.2.2.2.2.2.2.2.2.2.2.2.2.2.2.2.2.2.2.2.2.2.1
noncomputable def ts : Nat → Tok := start_spec_a_v.2.2.2.2.2.2.2.2.2.2.2.2.2.2.2.2.2.2.2.2.2.2.2.2.2.2.2.2.2.2.2.1
noncomputable def L9 : Addr := start_spec_a_v.2.2.2.2.2.2.2.2.2.2.2.2.2.2.2.2.2.2.2.2.2.2.2.2.2.2.2.2.2.2.2.2.1
noncomputable def h9 : Heap := start_spec_a_v.2.2.2.2.2.2.2.2.2.2.2.2.2.2.2.2.2.2.2.2.2.2.2.2.2.2.2.2.2.2.2.2.2.1
noncomputable def tk9 : Nat := start_spec_a_v.2.2.2.2.2.2.2.2.2.2.2.2.2.2.2.2.2.2.2.2.2.2.2.2.2.2.2.2.2.2.2.2.2.2
set_option maxHeartbeats 8000000 in
theorem walk : start_spec_a_pre.1 w mean mg mb base h₀ outer env L m news s dp un gd Q E x dx dc mode most n to tn st od u oc g hs ts L9 h9 tk9 := by
  delta start_spec_a_pre
  dsimp only
  intro hd hu op hod hx U hdx hdc R hcd lo hl ret st' B fr kp ns hN hxd hxc X C T F9 N9 l9
  dsimp only [fileD] at N9
  have fin : ∀ h' tk' L' m' led od' t1 rs st', Fr g L' h' m' → News g L' h' led → (dx, od') ∈ led → (dc, oc) ∈ led → (x, instObj 168 dx) ∈ led →
      FileObj dc mode.s (Str.ofString "sequential") most st' od' → fStart mode op n st = (rs, st') → Q (.str rs t1) { s with heap := h', toks := tk' } := by
    intro h' tk' L' m' led od' t1 rs st' F' N' m2 m3 m4 hf he
    have af : Aft g h' [(x, instObj 168 dx), (dx, od'), (dc, oc)] := (aft_of F' N').sub (by simp [m2, m3, m4])
    have nn := ns _ _ af
    have nt := news_turn C hN U af nn (fun p hp hq => kp _ p F'.keep hp hq) (o' := od') (by simp) (by simp)
    have key := ret h' tk' od' t1 (fr _ F'.keep)
    rw [he] at key
    exact key nt hf
  cases hm : mode.reads
  · k_steps
    all_goals exact fin _ _ _ _ _ _ _ _ _ (by assumption) (by assumption) (by k_mem) (by k_mem) (by k_mem) (FileObj.mk ..) (fs_47 (by assumption))
  · cases op
    all_goals k_steps
    all_goals (try dsimp only)
    all_goals first
      | exact fin _ _ _ _ _ _ _ _ _ (by assumption) (by assumption) (by k_mem) (by k_mem) (by k_mem) (FileObj.mk ..) (fs_00 (by assumption) (sn_eq_t (by assumption)) (by assumption))
      | exact fin _ _ _ _ _ _ _ _ _ (by assumption) (by assumption) (by k_mem) (by k_mem) (by k_mem) (FileObj.mk ..) (fs_23 (by assumption) (sn_eq_t (by assumption)) (by assumption))
      | exact fin _ _ _ _ _ _ _ _ _ (by assumption) (by assumption) (by k_mem) (by k_mem) (by k_mem) (FileObj.mk ..) (fs_00 (by assumption) rfl (by assumption))
      | exact fin _ _ _ _ _ _ _ _ _ (by assumption) (by assumption) (by k_mem) (by k_mem) (by k_mem) (FileObj.mk ..) (fs_23 (by assumption) rfl (by assumption))
      | exact fin _ _ _ _ _ _ _ _ _ (by assumption) (by assumption) (by k_mem) (by k_mem) (by k_mem) (FileObj.mk ..) (fs_23 (by assumption) (sn_eq_f (by assumption)) (by decide))
end start_spec_a
theorem start_spec_a_all : ∀ (w' : World) (mean' : ExcName → Option Value) (mg' : Str → Option Value) (mb' : Str → Option Value) (base' : Heap) (h₀' : Heap) (outer' : List Env) (env' : Env) (L' : Addr) (m' : Str → Option Value) (news' : List (Addr × Obj)) (s' : Shared) (dp' : Nat) (un' : Nat) (gd' : Option (List Code)) (Q' : Value → Shared → Prop) (E' : Value → Shared → Prop) (x' : Addr) (dx' : Addr) (dc' : Addr) (mode' : Mode) (most' : Int) (n' : Int) (to' : Tok) (tn' : Tok) (st' : FSt) (od' : Obj) (u' : Obj → List (Addr × Obj)) (oc' : Obj) (g' : Heap) (hs' : Nat → Int) (ts' : Nat → Tok) (L9' : Addr) (h9' : Heap) (tk9' : Nat), start_spec_a_pre.1 w' mean' mg' mb' base' h₀' outer' env' L' m' news' s' dp' un' gd' Q' E' x' dx' dc' mode' most' n' to' tn' st' od' u' oc' g' hs' ts' L9' h9' tk9' := by
  intro w' mean' mg' mb' base' h₀' outer' env' L' m' news' s' dp' un' gd' Q' E' x' dx' dc' mode' most' n' to' tn' st' od' u' oc' g' hs' ts' L9' h9' tk9'
  have hw := start_spec_a.walk
  with_unfolding_all exact hk (α := (World) × (ExcName → Option Value) × (Str → Option Value) × (Str → Option Value) × (Heap) × (Heap) × (List Env) × (Env) × (Addr) × (Str → Option Value) × (List (Addr × Obj)) × (Shared) × (Nat) × (Nat) × (Option (List Code)) × (Value → Shared → Prop) × (Value → Shared → Prop) × (Addr) × (Addr) × (Addr) × (Mode) × (Int) × (Int) × (Tok) × (Tok) × (FSt) × (Obj) × (Obj → List (Addr × Obj)) × (Obj) × (Heap) × (Nat → Int) × (Nat → Tok) × (Addr) × (Heap) × (Nat)) (p := fun v => start_spec_a_pre.1 v.1 v.2.1 v.2.2.1 v.2.2.2.1 v.2.2.2.2.1 v.2.2.2.2.2.1 v.2.2.2.2.2.2.1 v.2.2.2.2.2.2.2.1 v.2.2.2.2.2.2.2.2.1 v.2.2.2.2.2.2.2.2.2.1 v.2.2.2.2.2.2.2.2.2.2.1 v.2.2.2.2.2.2.2.2.2.2.2.1 v.2.2.2.2.2.2.2.2.2.2.2.2.1 v.2.2.2.2.2.2.2.2.2.2.2.2.2.1 v.2.2.2.2.2.2.2.2.2.2.2.2.2.2.1 v.2.2.2.2.2.2.2.2.2.2.2.2.2.2.2.1 v.2.2.2.2.2.2.2.2.2.2.2.2.2.2.2.2.1 v.2.2.2.2.2.2.2.2.2.2.2.2.2.2.2.2.2.1 v.2.2.2.2.2.2.2.2.2.2.2.2.2.2.2.2.2.2.1 v.2.2.2.2.2.2.2.2.2.2.2.2.2.2.2.2.2.2.2.1 v.2.2.2.2.2.2.2.2.2.2.2.2.2.2.2.2.2.2.2.2.1 v.2.2.2.2.2.2.2.2.2.2.2.2.2.2.2.2.2.2.2.2.2.1 v.2.2.2.2.2.2.2.2.2.2.2.2.2.2.2.2.2.2.2.2.2.2.1 v.2.2.2.2.2.2.2.2.2.2.2.2.2.2.2.2.2.2.2.2.2.2.2.1 v.2.2.2.2.2.2.2.2.2.2.2.2.2.2.2.2.2.2.2.2.2.2.2.2.1 v.2.2.2.2.2.2.2.2.2.2.2.2.2.2.2.2.2.2.2.2.2.2.2.2.2.1 v.2.2.2.2.2.2.2.2.2.2.2.2.2.2.2.2.2.2.2.2.2.2.2.2.2.2.1 v.2.2.2.2.2.2.2.2.2.2.2.2.2.2.2.2.2.2.2.2.2.2.2.2.2.2.2.1 v.2.2.2.2.2.2.2.2.2.2.2.2.2.2.2.2.2.2.2.2.2.2.2.2.2.2.2.2.1 v.2.2.2.2.2.2.2.2.2.2.2.2.2.2.2.2.2.2.2.2.2.2.2.2.2.2.2.2.2.1 v.2.2.2.2.2.2.2.2.2.2.2.2.2.2.2.2.2.2.2.2.2.2.2.2.2.2.2.2.2.2.1 v.2.2.2.2.2.2.2.2.2.2.2.2.2.2.2.2.2.2.2.2.2.2.2.2.2.2.2.2.2.2.2.1 v.2.2.2.2.2.2.2.2.2.2.2.2.2.2.2.2.2.2.2.2.2.2.2.2.2.2.2.2.2.2.2.2.1 v.2.2.2.2.2.2.2.2.2.2.2.2.2.2.2.2.2.2.2.2.2.2.2.2.2.2.2.2.2.2.2.2.2.1 v.2.2.2.2.2.2.2.2.2.2.2.2.2.2.2.2.2.2.2.2.2.2.2.2.2.2.2.2.2.2.2.2.2.2) hw (w', mean', mg', mb', base', h₀', outer', env', L', m', news', s', dp', un', gd', Q', E', x', dx', dc', mode', most', n', to', tn', st', od', u', oc', g', hs', ts', L9', h9', tk9')
theorem start_spec {w : World} {mean : ExcName → Option Value} {mg mb : Str → Option Value} {A₀ : Around} {base h₀ : Heap} {outer : List Env} {env : Env} {L : Addr} {m : Str → Option Value} {news : List (Addr × Obj)} {s : Shared} {dp un : Nat} {gd : Option (List Code)} {Q E : Value → Shared → Prop} (H : Here w mean mg mb A₀ base h₀ outer env L m news s.heap) (hd : dp + 40 < recursionLimit) (hu : un + 400 < cLine) {x dx dc : Addr} {mode : Mode} {most n : Int} {op : Op} {to tn : Tok} {st : FSt} {od : Obj} {u : Obj → List (Addr × Obj)}
    {oc : Obj} (hod : FileObj dc mode.s (Str.ofString "sequential") most st od) (hx : (x, instObj 168 dx) ∈ news) (U : UpdF dx od news u) (hdx : (dx, od) ∈ news) (hdc : (dc, oc) ∈ news) (R : RowsO w oc st.rows) (hcd : @Ne Nat dc dx) (lo : (dc == sysModules) = false) (hl : st.rows.length < 64)
    (ret : ∀ h' tk' od' t1, Fr h₀ L h' m → News h₀ L h' (u od') → FileObj dc mode.s (Str.ofString "sequential") most (fStart mode op n st).2 od' → Q (.str (fStart mode op n st).1 t1) { s with heap := h', toks := tk' }) :
    wpAny (model PySem.Challenge.rw_og0083_01.row.prog w) (aro dp un gd (env :: outer)) (call (.ref 129) [.ref x, .str op.s to, .int n tn]) Q E s := by
  exact start_spec_a_pre.2 start_spec_a_all w mean mg mb A₀ base h₀ outer env L m news s dp un gd Q E H hd hu x dx dc mode most n op to tn st od u oc hod hx U hdx hdc R hcd lo hl ret
end
theorem updF_mem {d : Addr} {o o' : Obj} {l : List (Addr × Obj)} {u : Obj → List (Addr × Obj)} (U : UpdF d o l u) {p : Addr × Obj} (hp : p ∈ u o') : p = (d, o') ∨ (p ∈ l ∧ p.1 ≠ d) := by
  obtain ⟨pre, post, rfl, hu, h1, h2⟩ := U.split
  rw [hu] at hp
  rcases List.mem_append.mp hp with q | q
  · exact .inr ⟨List.mem_append_left _ q, h1 p q⟩
  · rcases List.mem_cons.mp q with rfl | q
    · exact .inl rfl
    · exact .inr ⟨List.mem_append_right _ (.tail _ q), h2 p q⟩
theorem news_turn2 {muts : List (Addr × Obj)} {h g h' : Heap} (C : Cut muts h g) {h₀ : Heap} {L : Addr} {news outs : List (Addr × Obj)} {d d2 : Addr} {o o' o2 o2' : Obj} {u : Obj → List (Addr × Obj)} {u2 : Obj → Obj → List (Addr × Obj)} (N : News h₀ L h news) (U : UpdF d o news u) (U2 : ∀ x, UpdF d2 o2 (u x) (u2 x))
    (N' : News h₀ L h' outs) (kp : ∀ p, p ∈ news → p.1 ∉ muts.map (·.1) → h'.get? p.1 = some p.2 ∧ p.1 ≠ L ∧ h₀.get? p.1 = none) (ho : (d, o') ∈ outs) (ho2 : (d2, o2') ∈ outs) (hm : ∀ p ∈ muts, p.1 = d ∨ p.1 = d2 ∨ p ∈ outs) : News h₀ L h' (u2 o' o2') := by
  intro p hp
  rcases updF_mem (U2 o') hp with rfl | ⟨hp, hd2⟩
  · exact N' _ ho2
  · rcases updF_mem U hp with rfl | ⟨hp, hd⟩
    · exact N' _ ho
    · by_cases q : p.1 ∈ muts.map (·.1)
      · obtain ⟨x, hx, e⟩ := List.mem_map.mp q
        rcases hm x hx with e' | e' | hx'
        · exact absurd (e.symm.trans e') hd
        · exact absurd (e.symm.trans e') hd2
        · have e1 := (C.here x hx).1
          have e2 := (N p hp).1
          rw [e, e2] at e1
          have : p = x := Prod.ext e.symm (Option.some.inj e1)
          exact this ▸ N' x hx'
      · exact kp p hp q
noncomputable def Mode.writes : Mode → Bool
  | .out => true | .ext => true | _ => false
theorem mode_writes {m : Mode} {b : Bool} {t u : Tok} (h : m.writes = b) : [Value.str (Str.ofString "output") t, Value.str (Str.ofString "extend") u].any (isTheStr m.s) = b := by subst h; cases m <;> (simp only [List.any_cons, isTheStr, List.any_nil, Mode.s, Mode.writes]; decide)
theorem words12 : True := by
  k_with "S any" => (exact mode_writes (by assumption))
  k_with "setItem ref int" => ((k_here; (with_reducible show wpAny _ _ (setItem (Value.ref _) (Value.int _ _) (Value.bytes _ _)) _ _ _); (k_dflt (refine' rows_set (by k_asm) (by k_asm) (by k_updF) (by k_asm) (by omega) ?_; k_whole)); (intro h' o' F' N' R'); (try dsimp only at N'); (revert h' o' F' N' R'; intro _ _ _ _ _); (try k_sweep)))
  trivial
section
variable {prog : Program} {w : World} {A : Around} {E : Value → Shared → Prop} {s : Shared} {Q : Value → Shared → Prop}
theorem bb_bytes : typeLookup (.type "bytes") "__bytes__" = pure (some (.builtin "bytes.__bytes__")) := by rw [typeLookup_type, builtinLookup_eq_fast]; kernel_rfl
theorem bb_new {b : Array UInt8} {t : Tok} (hQ : Q (.bytes b t) s) : codeAny (model prog w) A (.call (.builtin "bytes.__new__") ⟨[.type "bytes", .bytes b t], []⟩) (wants Q E) s := by
  refine codeAny_of_tree ?_
  show wpAny _ A.in1 (do checkBuiltinCall "bytes.__new__" ⟨[.type "bytes", .bytes b t], []⟩; again (.builtin "bytes.__new__" ⟨[.type "bytes", .bytes b t], []⟩)) _ _ s
  refine wpAny_bind (wpAny_of_eq (F.bm_newCall _) (wpAny_pure ⟨plainId_quiet F.bm_plain _, codeAny_builtin F.bm_entry ?_⟩))
  rw [Around.under_plainId F.bm_plain _]
  have hT : s.TypeIs (.bytes b t) "bytes" := typeIs_bytes _ _ _
  unfold Builtin.«bytes.__new__»
  refine wpAny_bind (wpAny_of_eq (a := true) rfl ?_)
  refine bm_if_false rfl ?_
  refine wpAny_bind (wpAny_of_eq F.bm_sub ?_)
  refine bm_if_false rfl ?_
  refine wpAny_bind (wpAny_of_eq (F.bm_bind _) ?_)
  refine wpAny_bind (wpAny_of_eq (a := ()) rfl ?_)
  refine wpAny_bind (wpAny_of_eq (a := ()) rfl ?_)
  refine bm_if_false rfl ?_
  refine wpAny_bind (wpAny_specialOf hT bb_bytes ?_)
  dsimp only
  refine wpAny_bind (wpAny_rule ?_)
  refine wpAny_bind (wpAny_typeOf hT ?_)
  refine bm_if_true (by decide) ?_
  first
    | exact wpAny_pure hQ
    | exact wpAny_bind (wpAny_pure (wpAny_pure hQ))
theorem bytes_bytes {b : Array UInt8} {t : Tok} (hQ : Q (.bytes b t) s) : wpAny (model prog w) A (call (.type "bytes") [.bytes b t]) Q E s := by
  refine callType_codes (Q₁ := fun obj s₁ => s₁.TypeIs obj "bytes" ∧ Q obj s₁) F.bm_called (F.bm_typeCall _) F.entry_object_init
    (bb_new ⟨typeIs_bytes _ _ _, hQ⟩) fun obj s₁ h₁ => ?_
  exact ⟨h₁.1, F.args_object_init_2 obj _, object_init_meets F.bm_called.init.lookup F.bm_called.made (by decide) prog w A.in1 _ s₁ ⟨h₁.1, rfl, h₁.2⟩⟩
end
theorem words13 : True := by
  k_with "call type:bytes" => ((k_here; k_dflt (refine' bytes_bytes ?_; k_whole)))
  trivial
section
variable {mode : Mode} {most n k : Int} {b : Bts} {st : FSt}
theorem fw_48 (h : mode.writes = false) : fWrite mode most b st = (s48, { st with last := 0 }) := by
  unfold fWrite; rw [if_pos (by cases mode <;> simp_all [Mode.writes])]
theorem fw_w (h : mode.writes = true) : ¬ (mode = .inp ∨ mode = .io) := by cases mode <;> simp_all [Mode.writes]
theorem fw_24a (h : mode.writes = true) (h1 : st.number + 1 < 1) : fWrite mode most b st = (s24, { st with last := 0 }) := by
  unfold fWrite; rw [if_neg (fw_w h), if_pos (.inl h1)]
theorem fw_24b (h : mode.writes = true) (h1 : 0 < most) (h2 : most < st.number + 1) : fWrite mode most b st = (s24, { st with last := 0 }) := by
  unfold fWrite; rw [if_neg (fw_w h), if_pos (.inr ⟨h1, h2⟩)]
theorem fw_22 (h : mode.writes = true) (h1 : ¬ st.number + 1 < 1) (h2 : ¬ (0 < most ∧ most < st.number + 1)) (h3 : rhas st.rows (st.number + 1) = true) : fWrite mode most b st = (s22, { st with last := 0 }) := by
  unfold fWrite; rw [if_neg (fw_w h), if_neg (fun q => q.elim h1 h2), if_pos h3]
theorem fw_00 (h : mode.writes = true) (h1 : ¬ st.number + 1 < 1) (h2 : ¬ (0 < most ∧ most < st.number + 1)) (h3 : rhas st.rows (st.number + 1) = false) : fWrite mode most b st = (s00, { st with last := 0, rows := rput st.rows (st.number + 1) b, number := st.number + 1 }) := by
  unfold fWrite; rw [if_neg (fw_w h), if_neg (fun q => q.elim h1 h2), if_neg (by rw [h3]; decide)]
theorem fr_49 (h : mode ≠ .io) : fRewrite mode b st = (s49, { st with last := 0 }) := by unfold fRewrite; rw [if_pos h]
theorem fr_00 (h : mode = .io) (h1 : 0 < st.last) : fRewrite mode b st = (s00, { st with last := 0, rows := rput st.rows st.last b, number := st.last }) := by unfold fRewrite; rw [if_neg (fun q => q h), if_pos h1]
theorem fr_43 (h : mode = .io) (h1 : ¬ 0 < st.last) : fRewrite mode b st = (s43, { st with last := 0 }) := by unfold fRewrite; rw [if_neg (fun q => q h), if_neg h1]
theorem fd_49 (h : mode ≠ .io) : fDelete mode st = (s49, { st with last := 0 }) := by unfold fDelete; rw [if_pos h]
theorem fd_00 (h : mode = .io) (h1 : 0 < st.last) : fDelete mode st = (s00, { st with last := 0, rows := rdel st.rows st.last }) := by unfold fDelete; rw [if_neg (fun q => q h), if_pos h1]
theorem fd_43 (h : mode = .io) (h1 : ¬ 0 < st.last) : fDelete mode st = (s43, { st with last := 0 }) := by unfold fDelete; rw [if_neg (fun q => q h), if_neg h1]
end
section

set_option maxHeartbeats 8000000 in
noncomputable def write_spec_a_pre : (Pa : (World) → (ExcName → Option Value) → (Str → Option Value) → (Str → Option Value) → (Heap) → (Heap) → (List Env) → (Env) → (Addr) → (Str → Option Value) → (List (Addr × Obj)) → (Shared) → (Nat) → (Nat) → (Option (List Code)) → (Value → Shared → Prop) → (Value → Shared → Prop) → (Addr) → (Addr) → (Addr) → (Mode) → (Int) → (Bts) → (Tok) → (FSt) → (Obj) → (Obj → List (Addr × Obj)) → (Obj → Obj → List (Addr × Obj)) → (Obj) → (Heap) → (Nat → Int) → (Nat → Tok) → (Addr) → (Heap) → (Nat) → Prop) ×' ((∀ w mean mg mb base h₀ outer env L m news s dp un gd Q E x dx dc mode most b tb st od u u2 oc g hs ts L9 h9 tk9, Pa w mean mg mb base h₀ outer env L m news s dp un gd Q E x dx dc mode most b tb st od u u2 oc g hs ts L9 h9 tk9) → (∀ (w : World) (mean : ExcName → Option Value) (mg mb : Str → Option Value) (A₀ : Around) (base h₀ : Heap) (outer : List Env) (env : Env) (L : Addr) (m : Str → Option Value) (news : List (Addr × Obj)) (s : Shared) (dp un : Nat) (gd : Option (List Code)) (Q E : Value → Shared → Prop) (H : Here w mean mg mb A₀ base h₀ outer env L m news s.heap) (hd : dp + 40 < recursionLimit) (hu : un + 400 < cLine) (x dx dc : Addr) (mode : Mode) (most : Int) (b : Bts) (tb : Tok) (st : FSt) (od : Obj) (u : Obj → List (Addr × Obj)) (u2 : Obj → Obj → List (Addr × Obj)) (oc : Obj) (hod : FileObj dc mode.s (Str.ofString "sequential") most st od) (hx : (x, instObj 168 dx) ∈ news) (U : UpdF dx od news u) (U2 : ∀ x, UpdF dc oc (u x) (u2 x)) (hdx : (dx, od) ∈ news) (hdc : (dc, oc) ∈ news) (R : RowsO w oc st.rows) (hcd : @Ne Nat dc dx) (lo : (dc == sysModules) = false) (hl : st.rows.length < 64) (ret : ∀ h' tk' od' oc' t1, Fr h₀ L h' m → News h₀ L h' (u2 od' oc') → FileObj dc mode.s (Str.ofString "sequential") most (fWrite mode most b st).2 od' → RowsO w oc' (fWrite mode most b st).2.rows → Q (.str (fWrite mode most b st).1 t1) { s with heap := h', toks := tk' }), wpAny (model PySem.Challenge.rw_og0083_01.row.prog w) (aro dp un gd (env :: outer)) (call (.ref 137) [.ref x, .bytes b tb]) Q E s)) := by
  refine' ⟨_, fun hPa => ?_⟩
  rotate_left 1
  · skip
    intro w mean mg mb A₀ base h₀ outer env L m news s dp un gd Q E H hd hu x dx dc mode most b tb st od u u2 oc hod hx U U2 hdx hdc R hcd lo hl ret
    refine file_cut (dp := dp) (un := un) (gd := gd) H hod hx hdx hdc R (fun g hs ts C st' B X T fr kp ns hN hxd hxc => ?_)
    clear H
    (revert C T; revert X; k_fill; intro X C T)
    refine wpAny_call ?_
    walk_at "S enter"
    rename_i L9 h9 tk9 F9 N9 l9
    k_sweep
    revert l9; revert N9; revert F9; revert T; revert C; revert X; revert hxc; revert hxd; revert hN; revert ns; revert kp; revert fr; revert B; revert st'; revert ret; revert hl; revert lo; revert hcd; revert R; revert hdc; revert hdx; revert U2; revert U; revert hx; revert hod; revert hu; revert hd
    exact hPa w mean mg mb base h₀ outer env L m news s dp un gd Q E x dx dc mode most b tb st od u u2 oc g hs ts L9 h9 tk9
noncomputable def write_spec_a_v : (World) × (ExcName → Option Value) × (Str → Option Value) × (Str → Option Value) × (Heap) × (Heap) × (List Env) × (Env) × (Addr) × (Str → Option Value) × (List (Addr × Obj)) × (Shared) × (Nat) × (Nat) × (Option (List Code)) × (Value → Shared → Prop) × (Value → Shared → Prop) × (Addr) × (Addr) × (Addr) × (Mode) × (Int) × (Bts) × (Tok) × (FSt) × (Obj) × (Obj → List (Addr × Obj)) × (Obj → Obj → List (Addr × Obj)) × (Obj) × (Heap) × (Nat → Int) × (Nat → Tok) × (Addr) × (Heap) × (Nat) := @Classical.epsilon _ ⟨(w0, (fun _ => none), (fun _ => none), (fun _ => none), {}, {}, [], default, 0, (fun _ => none), [], {}, 0, 0, none, (fun _ => (fun _ => True)), (fun _ => (fun _ => True)), 0, 0, 0, .inp, 0, default, 0, ⟨[], 0, true, true, 0, 0⟩, default, (fun _ => []), (fun _ => (fun _ => [])), default, {}, (fun _ => 0), (fun _ => 0), 0, {}, 0)⟩ fun v => ¬ write_spec_a_pre.1 v.1 v.2.1 v.2.2.1 v.2.2.2.1 v.2.2.2.2.1 v.2.2.2.2.2.1 v.2.2.2.2.2.2.1 v.2.2.2.2.2.2.2.1 v.2.2.2.2.2.2.2.2.1 v.2.2.2.2.2.2.2.2.2.1 v.2.2.2.2.2.2.2.2.2.2.1 v.2.2.2.2.2.2.2.2.2.2.2.1 v.2.2.2.2.2.2.2.2.2.2.2.2.1 v.2.2.2.2.2.2.2.2.2.2.2.2.2.1 v.2.2.2.2.2.2.2.2.2.2.2.2.2.2.1 v.2.2.2.2.2.2.2.2.2.2.2.2.2.2.2.1 v.2.2.2.2.2.2.2.2.2.2.2.2.2.2.2.2.1 v.2.2.2.2.2.2.2.2.2.2.2.2.2.2.2.2.2.1 v.2.2.2.2.2.2.2.2.2.2.2.2.2.2.2.2.2.2.1 v.2.2.2.2.2.2.2.2.2.2.2.2.2.2.2.2.2.2.2.1 v.2.2.2.2.2.2.2.2.2.2.2.2.2.2.2.2.2.2.2.2.1 v.2.2.2.2.2.2.2.2.2.2.2.2.2.2.2.2.2.2.2.2.2.1 v.2.2.2.2.2.2.2.2.2.2.2.2.2.2.2.2.2.2.2.2.2.2.1 v.2.2.2.2.2.2.2.2.2.2.2.2.2.2.2.2.2.2.2.2.2.2.2.1 v.2.2.2.2.2.2.2.2.2.2.2.2.2.2.2.2.2.2.2.2.2.2.2.2.1 v.2.2.2.2.2.2.2.2.2.2.2.2.2.2.2.2.2.2.2.2.2.2.2.2.2.1 v.2.2.2.2.2.2.2.2.2.2.2.2.2.2.2.2.2.2.2.2.2.2.2.2.2.2.1 v.2.2.2.2.2.2.2.2.2.2.2.2.2.2.2.2.2.2.2.2.2.2.2.2.2.2.2.1 v.2.2.2.2.2.2.2.2.2.2.2.2.2.2.2.2.2.2.2.2.2.2.2.2.2.2.2.2.1 v.2.2.2.2.2.2.2.2.2.2.2.2.2.2.2.2.2.2.2.2.2.2.2.2.2.2.2.2.2.1 v.2.2.2.2.2.2.2.2.2.2.2.2.2.2.2.2.2.2.2.2.2.2.2.2.2.2.2.2.2.2.1 v.2.2.2.2.2.2.2.2.2.2.2.2.2.2.2.2.2.2.2.2.2.2.2.2.2.2.2.2.2.2.2.1 v.2.2.2.2.2.2.2.2.2.2.2.2.2.2.2.2.2.2.2.2.2.2.2.2.2.2.2.2.2.2.2.2.1 v.2.2.2.2.2.2.2.2.2.2.2.2.2.2.2.2.2.2.2.2.2.2.2.2.2.2.2.2.2.2.2.2.2.1 v.2.2.2.2.2.2.2.2.2.2.2.2.2.2.2.2.2.2.2.2.2.2.2.2.2.2.2.2.2.2.2.2.2.2
namespace write_spec_a
noncomputable def w : World := write_spec_a_v.1
noncomputable def mean : ExcName → Option Value := write_spec_a_v.2.1
noncomputable def mg : Str → Option Value := write_spec_a_v.2.2.1
noncomputable def mb : Str → Option Value := write_spec_a_v.2.2.2.1
noncomputable def base : Heap := write_spec_a_v.2.2.2.2.1
noncomputable def h₀ : Heap := write_spec_a_v.2.2.2.2.2.1
noncomputable def outer : List Env := write_spec_a_v.2.2.2.2.2.2.1
noncomputable def env : Env := write_spec_a_v.2.2.2.2.2.2.2.1
noncomputable def L : Addr := write_spec_a_v.2.2.2.2.2.2.2.2.1
noncomputable def m : Str → Option Value := write_spec_a_v.2.2.2.2.2.2.2.2.2.1
noncomputable def news : List (Addr × Obj) := write_spec_a_v.2.2.2.2.2.2.2.2.2.2.1
noncomputable def s : Shared := write_spec_a_v.2.2.2.2.2.2.2.2.2.2.2.1
noncomputable def dp : Nat := write_spec_a_v.2.2.2.2.2.2.2.2.2.2.2.2.1
noncomputable def un : Nat := write_spec_a_v.2.2.2.2.2.2.2.2.2.2.2.2.2.1
noncomputable def gd : Option (List Code) := write_spec_a_v.2.2.2.2.2.2.2.2.2.2.2.2.2.2.1
noncomputable def Q : Value → Shared → Prop := write_spec_a_v.2.2.2.2.2.2.2.2.2.2.2.2.2.2.2.1
noncomputable def E : Value → Shared → Prop := write_spec_a_v.2.2.2.2.2.2.2.2.2.2.2.2.2.2.2.2.1
noncomputable def x : Addr := write_spec_a_v.2.2.2.2.2.2.2.2.2.2.2.2.2.2.2.2.2.1
noncomputable def dx : Addr := write_spec_a_v.2.2.2.2.2.2.2.2.2.2.2.2.2.2.2.2.2.2.1
noncomputable def dc : Addr := write_spec_a_v.2.2.2.2.2.2.2.2.2.2.2.2.2.2.2.2.2.2.2.1
noncomputable def mode : Mode := write_spec_a_v.2.2.2.2.2.2.2.2.2.2.2.2.2.2.2.2.2.2.2.2.1
noncomputable def most : Int := write_spec_a_v.2.2.2.2.2.2.2.2.2.2.2.2.2.2.2.2.2.2.2.2.2.1
noncomputable def b : Bts := write_spec_a_v.2.2.2.2.2.2.2.2.2.2.2.2.2.2.2.2.2.2.2.2.2.2.1
noncomputable def tb : Tok := write_spec_a_v.2.2.2.2.2.2.2.2.2.2.2.2.2.2.2.2.2.2.2.2.2.2.2.1
noncomputable def st : FSt := write_spec_a_v.2.2.2.2.2.2.2.2.2.2.2.2.2.2.2.2.2.2.2.2.2.2.2.2.1
noncomputable def od : Obj := write_spec_a_v.2.2.2.2.2.2.2.2.2.2.2.2.2.2.2.2.2.2.2.2.2.2.2.2.2.1
noncomputable def u : Obj → List (Addr × Obj) := write_spec_a_v.2.2.2.2.2.2.2.2.2.2.2.2.2.2.2.2.2.2.2.2.2.2.2.2.2.2.1
noncomputable def u2 : Obj → Obj → List (Addr × Obj) := write_spec_a_v.2.2.2.2.2.2.2.2.2.2.2.2.2.2.2.2.2.2.2.2.2.2.2.2.2.2.2.1
noncomputable def oc : Obj := write_spec_a_v.2.2.2.2.2.2.2.2.2.2.2.2.2.2.2.2.2.2.2.2.2.2.2.2.2.2.2.2.1
noncomputable def g : Heap := write_spec_a_v.2.2.2.2.2.2.2.2.2.2.2.2.2.2.2.2.2.2.2.2.2.2.2.2.2.2.2.2.2.1
noncomputable def hs : Nat → Int := write_spec_a_v.2.2.2.2.2.2.2.2.2.2.2.2.2.2.2.2.2.2.2.2.2.2.2.2.2.2.2.2.2.2.1
noncomputable def ts : Nat → Tok := write_spec_a_v.2.2.2.2.2.2.2.2.2.2.2.2.2.2.2.2.2.2.2.2.2.2.2.2.2.2.2.2.2.2.2.1
noncomputable def L9 : Addr := write_spec_a_v.2.2.2.2.2.2.2.2.2.2.2.2.2.2.2.2.2.2.2.2.2.2.2.2.2.2.2.2.2.2.2.2.1
noncomputable def h9 : Heap := write_spec_a_v.2.2.2.2.2.2.2.2.2.2.2.2.2.2.2.2.2.2.2.2.2.2.2.2.2.2.2.2.2.2.2.2.2.1
noncomputable def tk9 : Nat := write_spec_a_v.2.2.2.2.2.2.2.2.2.2.2.2.2.2.2.2.2.2.2.2.2.2.2.2.2.2.2.2.2.2.2.2.2.2
set_option maxHeartbeats 8000000 in
theorem walk : write_spec_a_pre.1 w mean mg mb base h₀ outer env L m news s dp un gd Q E x dx dc mode most b tb st od u u2 oc g hs ts L9 h9 tk9 := by
  delta write_spec_a_pre
  dsimp only
  intro hd hu hod hx U U2 hdx hdc R hcd lo hl ret st' B fr kp ns hN hxd hxc X C T F9 N9 l9
  dsimp only [fileD] at N9
  have fin : ∀ h' tk' L' m' led od' oc' t1 rs st', Fr g L' h' m' → News g L' h' led → (dx, od') ∈ led → (dc, oc') ∈ led → (x, instObj 168 dx) ∈ led →
      FileObj dc mode.s (Str.ofString "sequential") most st' od' → fWrite mode most b st = (rs, st') → RowsO w oc' st'.rows → Q (.str rs t1) { s with heap := h', toks := tk' } := by
    intro h' tk' L' m' led od' oc' t1 rs st' F' N' m2 m3 m4 hf he hr
    have af : Aft g h' [(x, instObj 168 dx), (dx, od'), (dc, oc')] := (aft_of F' N').sub (by simp [m2, m3, m4])
    have nn := ns _ _ af
    have nt := news_turn2 C hN U U2 nn (fun p hp hq => kp _ p F'.keep hp hq) (o' := od') (o2' := oc') (by simp) (by simp) (by simp)
    have key := ret h' tk' od' oc' t1 (fr _ F'.keep)
    rw [he] at key
    exact key nt hf hr
  cases hm : mode.writes
  · k_steps
    all_goals (try dsimp only)
    all_goals exact fin _ _ _ _ _ _ _ _ _ _ (by assumption) (by assumption) (by k_mem) (by k_mem) (by k_mem) (FileObj.mk ..) (fw_48 (by assumption)) R
  · k_steps
    all_goals (try dsimp only)
    all_goals first
      | exact fin _ _ _ _ _ _ _ _ _ _ (by assumption) (by assumption) (by k_mem) (by k_mem) (by k_mem) (FileObj.mk ..) (fw_24a (by assumption) (by assumption)) R
      | exact fin _ _ _ _ _ _ _ _ _ _ (by assumption) (by assumption) (by k_mem) (by k_mem) (by k_mem) (FileObj.mk ..) (fw_24b (by assumption) (by assumption) (by assumption)) R
      | exact fin _ _ _ _ _ _ _ _ _ _ (by assumption) (by assumption) (by k_mem) (by k_mem) (by k_mem) (FileObj.mk ..) (fw_22 (by assumption) (by assumption) (by (try dsimp only); omega) (by assumption)) R
      | exact fin _ _ _ _ _ _ _ _ _ _ (by assumption) (by assumption) (by k_mem) (by k_mem) (by k_mem) (FileObj.mk ..) (fw_00 (by assumption) (by assumption) (by (try dsimp only); omega) (by assumption)) (by assumption)
      | skip
end write_spec_a
theorem write_spec_a_all : ∀ (w' : World) (mean' : ExcName → Option Value) (mg' : Str → Option Value) (mb' : Str → Option Value) (base' : Heap) (h₀' : Heap) (outer' : List Env) (env' : Env) (L' : Addr) (m' : Str → Option Value) (news' : List (Addr × Obj)) (s' : Shared) (dp' : Nat) (un' : Nat) (gd' : Option (List Code)) (Q' : Value → Shared → Prop) (E' : Value → Shared → Prop) (x' : Addr) (dx' : Addr) (dc' : Addr) (mode' : Mode) (most' : Int) (b' : Bts) (tb' : Tok) (st' : FSt) (od' : Obj) (u' : Obj → List (Addr × Obj)) (u2' : Obj → Obj → List (Addr × Obj)) (oc' : Obj) (g' : Heap) (hs' : Nat → Int) (ts' : Nat → Tok) (L9' : Addr) (h9' : Heap) (tk9' : Nat), write_spec_a_pre.1 w' mean' mg' mb' base' h₀' outer' env' L' m' news' s' dp' un' gd' Q' E' x' dx' dc' mode' most' b' tb' st' od' u' u2' oc' g' hs' ts' L9' h9' tk9' := by
  intro w' mean' mg' mb' base' h₀' outer' env' L' m' news' s' dp' un' gd' Q' E' x' dx' dc' mode' most' b' tb' st' od' u' u2' oc' g' hs' ts' L9' h9' tk9'
  have hw := write_spec_a.walk
  with_unfolding_all exact hk (α := (World) × (ExcName → Option Value) × (Str → Option Value) × (Str → Option Value) × (Heap) × (Heap) × (List Env) × (Env) × (Addr) × (Str → Option Value) × (List (Addr × Obj)) × (Shared) × (Nat) × (Nat) × (Option (List Code)) × (Value → Shared → Prop) × (Value → Shared → Prop) × (Addr) × (Addr) × (Addr) × (Mode) × (Int) × (Bts) × (Tok) × (FSt) × (Obj) × (Obj → List (Addr × Obj)) × (Obj → Obj → List (Addr × Obj)) × (Obj) × (Heap) × (Nat → Int) × (Nat → Tok) × (Addr) × (Heap) × (Nat)) (p := fun v => write_spec_a_pre.1 v.1 v.2.1 v.2.2.1 v.2.2.2.1 v.2.2.2.2.1 v.2.2.2.2.2.1 v.2.2.2.2.2.2.1 v.2.2.2.2.2.2.2.1 v.2.2.2.2.2.2.2.2.1 v.2.2.2.2.2.2.2.2.2.1 v.2.2.2.2.2.2.2.2.2.2.1 v.2.2.2.2.2.2.2.2.2.2.2.1 v.2.2.2.2.2.2.2.2.2.2.2.2.1 v.2.2.2.2.2.2.2.2.2.2.2.2.2.1 v.2.2.2.2.2.2.2.2.2.2.2.2.2.2.1 v.2.2.2.2.2.2.2.2.2.2.2.2.2.2.2.1 v.2.2.2.2.2.2.2.2.2.2.2.2.2.2.2.2.1 v.2.2.2.2.2.2.2.2.2.2.2.2.2.2.2.2.2.1 v.2.2.2.2.2.2.2.2.2.2.2.2.2.2.2.2.2.2.1 v.2.2.2.2.2.2.2.2.2.2.2.2.2.2.2.2.2.2.2.1 v.2.2.2.2.2.2.2.2.2.2.2.2.2.2.2.2.2.2.2.2.1 v.2.2.2.2.2.2.2.2.2.2.2.2.2.2.2.2.2.2.2.2.2.1 v.2.2.2.2.2.2.2.2.2.2.2.2.2.2.2.2.2.2.2.2.2.2.1 v.2.2.2.2.2.2.2.2.2.2.2.2.2.2.2.2.2.2.2.2.2.2.2.1 v.2.2.2.2.2.2.2.2.2.2.2.2.2.2.2.2.2.2.2.2.2.2.2.2.1 v.2.2.2.2.2.2.2.2.2.2.2.2.2.2.2.2.2.2.2.2.2.2.2.2.2.1 v.2.2.2.2.2.2.2.2.2.2.2.2.2.2.2.2.2.2.2.2.2.2.2.2.2.2.1 v.2.2.2.2.2.2.2.2.2.2.2.2.2.2.2.2.2.2.2.2.2.2.2.2.2.2.2.1 v.2.2.2.2.2.2.2.2.2.2.2.2.2.2.2.2.2.2.2.2.2.2.2.2.2.2.2.2.1 v.2.2.2.2.2.2.2.2.2.2.2.2.2.2.2.2.2.2.2.2.2.2.2.2.2.2.2.2.2.1 v.2.2.2.2.2.2.2.2.2.2.2.2.2.2.2.2.2.2.2.2.2.2.2.2.2.2.2.2.2.2.1 v.2.2.2.2.2.2.2.2.2.2.2.2.2.2.2.2.2.2.2.2.2.2.2.2.2.2.2.2.2.2.2.1 v.2.2.2.2.2.2.2.2.2.2.2.2.2.2.2.2.2.2.2.2.2.2.2.2.2.2.2.2.2.2.2.2.1 v.2.2.2.2.2.2.2.2.2.2.2.2.2.2.2.2.2.2.2.2.2.2.2.2.2.2.2.2.2.2.2.2.2.1 v.2.2.2.2.2.2.2.2.2.2.2.2.2.2.2.2.2.2.2.2.2.2.2.2.2.2.2.2.2.2.2.2.2.2) hw (w', mean', mg', mb', base', h₀', outer', env', L', m', news', s', dp', un', gd', Q', E', x', dx', dc', mode', most', b', tb', st', od', u', u2', oc', g', hs', ts', L9', h9', tk9')
theorem write_spec {w : World} {mean : ExcName → Option Value} {mg mb : Str → Option Value} {A₀ : Around} {base h₀ : Heap} {outer : List Env} {env : Env} {L : Addr} {m : Str → Option Value} {news : List (Addr × Obj)} {s : Shared} {dp un : Nat} {gd : Option (List Code)} {Q E : Value → Shared → Prop} (H : Here w mean mg mb A₀ base h₀ outer env L m news s.heap) (hd : dp + 40 < recursionLimit) (hu : un + 400 < cLine) {x dx dc : Addr} {mode : Mode} {most : Int} {b : Bts} {tb : Tok} {st : FSt} {od : Obj} {u : Obj → List (Addr × Obj)} {u2 : Obj → Obj → List (Addr × Obj)}
    {oc : Obj} (hod : FileObj dc mode.s (Str.ofString "sequential") most st od) (hx : (x, instObj 168 dx) ∈ news) (U : UpdF dx od news u) (U2 : ∀ x, UpdF dc oc (u x) (u2 x)) (hdx : (dx, od) ∈ news) (hdc : (dc, oc) ∈ news) (R : RowsO w oc st.rows) (hcd : @Ne Nat dc dx) (lo : (dc == sysModules) = false) (hl : st.rows.length < 64)
    (ret : ∀ h' tk' od' oc' t1, Fr h₀ L h' m → News h₀ L h' (u2 od' oc') → FileObj dc mode.s (Str.ofString "sequential") most (fWrite mode most b st).2 od' → RowsO w oc' (fWrite mode most b st).2.rows → Q (.str (fWrite mode most b st).1 t1) { s with heap := h', toks := tk' }) :
    wpAny (model PySem.Challenge.rw_og0083_01.row.prog w) (aro dp un gd (env :: outer)) (call (.ref 137) [.ref x, .bytes b tb]) Q E s := by
  exact write_spec_a_pre.2 write_spec_a_all w mean mg mb A₀ base h₀ outer env L m news s dp un gd Q E H hd hu x dx dc mode most b tb st od u u2 oc hod hx U U2 hdx hdc R hcd lo hl ret
end
open PyProof.Rows.LCg PyProof.Rows.LCt
noncomputable def SrcW (prog : Program) (w : World) (A : Around) (h₀ : Heap) (L : Addr) (n : Nat) (P : Nat → Value → Prop) (S : List (Addr × Obj) → Prop) (xv : Value) (s₁ : Shared) : Prop :=
  ∀ (Q E : Value → Shared → Prop), (∀ I fp St h₁, Walks prog w A I fp [I] n P St → (∀ i h, St i h → ∃ o, h.get? I = some o) →
    (∀ i h h' o nw, St i h → h.get? I = some o → h'.get? I = some o → (∀ b o, h₀.get? b = some o → h'.get? b = some o) → News h₀ L h' nw → S nw → St i h') → St 0 h₁ → (∀ b ∈ fp, b < h₁.objs.size) → I = s₁.heap.objs.size →
    (∀ b o, s₁.heap.get? b = some o → h₁.get? b = some o) → Q (.ref I) { s₁ with heap := h₁ }) → wpAny (model prog w) A (pyIter xv) Q E s₁

noncomputable def CSrcU (prog : Program) (w : World) (A : Around) (h₀ : Heap) (L : Addr) (m : Str → Option Value) (env : Env) (elt : Expr) (x : Str) (scope : Scope) (cl : List (Str × Addr)) (Fin : Shared → List Value → List (Addr × Obj) → Prop) (xv : Value) (s₁ : Shared) : Prop :=
  ∃ n P S news, SrcW prog w A h₀ L n P S xv s₁ ∧ n ≤ sizeLine ∧ Fr h₀ L s₁.heap m ∧ News h₀ L s₁.heap news ∧ S news ∧
    ∀ s₂ : Shared, (∃ h, s₂ = { s₁ with heap := h }) → CompRest prog w A h₀ L m env elt x scope cl s₂ S P (Fin s₂) n 0 [] news
section
variable {prog : Program} {w : World} {A : Around} {E : Value → Shared → Prop} {s : Shared} {h₀ : Heap} {L : Addr} {m : Str → Option Value} {env : Env}
theorem lc_U {elt iter : Expr} {x : Str} {px : Pos} {scope : Scope} {cl : List (Str × Addr)} {pos : Pos} {Q : Value → Shared → Prop} (F₀ : Fr h₀ L s.heap m)
    (hclos : closureFor scope env = pure cl) (hcell : ∀ y ∈ scope.names, y.2 ≠ .cell) (hkind : scope.kind = .function)
    (hnames : ∀ y ∈ scope.names, y.2 = .local → scope.names.lookup y.1 = some .local) (hx : scope.names.lookup x = some .local)
    (h : wpAny (model prog w) A (eval iter env) (CSrcU prog w A h₀ L m env elt x scope cl (fun s₂ => FinE h₀ L m s₂ Q)) E s)
    (hs : ∀ x, foldedSetIterable iter env x = pure x := by intro _; rfl) :
    wpAny (model prog w) A (eval (.ListComp elt [⟨.Name x px, iter, [], 0⟩] scope pos) env) Q E s := by
  rw [eval_ListComp]
  refine wpAny_comprehension_free (use := none) rfl hs hclos hkind hnames (wpAny_mono h (fun xv s₁ h₁ => ?_) fun _ _ e => e)
  obtain ⟨n, P, S, news, W, hsz, F, N, hS, R⟩ := h₁
  refine W _ _ fun I fp St h₁ Wk hIo hSt h0 hfp hI up => ?_
  have hIlt : ∀ b, b < s₁.heap.objs.size → b ≠ I := fun b hb => by rw [hI]; exact Nat.ne_of_lt hb
  refine block_U (s₂ := { s₁ with heap := h₁ }) Wk hsz hIo hSt hcell hkind hx h0 hfp (F.keeps up) (N.grown up) (hIlt _ F.ns.lt) (by rw [hI]; exact next_is_new F) (fun p hp => hIlt _ (Heap.lt_size (N p hp).1)) hS (R _ ⟨_, rfl⟩) ?_
  intro D C h tk m' ys news' F' N' o1 hn hC₀ hD₀ hCL hDL hCD offC fin
  refine ⟨m', hn, fun h'' hs'' => fin D h'' tk (F'.change hs'' hCL hC₀) (fun p hp => ?_) o1⟩
  refine ⟨hs''.extBut _ _ ?_ (N' p hp).1, (N' p hp).2⟩
  rcases List.mem_cons.mp hp with rfl | hp
  · exact Ne.symm hCD
  · exact offC p hp
theorem as_U {elt iter : Expr} {x y : Str} {px py : Pos} {scope : Scope} {cl : List (Str × Addr)} {pos spos : Pos} {Q : Flow → Shared → Prop} (F₀ : Fr h₀ L s.heap m) (hLe : env.locals = L)
    (hsw : swapsWith (.ListComp elt [⟨.Name x px, iter, [], 0⟩] scope pos) (some (.Name y py)) spos.line env = pure true)
    (hclos : closureFor scope env = pure cl) (hcell : ∀ z ∈ scope.names, z.2 ≠ .cell) (hkind : scope.kind = .function)
    (hnames : ∀ z ∈ scope.names, z.2 = .local → scope.names.lookup z.1 = some .local) (hx : scope.names.lookup x = some .local)
    (hy : env.kindOf y = some .local) (hp : (env.scope.kind == .class || (env.scope.kind == .module && env.locals != env.globals)) = false)
    (h : wpAny (model prog w) A (eval iter env) (CSrcU prog w A h₀ L m env elt x scope cl (fun s₂ => FinA h₀ L m s₂ y Q)) E s)
    (hs : ∀ x, foldedSetIterable iter env x = pure x := by intro _; rfl) :
    wpAny (model prog w) A (exec (.Assign [.Name y py] (.ListComp elt [⟨.Name x px, iter, [], 0⟩] scope pos) spos) env) Q E s := by
  subst hLe
  rw [exec_Assign_Name_used _ _ _ _ hsw]
  refine wpAny_bind (wpAny_standAt (wpAny_bind ?_))
  show wpAny _ A (do let _ ← comprehension (.ListComp elt [⟨.Name x px, iter, [], 0⟩] scope pos) scope env _ (newList []) false (eval iter env) (some (assign (.Name y py) env))) _ _ s
  refine wpAny_bind (wpAny_mono (wpAny_comprehension_free (use := some (assign (.Name y py) env)) (Q := fun _ s' => Q .next s') rfl hs hclos hkind hnames
    (wpAny_mono h (fun xv s₁ h₁ => ?_) fun _ _ e => e)) (fun _ s' hq => wpAny_pure (wpAny_pure hq)) fun _ _ e => e)
  obtain ⟨n, P, S, news, W, hsz, F, N, hS, R⟩ := h₁
  refine W _ _ fun I fp St h₁ Wk hIo hSt h0 hfp hI up => ?_
  have hIlt : ∀ b, b < s₁.heap.objs.size → b ≠ I := fun b hb => by rw [hI]; exact Nat.ne_of_lt hb
  refine block_U (s₂ := { s₁ with heap := h₁ }) Wk hsz hIo hSt hcell hkind hx h0 hfp (F.keeps up) (N.grown up) (hIlt _ F.ns.lt) (by rw [hI]; exact next_is_new F) (fun p hp => hIlt _ (Heap.lt_size (N p hp).1)) hS (R _ ⟨_, rfl⟩) ?_
  intro D C h' tk m' ys news' F' N' o1 hn hC₀ hD₀ hCL hDL hCD offC fin
  show wpAny _ A (assign (.Name y py) env (.ref D)) _ _ _
  refine wpAny_assign_Name (wpAny_storeName_local hy F'.ns (fun h₂ hn₂ hs₂ => ?_) hp)
  have hL₀ : h₀.get? env.locals = none := Heap.get?_none_of_le F'.above
  have F₂ : Fr h₀ env.locals h₂ (fun z => if z = y then some (.ref D) else m z) := ⟨hn₂, fun b o e => hs₂.extBut b o (fun q => by rw [q, hL₀] at e; cases e) (F'.keep b o e), F'.above⟩
  refine ⟨m', hn.sameBut hs₂ hCL, fun h'' hs'' => fin D h'' _ (F₂.change hs'' hCL hC₀) (fun p hp => ?_) o1⟩
  have z : h₂.get? p.1 = some p.2 := hs₂.extBut _ _ (N' p hp).2.1 (N' p hp).1
  refine ⟨hs''.extBut _ _ ?_ z, (N' p hp).2⟩
  rcases List.mem_cons.mp hp with rfl | hp
  · exact Ne.symm hCD
  · exact offC p hp
end

noncomputable def CSrcT (prog : Program) (w : World) (A : Around) (h₀ : Heap) (L : Addr) (m : Str → Option Value) (env : Env) (ct elt : Expr) (x : Str) (scope : Scope) (cl : List (Str × Addr)) (Fin : Shared → List Value → List (Addr × Obj) → Prop) (xv : Value) (s₁ : Shared) : Prop :=
  ∃ n P S news, SrcW prog w A h₀ L n P S xv s₁ ∧ n ≤ sizeLine ∧ Fr h₀ L s₁.heap m ∧ News h₀ L s₁.heap news ∧ S news ∧
    ∀ s₂ : Shared, (∃ h, s₂ = { s₁ with heap := h }) → CompRestT prog w A h₀ L m env ct elt x scope cl s₂ S P (Fin s₂) n 0 [] news
section
variable {prog : Program} {w : World} {A : Around} {E : Value → Shared → Prop} {s : Shared} {h₀ : Heap} {L : Addr} {m : Str → Option Value} {env : Env}
theorem lc_T {ct elt iter : Expr} {x : Str} {px : Pos} {scope : Scope} {cl : List (Str × Addr)} {pos : Pos} {Q : Value → Shared → Prop} (F₀ : Fr h₀ L s.heap m)
    (hclos : closureFor scope env = pure cl) (hcell : ∀ y ∈ scope.names, y.2 ≠ .cell) (hkind : scope.kind = .function)
    (hnames : ∀ y ∈ scope.names, y.2 = .local → scope.names.lookup y.1 = some .local) (hx : scope.names.lookup x = some .local)
    (h : wpAny (model prog w) A (eval iter env) (CSrcT prog w A h₀ L m env ct elt x scope cl (fun s₂ => FinE h₀ L m s₂ Q)) E s)
    (hs : ∀ x, foldedSetIterable iter env x = pure x := by intro _; rfl) :
    wpAny (model prog w) A (eval (.ListComp elt [⟨.Name x px, iter, [ct], 0⟩] scope pos) env) Q E s := by
  rw [eval_ListComp]
  refine wpAny_comprehension_free (use := none) rfl hs hclos hkind hnames (wpAny_mono h (fun xv s₁ h₁ => ?_) fun _ _ e => e)
  obtain ⟨n, P, S, news, W, hsz, F, N, hS, R⟩ := h₁
  refine W _ _ fun I fp St h₁ Wk hIo hSt h0 hfp hI up => ?_
  have hIlt : ∀ b, b < s₁.heap.objs.size → b ≠ I := fun b hb => by rw [hI]; exact Nat.ne_of_lt hb
  refine block_T (s₂ := { s₁ with heap := h₁ }) Wk hsz hIo hSt hcell hkind hx h0 hfp (F.keeps up) (N.grown up) (hIlt _ F.ns.lt) (by rw [hI]; exact next_is_new F) (fun p hp => hIlt _ (Heap.lt_size (N p hp).1)) hS (R _ ⟨_, rfl⟩) ?_
  intro D C h tk m' ys news' F' N' o1 hn hC₀ hD₀ hCL hDL hCD offC fin
  refine ⟨m', hn, fun h'' hs'' => fin D h'' tk (F'.change hs'' hCL hC₀) (fun p hp => ?_) o1⟩
  refine ⟨hs''.extBut _ _ ?_ (N' p hp).1, (N' p hp).2⟩
  rcases List.mem_cons.mp hp with rfl | hp
  · exact Ne.symm hCD
  · exact offC p hp
theorem as_T {ct elt iter : Expr} {x y : Str} {px py : Pos} {scope : Scope} {cl : List (Str × Addr)} {pos spos : Pos} {Q : Flow → Shared → Prop} (F₀ : Fr h₀ L s.heap m) (hLe : env.locals = L)
    (hsw : swapsWith (.ListComp elt [⟨.Name x px, iter, [ct], 0⟩] scope pos) (some (.Name y py)) spos.line env = pure true)
    (hclos : closureFor scope env = pure cl) (hcell : ∀ z ∈ scope.names, z.2 ≠ .cell) (hkind : scope.kind = .function)
    (hnames : ∀ z ∈ scope.names, z.2 = .local → scope.names.lookup z.1 = some .local) (hx : scope.names.lookup x = some .local)
    (hy : env.kindOf y = some .local) (hp : (env.scope.kind == .class || (env.scope.kind == .module && env.locals != env.globals)) = false)
    (h : wpAny (model prog w) A (eval iter env) (CSrcT prog w A h₀ L m env ct elt x scope cl (fun s₂ => FinA h₀ L m s₂ y Q)) E s)
    (hs : ∀ x, foldedSetIterable iter env x = pure x := by intro _; rfl) :
    wpAny (model prog w) A (exec (.Assign [.Name y py] (.ListComp elt [⟨.Name x px, iter, [ct], 0⟩] scope pos) spos) env) Q E s := by
  subst hLe
  rw [exec_Assign_Name_used _ _ _ _ hsw]
  refine wpAny_bind (wpAny_standAt (wpAny_bind ?_))
  show wpAny _ A (do let _ ← comprehension (.ListComp elt [⟨.Name x px, iter, [ct], 0⟩] scope pos) scope env _ (newList []) false (eval iter env) (some (assign (.Name y py) env))) _ _ s
  refine wpAny_bind (wpAny_mono (wpAny_comprehension_free (use := some (assign (.Name y py) env)) (Q := fun _ s' => Q .next s') rfl hs hclos hkind hnames
    (wpAny_mono h (fun xv s₁ h₁ => ?_) fun _ _ e => e)) (fun _ s' hq => wpAny_pure (wpAny_pure hq)) fun _ _ e => e)
  obtain ⟨n, P, S, news, W, hsz, F, N, hS, R⟩ := h₁
  refine W _ _ fun I fp St h₁ Wk hIo hSt h0 hfp hI up => ?_
  have hIlt : ∀ b, b < s₁.heap.objs.size → b ≠ I := fun b hb => by rw [hI]; exact Nat.ne_of_lt hb
  refine block_T (s₂ := { s₁ with heap := h₁ }) Wk hsz hIo hSt hcell hkind hx h0 hfp (F.keeps up) (N.grown up) (hIlt _ F.ns.lt) (by rw [hI]; exact next_is_new F) (fun p hp => hIlt _ (Heap.lt_size (N p hp).1)) hS (R _ ⟨_, rfl⟩) ?_
  intro D C h' tk m' ys news' F' N' o1 hn hC₀ hD₀ hCL hDL hCD offC fin
  show wpAny _ A (assign (.Name y py) env (.ref D)) _ _ _
  refine wpAny_assign_Name (wpAny_storeName_local hy F'.ns (fun h₂ hn₂ hs₂ => ?_) hp)
  have hL₀ : h₀.get? env.locals = none := Heap.get?_none_of_le F'.above
  have F₂ : Fr h₀ env.locals h₂ (fun z => if z = y then some (.ref D) else m z) := ⟨hn₂, fun b o e => hs₂.extBut b o (fun q => by rw [q, hL₀] at e; cases e) (F'.keep b o e), F'.above⟩
  refine ⟨m', hn.sameBut hs₂ hCL, fun h'' hs'' => fin D h'' _ (F₂.change hs'' hCL hC₀) (fun p hp => ?_) o1⟩
  have z : h₂.get? p.1 = some p.2 := hs₂.extBut _ _ (N' p hp).2.1 (N' p hp).1
  refine ⟨hs''.extBut _ _ ?_ z, (N' p hp).2⟩
  rcases List.mem_cons.mp hp with rfl | hp
  · exact Ne.symm hCD
  · exact offC p hp
end

section
variable {prog : Program} {w : World} {A : Around} {E : Value → Shared → Prop} {s : Shared} {h₀ : Heap} {L : Addr} {m : Str → Option Value} {env : Env}
theorem rest_U {elt : Expr} {x : Str} {scope : Scope} {cl : List (Str × Addr)} {S : List (Addr × Obj) → Prop} {P : Nat → Value → Prop} {Fin : List Value → List (Addr × Obj) → Prop} {n : Nat}
    (J : Nat → List Value → List (Addr × Obj) → Prop)
    (turn : ∀ i ys nx v I oI C oC D m₂ h tk (E' : Value → Shared → Prop), i < n → J i ys nx → P i v → NsObj oC m₂ → m₂ x = some v → Fr h₀ L h m → News h₀ L h ((I, oI) :: (C, oC) :: (D, lst ys) :: nx) → Off3 I C D nx → ((@Ne Nat I C) ∧ (@Ne Nat I D) ∧ (@Ne Nat C D)) →
      wpAny (model prog w) A (eval elt (compEnvC scope cl C env)) (CompEnd h₀ L m { s with heap := h, toks := tk } I oI C oC D (lst ys) S (fun y nx' => J (i + 1) (ys ++ [y]) nx')) E' { s with heap := h, toks := tk })
    (fin : ∀ ys nx, J n ys nx → Fin ys nx) : ∀ (k i : Nat) ys nx, i + k = n → J i ys nx → CompRest prog w A h₀ L m env elt x scope cl s S P Fin k i ys nx := by
  intro k
  induction k with
  | zero => intro i ys nx hi hJ; exact fin _ _ (by have : i = n := by omega
                                                   subst this; exact hJ)
  | succ k ih =>
    intro i ys nx hi hJ v I oI C oC D m₂ h tk E' hP hC hx F N off ne
    refine wpAny_mono (turn i ys nx v I oI C oC D m₂ h tk E' (by omega) hJ hP hC hx F N off ne) (fun y s' hc => ?_) fun _ _ e => e
    obtain ⟨h', tk', nx', e, F', N', o', hS, hJ'⟩ := hc
    exact ⟨h', tk', nx', e, F', N', o', hS, ih (i + 1) _ _ (by omega) hJ'⟩
theorem rest_T {ct elt : Expr} {x : Str} {scope : Scope} {cl : List (Str × Addr)} {S : List (Addr × Obj) → Prop} {P : Nat → Value → Prop} {Fin : List Value → List (Addr × Obj) → Prop} {n : Nat}
    (J : Nat → List Value → List (Addr × Obj) → Prop)
    (turn : ∀ i ys nx v I oI C oC D m₂ h tk (E' : Value → Shared → Prop), i < n → J i ys nx → P i v → NsObj oC m₂ → m₂ x = some v → Fr h₀ L h m → News h₀ L h ((I, oI) :: (C, oC) :: (D, lst ys) :: nx) → Off3 I C D nx → ((@Ne Nat I C) ∧ (@Ne Nat I D) ∧ (@Ne Nat C D)) →
      wpAny (model prog w) A (isTrue ct (compEnvC scope cl C env) (eval ct (compEnvC scope cl C env))) (fun ok s' => if ok = true then
        wpAny (model prog w) A (eval elt (compEnvC scope cl C env)) (CompEnd h₀ L m { s with heap := h, toks := tk } I oI C oC D (lst ys) S (fun y nx' => J (i + 1) (ys ++ [y]) nx')) E' s'
        else CompEnd h₀ L m { s with heap := h, toks := tk } I oI C oC D (lst ys) S (fun _ nx' => J (i + 1) ys nx') Value.none s') E' { s with heap := h, toks := tk })
    (fin : ∀ ys nx, J n ys nx → Fin ys nx) : ∀ (k i : Nat) ys nx, i + k = n → J i ys nx → CompRestT prog w A h₀ L m env ct elt x scope cl s S P Fin k i ys nx := by
  intro k
  induction k with
  | zero => intro i ys nx hi hJ; exact fin _ _ (by have : i = n := by omega
                                                   subst this; exact hJ)
  | succ k ih =>
    intro i ys nx hi hJ v I oI C oC D m₂ h tk E' hP hC hx F N off ne
    refine wpAny_mono (turn i ys nx v I oI C oC D m₂ h tk E' (by omega) hJ hP hC hx F N off ne) (fun ok s' hc => ?_) fun _ _ e => e
    have up : ∀ {ys' : Value → List Value} {y : Value} {s' : Shared}, CompEnd h₀ L m { s with heap := h, toks := tk } I oI C oC D (lst ys) S (fun y nx' => J (i + 1) (ys' y) nx') y s' →
        CompEnd h₀ L m { s with heap := h, toks := tk } I oI C oC D (lst ys) S (fun y nx' => CompRestT prog w A h₀ L m env ct elt x scope cl s S P Fin k (i + 1) (ys' y) nx') y s' := by
      intro ys' y s' hc
      obtain ⟨h', tk', nx', e, F', N', o', hS, hJ'⟩ := hc
      exact ⟨h', tk', nx', e, F', N', o', hS, ih (i + 1) _ _ (by omega) hJ'⟩
    cases ok with
    | true => simp only [if_true] at hc ⊢; exact wpAny_mono hc (fun y s' q => up (ys' := fun y => ys ++ [y]) q) fun _ _ e => e
    | false => simp only [Bool.false_eq_true, if_false] at hc ⊢; exact up (ys' := fun _ => ys) hc

theorem src_list {ax : Addr} {its : Array Value} (hh : A.handled = none) (hl : s.heap.IsList ax its) : SrcW prog w A h₀ L its.size (fun i v => its[i]? = some v) (SrcAt h₀ ax its) (.ref ax) s := by
  intro Q E k
  have hlt : ax < s.heap.objs.size := by obtain ⟨_, e, _⟩ := hl; exact Heap.lt_size e
  refine wpAny_pyIter_list hl (k _ _ _ _ (Walks.list hh s.heap.objs.size ax (Nat.ne_of_lt hlt) its) (fun i h st => by obtain ⟨o, e, _⟩ := st.1; exact ⟨o, e⟩) list_st ⟨⟨_, Heap.get?_push_size _ rfl, rfl, rfl⟩, hl.push _⟩ (fun b hb => ?_) rfl fun _ _ e => Heap.get?_push_of_some _ e)
  rw [Heap.size_push]
  rcases List.mem_cons.mp hb with rfl | hb
  · exact Nat.lt_succ_self _
  · rw [List.mem_singleton.mp hb]; exact Nat.lt_succ_of_lt hlt
noncomputable def SrcTp (h₀ : Heap) (ax : Addr) (its : Array Value) (news : List (Addr × Obj)) : Prop := h₀.IsTuple ax its ∨ ∃ o, (ax, o) ∈ news ∧ o.cls = .type "tuple" ∧ ∃ n, o.data = .seq its n
theorem SrcTp.tuple {h : Heap} {ax : Addr} {its : Array Value} {news : List (Addr × Obj)} (x : SrcTp h₀ ax its news) (k : ∀ b o, h₀.get? b = some o → h.get? b = some o) (N : News h₀ L h news) : h.IsTuple ax its := by
  rcases x with ⟨o, e, r⟩ | ⟨o, hm, r⟩
  · exact ⟨o, k _ _ e, r⟩
  · exact ⟨o, (N _ hm).1, r⟩
theorem src_tuple {ax : Addr} {its : Array Value} (hh : A.handled = none) (hl : s.heap.IsTuple ax its) : SrcW prog w A h₀ L its.size (fun i v => its[i]? = some v) (SrcTp h₀ ax its) (.ref ax) s := by
  intro Q E k
  have hlt : ax < s.heap.objs.size := by obtain ⟨_, e, _⟩ := hl; exact Heap.lt_size e
  refine wpAny_pyIter_tuple hl (k _ _ _ _ (Walks.tuple hh s.heap.objs.size ax (Nat.ne_of_lt hlt) its) (fun i h st => by obtain ⟨o, e, _⟩ := st.1; exact ⟨o, e⟩)
    (fun i h h' o nw st e e' k N S => ⟨by obtain ⟨o', q, r⟩ := st.1; rw [e] at q; cases q; exact ⟨o, e', r⟩, S.tuple k N⟩) ⟨⟨_, Heap.get?_push_size _ rfl, rfl, rfl⟩, hl.push _⟩ (fun b hb => ?_) rfl fun _ _ e => Heap.get?_push_of_some _ e)
  rw [Heap.size_push]
  rcases List.mem_cons.mp hb with rfl | hb
  · exact Nat.lt_succ_self _
  · rw [List.mem_singleton.mp hb]; exact Nat.lt_succ_of_lt hlt
theorem src_range {r : Addr} {a b : Int} {t u v : Tok} {n : Nat} (hh : A.handled = none) (hr : IsRange s.heap r a b 1 t u v) (hsm : Builtin.Range.small a b 1 = true) (hn : Builtin.Range.rangeSize a b 1 = ((n : Nat) : Int)) :
    SrcW prog w A h₀ L n (fun i v => ∃ t, v = .int (a + (i : Int)) t) (fun _ => True) (.ref r) s := by
  intro Q E k
  refine wpAny_pyIter_range hr hsm (k _ _ _ _ (range_walks hh a n) (fun i h st => ⟨_, st⟩) range_st (by show IsRangeIter _ _ _ _ _; rw [hn]; simpa using Heap.get?_push_size _ rfl) (fun b hb => ?_) rfl fun _ _ e => Heap.get?_push_of_some _ e)
  rw [List.mem_singleton.mp hb]
  show s.heap.objs.size < (s.heap.push _).objs.size
  rw [Heap.size_push]; exact Nat.lt_succ_self _
noncomputable def SrcRw (w : World) (h₀ : Heap) (d : Addr) (o : Obj) (news : List (Addr × Obj)) : Prop := h₀.get? d = some o ∨ (d, o) ∈ news
theorem SrcRw.get {h : Heap} {d : Addr} {o : Obj} {news : List (Addr × Obj)} (x : SrcRw w h₀ d o news) (k : ∀ b o, h₀.get? b = some o → h.get? b = some o) (N : News h₀ L h news) : h.get? d = some o := by
  rcases x with x | x
  · exact k _ _ x
  · exact (N _ x).1
end
section
variable {w : World} {A : Around} {E : Value → Shared → Prop} {s : Shared} {h₀ : Heap} {L : Addr} {m : Str → Option Value} {env : Env}
theorem src_rows {d : Addr} {o : Obj} {r : RowsT} (hh : A.handled = none) (hd : s.heap.get? d = some o) (R : RowsO w o r) (lo : (d == sysModules) = false) :
    SrcW PySem.Challenge.rw_og0083_01.row.prog w A h₀ L r.length (fun i v => ∃ t, v = .int ((rkeys r).getD i 0) t) (SrcRw w h₀ d o) (.ref d) s := by
  obtain ⟨kvs, hD, bp⟩ := R
  rw [← bp.length]
  intro Q E k
  obtain ⟨ep, hat⟩ := (Heap.dictOf_iff.mpr ⟨o, hd, hD⟩ : s.heap.DictOf (PySem.intKind PySem.Challenge.rw_og0083_01.row.prog w) d kvs).dictAt
  have hlt : d < s.heap.objs.size := Heap.lt_size hd
  let W := Walks.dictKeys (prog := PySem.Challenge.rw_og0083_01.row.prog) (w := w) (knd := PySem.intKind PySem.Challenge.rw_og0083_01.row.prog w) hh s.heap.objs.size d (Nat.ne_of_lt hlt) kvs ep
  let W' : Walks PySem.Challenge.rw_og0083_01.row.prog w A s.heap.objs.size [s.heap.objs.size, d] [s.heap.objs.size] kvs.length (fun i v => ∃ t, v = .int ((rkeys r).getD i 0) t) (fun i h => (h.IsKeyIter s.heap.objs.size d i kvs.length ep ∧ h.DictAt (PySem.intKind PySem.Challenge.rw_og0083_01.row.prog w) d kvs ep) ∧ h.get? d = some o) :=
    { sub := W.sub,
      frame := fun i h h' x hk => ⟨W.frame i h h' x.1 hk, hk d (by simp) o x.2⟩,
      item := fun i s Q E hi st hQ => W.item i s Q E hi st.1 fun v h' tk hP hst hk => hQ v h' tk (walks_keys bp hP) ⟨hst, hk d o (by simpa using Nat.ne_of_lt hlt) st.2⟩ hk,
      done := fun s Q E st hQ => W.done s Q E st.1 hQ,
      self := fun i s Q E st hQ => W.self i s Q E st.1 hQ }
  refine wpAny_pyIter_dict lo hat (k _ _ _ _ W' (fun i h st => by obtain ⟨o, e, _⟩ := st.1.1; exact ⟨o, e⟩)
    (fun i h h' oI nw st e e' k N S => ?_) ⟨⟨⟨_, Heap.get?_push_size _ rfl, rfl, rfl⟩, hat.push _⟩, Heap.get?_push_of_some _ hd⟩ (fun b hb => ?_) rfl fun _ _ e => Heap.get?_push_of_some _ e)
  · have hd' := S.get k N
    refine ⟨⟨?_, ?_⟩, hd'⟩
    · obtain ⟨o', q, r⟩ := st.1.1; rw [e] at q; cases q; exact ⟨_, e', r⟩
    · exact st.1.2.at' fun o' e1 => by rw [st.2] at e1; cases e1; exact hd'
  · rw [Heap.size_push]
    rcases List.mem_cons.mp hb with rfl | hb
    · exact Nat.lt_succ_self _
    · rw [List.mem_singleton.mp hb]; exact Nat.lt_succ_of_lt hlt
end
section

set_option maxHeartbeats 8000000 in
noncomputable def rewrite_spec_a_pre : (Pa : (World) → (ExcName → Option Value) → (Str → Option Value) → (Str → Option Value) → (Heap) → (Heap) → (List Env) → (Env) → (Addr) → (Str → Option Value) → (List (Addr × Obj)) → (Shared) → (Nat) → (Nat) → (Option (List Code)) → (Value → Shared → Prop) → (Value → Shared → Prop) → (Addr) → (Addr) → (Addr) → (Int) → (Bts) → (Tok) → (FSt) → (Obj) → (Obj → List (Addr × Obj)) → (Obj → Obj → List (Addr × Obj)) → (Obj) → (Heap) → (Nat → Int) → (Nat → Tok) → (Addr) → (Heap) → (Nat) → Prop) ×' ((∀ w mean mg mb base h₀ outer env L m news s dp un gd Q E x dx dc most b tb st od u u2 oc g hs ts L9 h9 tk9, Pa w mean mg mb base h₀ outer env L m news s dp un gd Q E x dx dc most b tb st od u u2 oc g hs ts L9 h9 tk9) → (∀ (w : World) (mean : ExcName → Option Value) (mg mb : Str → Option Value) (A₀ : Around) (base h₀ : Heap) (outer : List Env) (env : Env) (L : Addr) (m : Str → Option Value) (news : List (Addr × Obj)) (s : Shared) (dp un : Nat) (gd : Option (List Code)) (Q E : Value → Shared → Prop) (H : Here w mean mg mb A₀ base h₀ outer env L m news s.heap) (hd : dp + 40 < recursionLimit) (hu : un + 400 < cLine) (x dx dc : Addr) (mode : Mode) (most : Int) (b : Bts) (tb : Tok) (st : FSt) (od : Obj) (u : Obj → List (Addr × Obj)) (u2 : Obj → Obj → List (Addr × Obj)) (oc : Obj) (hod : FileObj dc mode.s (Str.ofString "sequential") most st od) (hx : (x, instObj 168 dx) ∈ news) (U : UpdF dx od news u) (U2 : ∀ x, UpdF dc oc (u x) (u2 x)) (hdx : (dx, od) ∈ news) (hdc : (dc, oc) ∈ news) (R : RowsO w oc st.rows) (hcd : @Ne Nat dc dx) (lo : (dc == sysModules) = false) (hl : st.rows.length < 64) (ret : ∀ h' tk' od' oc' t1, Fr h₀ L h' m → News h₀ L h' (u2 od' oc') → FileObj dc mode.s (Str.ofString "sequential") most (fRewrite mode b st).2 od' → RowsO w oc' (fRewrite mode b st).2.rows → Q (.str (fRewrite mode b st).1 t1) { s with heap := h', toks := tk' }), wpAny (model PySem.Challenge.rw_og0083_01.row.prog w) (aro dp un gd (env :: outer)) (call (.ref 152) [.ref x, .bytes b tb]) Q E s)) := by
  refine' ⟨_, fun hPa => ?_⟩
  rotate_left 1
  · skip
    intro w mean mg mb A₀ base h₀ outer env L m news s dp un gd Q E H hd hu x dx dc mode most b tb st od u u2 oc hod hx U U2 hdx hdc R hcd lo hl ret
    refine file_cut (dp := dp) (un := un) (gd := gd) H hod hx hdx hdc R (fun g hs ts C st' B X T fr kp ns hN hxd hxc => ?_)
    clear H
    (revert C T; revert X; k_fill; intro X C T)
    refine wpAny_call ?_
    walk_at "S enter"
    rename_i L9 h9 tk9 F9 N9 l9
    k_sweep
    revert l9; revert N9; revert F9; revert T; revert C; revert X; revert hxc; revert hxd; revert hN; revert ns; revert kp; revert fr; revert B; revert st'; revert ret; revert hl; revert lo; revert hcd; revert R; revert hdc; revert hdx; revert U2; revert U; revert hx; revert hod; revert mode; revert hu; revert hd
    exact hPa w mean mg mb base h₀ outer env L m news s dp un gd Q E x dx dc most b tb st od u u2 oc g hs ts L9 h9 tk9
noncomputable def rewrite_spec_a_v : (World) × (ExcName → Option Value) × (Str → Option Value) × (Str → Option Value) × (Heap) × (Heap) × (List Env) × (Env) × (Addr) × (Str → Option Value) × (List (Addr × Obj)) × (Shared) × (Nat) × (Nat) × (Option (List Code)) × (Value → Shared → Prop) × (Value → Shared → Prop) × (Addr) × (Addr) × (Addr) × (Int) × (Bts) × (Tok) × (FSt) × (Obj) × (Obj → List (Addr × Obj)) × (Obj → Obj → List (Addr × Obj)) × (Obj) × (Heap) × (Nat → Int) × (Nat → Tok) × (Addr) × (Heap) × (Nat) := @Classical.epsilon _ ⟨(w0, (fun _ => none), (fun _ => none), (fun _ => none), {}, {}, [], default, 0, (fun _ => none), [], {}, 0, 0, none, (fun _ => (fun _ => True)), (fun _ => (fun _ => True)), 0, 0, 0, 0, default, 0, ⟨[], 0, true, true, 0, 0⟩, default, (fun _ => []), (fun _ => (fun _ => [])), default, {}, (fun _ => 0), (fun _ => 0), 0, {}, 0)⟩ fun v => ¬ rewrite_spec_a_pre.1 v.1 v.2.1 v.2.2.1 v.2.2.2.1 v.2.2.2.2.1 v.2.2.2.2.2.1 v.2.2.2.2.2.2.1 v.2.2.2.2.2.2.2.1 v.2.2.2.2.2.2.2.2.1 v.2.2.2.2.2.2.2.2.2.1 v.2.2.2.2.2.2.2.2.2.2.1 v.2.2.2.2.2.2.2.2.2.2.2.1 v.2.2.2.2.2.2.2.2.2.2.2.2.1 v.2.2.2.2.2.2.2.2.2.2.2.2.2.1 v.2.2.2.2.2.2.2.2.2.2.2.2.2.2.1 v.2.2.2.2.2.2.2.2.2.2.2.2.2.2.2.1 v.2.2.2.2.2.2.2.2.2.2.2.2.2.2.2.2.1 v.2.2.2.2.2.2.2.2.2.2.2.2.2.2.2.2.2.1 v.2.2.2.2.2.2.2.2.2.2.2.2.2.2.2.2.2.2.1 v.2.2.2.2.2.2.2.2.2.2.2.2.2.2.2.2.2.2.2.1 v.2.2.2.2.2.2.2.2.2.2.2.2.2.2.2.2.2.2.2.2.1 v.2.2.2.2.2.2.2.2.2.2.2.2.2.2.2.2.2.2.2.2.2.1 v.2.2.2.2.2.2.2.2.2.2.2.2.2.2.2.2.2.2.2.2.2.2.1 v.2.2.2.2.2.2.2.2.2.2.2.2.2.2.2.2.2.2.2.2.2.2.2.1 v.2.2.2.2.2.2.2.2.2.2.2.2.2.2.2.2.2.2.2.2.2.2.2.2.1 v.2.2.2.2.2.2.2.2.2.2.2.2.2.2.2.2.2.2.2.2.2.2.2.2.2.1 v.2.2.2.2.2.2.2.2.2.2.2.2.2.2.2.2.2.2.2.2.2.2.2.2.2.2.1 v.2.2.2.2.2.2.2.2.2.2.2.2.2.2.2.2.2.2.2.2.2.2.2.2.2.2.2.1 v.2.2.2.2.2.2.2.2.2.2.2.2.2.2.2.2.2.2.2.2.2.2.2.2.2.2.2.2.1 v.2.2.2.2.2.2.2.2.2.2.2.2.2.2.2.2.2.2.2.2.2.2.2.2.2.2.2.2.2.1 v.2.2.2.2.2.2.2.2.2.2.2.2.2.2.2.2.2.2.2.2.2.2.2.2.2.2.2.2.2.2.1 v.2.2.2.2.2.2.2.2.2.2.2.2.2.2.2.2.2.2.2.2.2.2.2.2.2.2.2.2.2.2.2.1 v.2.2.2.2.2.2.2.2.2.2.2.2.2.2.2.2.2.2.2.2.2.2.2.2.2.2.2.2.2.2.2.2.1 v.2.2.2.2.2.2.2.2.2.2.2.2.2.2.2.2.2.2.2.2.2.2.2.2.2.2.2.2.2.2.2.2.2
namespace rewrite_spec_a
noncomputable def w : World := rewrite_spec_a_v.1
noncomputable def mean : ExcName → Option Value := rewrite_spec_a_v.2.1
noncomputable def mg : Str → Option Value := rewrite_spec_a_v.2.2.1
noncomputable def mb : Str → Option Value := rewrite_spec_a_v.2.2.2.1
noncomputable def base : Heap := rewrite_spec_a_v.2.2.2.2.1
noncomputable def h₀ : Heap := rewrite_spec_a_v.2.2.2.2.2.1
noncomputable def outer : List Env := rewrite_spec_a_v.2.2.2.2.2.2.1
noncomputable def env : Env := rewrite_spec_a_v.2.2.2.2.2.2.2.1
noncomputable def L : Addr := rewrite_spec_a_v.2.2.2.2.2.2.2.2.1
noncomputable def m : Str → Option Value := rewrite_spec_a_v.2.2.2.2.2.2.2.2.2.1
noncomputable def news : List (Addr × Obj) := rewrite_spec_a_v.2.2.2.2.2.2.2.2.2.2.1
noncomputable def s : Shared := rewrite_spec_a_v.2.2.2.2.2.2.2.2.2.2.2.1
noncomputable def dp : Nat := rewrite_spec_a_v.2.2.2.2.2.2.2.2.2.2.2.2.1
noncomputable def un : Nat := rewrite_spec_a_v.2.2.2.2.2.2.2.2.2.2.2.2.2.1
noncomputable def gd : Option (List Code) := rewrite_spec_a_v.2.2.2.2.2.2.2.2.2.2.2.2.2.2.1
noncomputable def Q : Value → Shared → Prop := rewrite_spec_a_v.2.2.2.2.2.2.2.2.2.2.2.2.2.2.2.1
noncomputable def E : Value → Shared → Prop := rewrite_spec_a_v.2.2.2.2.2.2.2.2.2.2.2.2.2.2.2.2.1
noncomputable def x : Addr := rewrite_spec_a_v.2.2.2.2.2.2.2.2.2.2.2.2.2.2.2.2.2.1
noncomputable def dx : Addr := rewrite_spec_a_v.2.2.2.2.2.2.2.2.2.2.2.2.2.2.2.2.2.2.1
noncomputable def dc : Addr := rewrite_spec_a_v.2.2.2.2.2.2.2.2.2.2.2.2.2.2.2.2.2.2.2.1
noncomputable def most : Int := rewrite_spec_a_v.2.2.2.2.2.2.2.2.2.2.2.2.2.2.2.2.2.2.2.2.1
noncomputable def b : Bts := rewrite_spec_a_v.2.2.2.2.2.2.2.2.2.2.2.2.2.2.2.2.2.2.2.2.2.1
noncomputable def tb : Tok := rewrite_spec_a_v.2.2.2.2.2.2.2.2.2.2.2.2.2.2.2.2.2.2.2.2.2.2.1
noncomputable def st : FSt := rewrite_spec_a_v.2.2.2.2.2.2.2.2.2.2.2.2.2.2.2.2.2.2.2.2.2.2.2.1
noncomputable def od : Obj := rewrite_spec_a_v.2.2.2.2.2.2.2.2.2.2.2.2.2.2.2.2.2.2.2.2.2.2.2.2.1
noncomputable def u : Obj → List (Addr × Obj) := rewrite_spec_a_v.2.2.2.2.2.2.2.2.2.2.2.2.2.2.2.2.2.2.2.2.2.2.2.2.2.1
noncomputable def u2 : Obj → Obj → List (Addr × Obj) := rewrite_spec_a_v.2.2.2.2.2.2.2.2.2.2.2.2.2.2.2.2.2.2.2.2.2.2.2.2.2.2.1
noncomputable def oc : Obj := rewrite_spec_a_v.2.2.2.2.2.2.2.2.2.2.2.2.2.2.2.2.2.2.2.2.2.2.2.2.2.2.2.1
noncomputable def g : Heap := rewrite_spec_a_v.2.2.2.2.2.2.2.2.2.2.2.2.2.2.2.2.2.2.2.2.2.2.2.2.2.2.2.2.1
noncomputable def hs : Nat → Int := rewrite_spec_a_v.2.2.2.2.2.2.2.2.2.2.2.2.2.2.2.2.2.2.2.2.2.2.2.2.2.2.2.2.2.1
noncomputable def ts : Nat → Tok := rewrite_spec_a_v.2.2.2.2.2.2.2.2.2.2.2.2.2.2.2.2.2.2.2.2.2.2.2.2.2.2.2.2.2.2.1
noncomputable def L9 : Addr := rewrite_spec_a_v.2.2.2.2.2.2.2.2.2.2.2.2.2.2.2.2.2.2.2.2.2.2.2.2.2.2.2.2.2.2.2.1
noncomputable def h9 : Heap := rewrite_spec_a_v.2.2.2.2.2.2.2.2.2.2.2.2.2.2.2.2.2.2.2.2.2.2.2.2.2.2.2.2.2.2.2.2.1
noncomputable def tk9 : Nat := rewrite_spec_a_v.2.2.2.2.2.2.2.2.2.2.2.2.2.2.2.2.2.2.2.2.2.2.2.2.2.2.2.2.2.2.2.2.2
set_option maxHeartbeats 8000000 in
theorem walk : rewrite_spec_a_pre.1 w mean mg mb base h₀ outer env L m news s dp un gd Q E x dx dc most b tb st od u u2 oc g hs ts L9 h9 tk9 := by
  delta rewrite_spec_a_pre
  dsimp only
  intro hd hu mode hod hx U U2 hdx hdc R hcd lo hl ret st' B fr kp ns hN hxd hxc X C T F9 N9 l9
  dsimp only [fileD] at N9
  have fin : ∀ h' tk' L' m' led od' oc' t1 rs st', Fr g L' h' m' → News g L' h' led → (dx, od') ∈ led → (dc, oc') ∈ led → (x, instObj 168 dx) ∈ led →
      FileObj dc mode.s (Str.ofString "sequential") most st' od' → fRewrite mode b st = (rs, st') → RowsO w oc' st'.rows → Q (.str rs t1) { s with heap := h', toks := tk' } := by
    intro h' tk' L' m' led od' oc' t1 rs st' F' N' m2 m3 m4 hf he hr
    have af : Aft g h' [(x, instObj 168 dx), (dx, od'), (dc, oc')] := (aft_of F' N').sub (by simp [m2, m3, m4])
    have nn := ns _ _ af
    have nt := news_turn2 C hN U U2 nn (fun p hp hq => kp _ p F'.keep hp hq) (o' := od') (o2' := oc') (by simp) (by simp) (by simp)
    have key := ret h' tk' od' oc' t1 (fr _ F'.keep)
    rw [he] at key
    exact key nt hf hr
  cases mode
  all_goals k_steps
  all_goals (try dsimp only)
  all_goals first
    | exact fin _ _ _ _ _ _ _ _ _ _ (by assumption) (by assumption) (by k_mem) (by k_mem) (by k_mem) (FileObj.mk ..) (fr_49 (by intro h; cases h)) R
    | exact fin _ _ _ _ _ _ _ _ _ _ (by assumption) (by assumption) (by k_mem) (by k_mem) (by k_mem) (FileObj.mk ..) (fr_43 rfl (by assumption)) R
    | exact fin _ _ _ _ _ _ _ _ _ _ (by assumption) (by assumption) (by k_mem) (by k_mem) (by k_mem) (FileObj.mk ..) (fr_00 rfl (by assumption)) (by assumption)
end rewrite_spec_a
theorem rewrite_spec_a_all : ∀ (w' : World) (mean' : ExcName → Option Value) (mg' : Str → Option Value) (mb' : Str → Option Value) (base' : Heap) (h₀' : Heap) (outer' : List Env) (env' : Env) (L' : Addr) (m' : Str → Option Value) (news' : List (Addr × Obj)) (s' : Shared) (dp' : Nat) (un' : Nat) (gd' : Option (List Code)) (Q' : Value → Shared → Prop) (E' : Value → Shared → Prop) (x' : Addr) (dx' : Addr) (dc' : Addr) (most' : Int) (b' : Bts) (tb' : Tok) (st' : FSt) (od' : Obj) (u' : Obj → List (Addr × Obj)) (u2' : Obj → Obj → List (Addr × Obj)) (oc' : Obj) (g' : Heap) (hs' : Nat → Int) (ts' : Nat → Tok) (L9' : Addr) (h9' : Heap) (tk9' : Nat), rewrite_spec_a_pre.1 w' mean' mg' mb' base' h₀' outer' env' L' m' news' s' dp' un' gd' Q' E' x' dx' dc' most' b' tb' st' od' u' u2' oc' g' hs' ts' L9' h9' tk9' := by
  intro w' mean' mg' mb' base' h₀' outer' env' L' m' news' s' dp' un' gd' Q' E' x' dx' dc' most' b' tb' st' od' u' u2' oc' g' hs' ts' L9' h9' tk9'
  have hw := rewrite_spec_a.walk
  with_unfolding_all exact hk (α := (World) × (ExcName → Option Value) × (Str → Option Value) × (Str → Option Value) × (Heap) × (Heap) × (List Env) × (Env) × (Addr) × (Str → Option Value) × (List (Addr × Obj)) × (Shared) × (Nat) × (Nat) × (Option (List Code)) × (Value → Shared → Prop) × (Value → Shared → Prop) × (Addr) × (Addr) × (Addr) × (Int) × (Bts) × (Tok) × (FSt) × (Obj) × (Obj → List (Addr × Obj)) × (Obj → Obj → List (Addr × Obj)) × (Obj) × (Heap) × (Nat → Int) × (Nat → Tok) × (Addr) × (Heap) × (Nat)) (p := fun v => rewrite_spec_a_pre.1 v.1 v.2.1 v.2.2.1 v.2.2.2.1 v.2.2.2.2.1 v.2.2.2.2.2.1 v.2.2.2.2.2.2.1 v.2.2.2.2.2.2.2.1 v.2.2.2.2.2.2.2.2.1 v.2.2.2.2.2.2.2.2.2.1 v.2.2.2.2.2.2.2.2.2.2.1 v.2.2.2.2.2.2.2.2.2.2.2.1 v.2.2.2.2.2.2.2.2.2.2.2.2.1 v.2.2.2.2.2.2.2.2.2.2.2.2.2.1 v.2.2.2.2.2.2.2.2.2.2.2.2.2.2.1 v.2.2.2.2.2.2.2.2.2.2.2.2.2.2.2.1 v.2.2.2.2.2.2.2.2.2.2.2.2.2.2.2.2.1 v.2.2.2.2.2.2.2.2.2.2.2.2.2.2.2.2.2.1 v.2.2.2.2.2.2.2.2.2.2.2.2.2.2.2.2.2.2.1 v.2.2.2.2.2.2.2.2.2.2.2.2.2.2.2.2.2.2.2.1 v.2.2.2.2.2.2.2.2.2.2.2.2.2.2.2.2.2.2.2.2.1 v.2.2.2.2.2.2.2.2.2.2.2.2.2.2.2.2.2.2.2.2.2.1 v.2.2.2.2.2.2.2.2.2.2.2.2.2.2.2.2.2.2.2.2.2.2.1 v.2.2.2.2.2.2.2.2.2.2.2.2.2.2.2.2.2.2.2.2.2.2.2.1 v.2.2.2.2.2.2.2.2.2.2.2.2.2.2.2.2.2.2.2.2.2.2.2.2.1 v.2.2.2.2.2.2.2.2.2.2.2.2.2.2.2.2.2.2.2.2.2.2.2.2.2.1 v.2.2.2.2.2.2.2.2.2.2.2.2.2.2.2.2.2.2.2.2.2.2.2.2.2.2.1 v.2.2.2.2.2.2.2.2.2.2.2.2.2.2.2.2.2.2.2.2.2.2.2.2.2.2.2.1 v.2.2.2.2.2.2.2.2.2.2.2.2.2.2.2.2.2.2.2.2.2.2.2.2.2.2.2.2.1 v.2.2.2.2.2.2.2.2.2.2.2.2.2.2.2.2.2.2.2.2.2.2.2.2.2.2.2.2.2.1 v.2.2.2.2.2.2.2.2.2.2.2.2.2.2.2.2.2.2.2.2.2.2.2.2.2.2.2.2.2.2.1 v.2.2.2.2.2.2.2.2.2.2.2.2.2.2.2.2.2.2.2.2.2.2.2.2.2.2.2.2.2.2.2.1 v.2.2.2.2.2.2.2.2.2.2.2.2.2.2.2.2.2.2.2.2.2.2.2.2.2.2.2.2.2.2.2.2.1 v.2.2.2.2.2.2.2.2.2.2.2.2.2.2.2.2.2.2.2.2.2.2.2.2.2.2.2.2.2.2.2.2.2) hw (w', mean', mg', mb', base', h₀', outer', env', L', m', news', s', dp', un', gd', Q', E', x', dx', dc', most', b', tb', st', od', u', u2', oc', g', hs', ts', L9', h9', tk9')
theorem rewrite_spec {w : World} {mean : ExcName → Option Value} {mg mb : Str → Option Value} {A₀ : Around} {base h₀ : Heap} {outer : List Env} {env : Env} {L : Addr} {m : Str → Option Value} {news : List (Addr × Obj)} {s : Shared} {dp un : Nat} {gd : Option (List Code)} {Q E : Value → Shared → Prop} (H : Here w mean mg mb A₀ base h₀ outer env L m news s.heap) (hd : dp + 40 < recursionLimit) (hu : un + 400 < cLine) {x dx dc : Addr} {mode : Mode} {most : Int} {b : Bts} {tb : Tok} {st : FSt} {od : Obj} {u : Obj → List (Addr × Obj)} {u2 : Obj → Obj → List (Addr × Obj)}
    {oc : Obj} (hod : FileObj dc mode.s (Str.ofString "sequential") most st od) (hx : (x, instObj 168 dx) ∈ news) (U : UpdF dx od news u) (U2 : ∀ x, UpdF dc oc (u x) (u2 x)) (hdx : (dx, od) ∈ news) (hdc : (dc, oc) ∈ news) (R : RowsO w oc st.rows) (hcd : @Ne Nat dc dx) (lo : (dc == sysModules) = false) (hl : st.rows.length < 64)
    (ret : ∀ h' tk' od' oc' t1, Fr h₀ L h' m → News h₀ L h' (u2 od' oc') → FileObj dc mode.s (Str.ofString "sequential") most (fRewrite mode b st).2 od' → RowsO w oc' (fRewrite mode b st).2.rows → Q (.str (fRewrite mode b st).1 t1) { s with heap := h', toks := tk' }) :
    wpAny (model PySem.Challenge.rw_og0083_01.row.prog w) (aro dp un gd (env :: outer)) (call (.ref 152) [.ref x, .bytes b tb]) Q E s := by
  exact rewrite_spec_a_pre.2 rewrite_spec_a_all w mean mg mb A₀ base h₀ outer env L m news s dp un gd Q E H hd hu x dx dc mode most b tb st od u u2 oc hod hx U U2 hdx hdc R hcd lo hl ret
end
theorem ty_pop : typeOf (.builtin "dict.pop") = pure (.type "method_descriptor") := by kernel_rfl
theorem ty_clear : typeOf (.builtin "dict.clear") = pure (.type "method_descriptor") := by kernel_rfl
theorem words14 : True := by
  k_with "getMethod ref" => ((k_here; (with_reducible show wpAny _ _ (getMethod (Value.ref _) _ _) _ _ _); (k_dflt first | (refine' rows_method (id := "dict.pop") (by walk_at "S rows") PySem.F.slot_dict_pop ty_pop ?_; k_whole) | (refine' rows_method (id := "dict.clear") (by walk_at "S rows") PySem.F.slot_dict_clear ty_clear ?_; k_whole))))
  k_with "call builtin:dict.pop" => ((k_here; (k_dflt (refine' rows_pop (by k_asm) (by k_asm) (by k_updF) (by k_asm) (by walk_at "S has") (by omega) ?_; k_whole)); (intro h' o' t' F' N' R'); (try dsimp only at N'); (revert h' o' t' F' N' R'; intro _ _ _ _ _ _); (try k_sweep)))
  k_with "call builtin:dict.clear" => ((k_here; (k_dflt (refine' rows_clear (by k_asm) (by k_asm) (by k_updF) (by k_asm) (by omega) ?_; k_whole)); (intro h' o' F' N' R'); (try dsimp only at N'); (revert h' o' F' N' R'; intro _ _ _ _ _); (try k_sweep)))
  k_with "truthy ref" => ((k_here; (k_dflt (refine' rows_truthy (by walk_at "S rows") (by k_asm) (by omega) ?_; k_whole))))
  k_with "S has" => ((apply_assumption; assumption))
  trivial
section

set_option maxHeartbeats 8000000 in
noncomputable def delete_spec_a_pre : (Pa : (World) → (ExcName → Option Value) → (Str → Option Value) → (Str → Option Value) → (Heap) → (Heap) → (List Env) → (Env) → (Addr) → (Str → Option Value) → (List (Addr × Obj)) → (Shared) → (Nat) → (Nat) → (Option (List Code)) → (Value → Shared → Prop) → (Value → Shared → Prop) → (Addr) → (Addr) → (Addr) → (Int) → (FSt) → (Obj) → (Obj → List (Addr × Obj)) → (Obj → Obj → List (Addr × Obj)) → (Obj) → (Heap) → (Nat → Int) → (Nat → Tok) → (Addr) → (Heap) → (Nat) → Prop) ×' ((∀ w mean mg mb base h₀ outer env L m news s dp un gd Q E x dx dc most st od u u2 oc g hs ts L9 h9 tk9, Pa w mean mg mb base h₀ outer env L m news s dp un gd Q E x dx dc most st od u u2 oc g hs ts L9 h9 tk9) → (∀ (w : World) (mean : ExcName → Option Value) (mg mb : Str → Option Value) (A₀ : Around) (base h₀ : Heap) (outer : List Env) (env : Env) (L : Addr) (m : Str → Option Value) (news : List (Addr × Obj)) (s : Shared) (dp un : Nat) (gd : Option (List Code)) (Q E : Value → Shared → Prop) (H : Here w mean mg mb A₀ base h₀ outer env L m news s.heap) (hd : dp + 40 < recursionLimit) (hu : un + 400 < cLine) (x dx dc : Addr) (mode : Mode) (most : Int) (st : FSt) (od : Obj) (u : Obj → List (Addr × Obj)) (u2 : Obj → Obj → List (Addr × Obj)) (oc : Obj) (hod : FileObj dc mode.s (Str.ofString "sequential") most st od) (hx : (x, instObj 168 dx) ∈ news) (U : UpdF dx od news u) (U2 : ∀ x, UpdF dc oc (u x) (u2 x)) (hdx : (dx, od) ∈ news) (hdc : (dc, oc) ∈ news) (R : RowsO w oc st.rows) (hcd : @Ne Nat dc dx) (lo : (dc == sysModules) = false) (hl : st.rows.length < 64) (hlast : 0 < st.last → rhas st.rows st.last = true) (ret : ∀ h' tk' od' oc' t1, Fr h₀ L h' m → News h₀ L h' (u2 od' oc') → FileObj dc mode.s (Str.ofString "sequential") most (fDelete mode st).2 od' → RowsO w oc' (fDelete mode st).2.rows → Q (.str (fDelete mode st).1 t1) { s with heap := h', toks := tk' }), wpAny (model PySem.Challenge.rw_og0083_01.row.prog w) (aro dp un gd (env :: outer)) (call (.ref 160) [.ref x]) Q E s)) := by
  refine' ⟨_, fun hPa => ?_⟩
  rotate_left 1
  · skip
    intro w mean mg mb A₀ base h₀ outer env L m news s dp un gd Q E H hd hu x dx dc mode most st od u u2 oc hod hx U U2 hdx hdc R hcd lo hl hlast ret
    refine file_cut (dp := dp) (un := un) (gd := gd) H hod hx hdx hdc R (fun g hs ts C st' B X T fr kp ns hN hxd hxc => ?_)
    clear H
    (revert C T; revert X; k_fill; intro X C T)
    refine wpAny_call ?_
    walk_at "S enter"
    rename_i L9 h9 tk9 F9 N9 l9
    k_sweep
    revert l9; revert N9; revert F9; revert T; revert C; revert X; revert hxc; revert hxd; revert hN; revert ns; revert kp; revert fr; revert B; revert st'; revert ret; revert hlast; revert hl; revert lo; revert hcd; revert R; revert hdc; revert hdx; revert U2; revert U; revert hx; revert hod; revert mode; revert hu; revert hd
    exact hPa w mean mg mb base h₀ outer env L m news s dp un gd Q E x dx dc most st od u u2 oc g hs ts L9 h9 tk9
noncomputable def delete_spec_a_v : (World) × (ExcName → Option Value) × (Str → Option Value) × (Str → Option Value) × (Heap) × (Heap) × (List Env) × (Env) × (Addr) × (Str → Option Value) × (List (Addr × Obj)) × (Shared) × (Nat) × (Nat) × (Option (List Code)) × (Value → Shared → Prop) × (Value → Shared → Prop) × (Addr) × (Addr) × (Addr) × (Int) × (FSt) × (Obj) × (Obj → List (Addr × Obj)) × (Obj → Obj → List (Addr × Obj)) × (Obj) × (Heap) × (Nat → Int) × (Nat → Tok) × (Addr) × (Heap) × (Nat) := @Classical.epsilon _ ⟨(w0, (fun _ => none), (fun _ => none), (fun _ => none), {}, {}, [], default, 0, (fun _ => none), [], {}, 0, 0, none, (fun _ => (fun _ => True)), (fun _ => (fun _ => True)), 0, 0, 0, 0, ⟨[], 0, true, true, 0, 0⟩, default, (fun _ => []), (fun _ => (fun _ => [])), default, {}, (fun _ => 0), (fun _ => 0), 0, {}, 0)⟩ fun v => ¬ delete_spec_a_pre.1 v.1 v.2.1 v.2.2.1 v.2.2.2.1 v.2.2.2.2.1 v.2.2.2.2.2.1 v.2.2.2.2.2.2.1 v.2.2.2.2.2.2.2.1 v.2.2.2.2.2.2.2.2.1 v.2.2.2.2.2.2.2.2.2.1 v.2.2.2.2.2.2.2.2.2.2.1 v.2.2.2.2.2.2.2.2.2.2.2.1 v.2.2.2.2.2.2.2.2.2.2.2.2.1 v.2.2.2.2.2.2.2.2.2.2.2.2.2.1 v.2.2.2.2.2.2.2.2.2.2.2.2.2.2.1 v.2.2.2.2.2.2.2.2.2.2.2.2.2.2.2.1 v.2.2.2.2.2.2.2.2.2.2.2.2.2.2.2.2.1 v.2.2.2.2.2.2.2.2.2.2.2.2.2.2.2.2.2.1 v.2.2.2.2.2.2.2.2.2.2.2.2.2.2.2.2.2.2.1 v.2.2.2.2.2.2.2.2.2.2.2.2.2.2.2.2.2.2.2.1 v.2.2.2.2.2.2.2.2.2.2.2.2.2.2.2.2.2.2.2.2.1 v.2.2.2.2.2.2.2.2.2.2.2.2.2.2.2.2.2.2.2.2.2.1 v.2.2.2.2.2.2.2.2.2.2.2.2.2.2.2.2.2.2.2.2.2.2.1 v.2.2.2.2.2.2.2.2.2.2.2.2.2.2.2.2.2.2.2.2.2.2.2.1 v.2.2.2.2.2.2.2.2.2.2.2.2.2.2.2.2.2.2.2.2.2.2.2.2.1 v.2.2.2.2.2.2.2.2.2.2.2.2.2.2.2.2.2.2.2.2.2.2.2.2.2.1 v.2.2.2.2.2.2.2.2.2.2.2.2.2.2.2.2.2.2.2.2.2.2.2.2.2.2.1 v.2.2.2.2.2.2.2.2.2.2.2.2.2.2.2.2.2.2.2.2.2.2.2.2.2.2.2.1 v.2.2.2.2.2.2.2.2.2.2.2.2.2.2.2.2.2.2.2.2.2.2.2.2.2.2.2.2.1 v.2.2.2.2.2.2.2.2.2.2.2.2.2.2.2.2.2.2.2.2.2.2.2.2.2.2.2.2.2.1 v.2.2.2.2.2.2.2.2.2.2.2.2.2.2.2.2.2.2.2.2.2.2.2.2.2.2.2.2.2.2.1 v.2.2.2.2.2.2.2.2.2.2.2.2.2.2.2.2.2.2.2.2.2.2.2.2.2.2.2.2.2.2.2
namespace delete_spec_a
noncomputable def w : World := delete_spec_a_v.1
noncomputable def mean : ExcName → Option Value := delete_spec_a_v.2.1
noncomputable def mg : Str → Option Value := delete_spec_a_v.2.2.1
noncomputable def mb : Str → Option Value := delete_spec_a_v.2.2.2.1
noncomputable def base : Heap := delete_spec_a_v.2.2.2.2.1
noncomputable def h₀ : Heap := delete_spec_a_v.2.2.2.2.2.1
noncomputable def outer : List Env := delete_spec_a_v.2.2.2.2.2.2.1
noncomputable def env : Env := delete_spec_a_v.2.2.2.2.2.2.2.1
noncomputable def L : Addr := delete_spec_a_v.2.2.2.2.2.2.2.2.1
noncomputable def m : Str → Option Value := delete_spec_a_v.2.2.2.2.2.2.2.2.2.1
noncomputable def news : List (Addr × Obj) := delete_spec_a_v.2.2.2.2.2.2.2.2.2.2.1
noncomputable def s : Shared := delete_spec_a_v.2.2.2.2.2.2.2.2.2.2.2.1
noncomputable def dp : Nat := delete_spec_a_v.2.2.2.2.2.2.2.2.2.2.2.2.1
noncomputable def un : Nat := delete_spec_a_v.2.2.2.2.2.2.2.2.2.2.2.2.2.1
noncomputable def gd : Option (List Code) := delete_spec_a_v.2.2.2.2.2.2.2.2.2.2.2.2.2.2.1
noncomputable def Q : Value → Shared → Prop := delete_spec_a_v.2.2.2.2.2.2.2.2.2.2.2.2.2.2.2.1
noncomputable def E : Value → Shared → Prop := delete_spec_a_v.2.2.2.2.2.2.2.2.2.2.2.2.2.2.2.2.1
noncomputable def x : Addr := delete_spec_a_v.2.2.2.2.2.2.2.2.2.2.2.2.2.2.2.2.2.1
noncomputable def dx : Addr := delete_spec_a_v.2.2.2.2.2.2.2.2.2.2.2.2.2.2.2.2.2.2.1
noncomputable def dc : Addr := delete_spec_a_v.2.2.2.2.2.2.2.2.2.2.2.2.2.2.2.2.2.2.2.1
noncomputable def most : Int := delete_spec_a_v.2.2.2.2.2.2.2.2.2.2.2.2.2.2.2.2.2.2.2.2.1
noncomputable def st : FSt := delete_spec_a_v.2.2.2.2.2.2.2.2.2.2.2.2.2.2.2.2.2.2.2.2.2.1
noncomputable def od : Obj := delete_spec_a_v.2.2.2.2.2.2.2.2.2.2.2.2.2.2.2.2.2.2.2.2.2.2.1
noncomputable def u : Obj → List (Addr × Obj) := delete_spec_a_v.2.2.2.2.2.2.2.2.2.2.2.2.2.2.2.2.2.2.2.2.2.2.2.1
noncomputable def u2 : Obj → Obj → List (Addr × Obj) := delete_spec_a_v.2.2.2.2.2.2.2.2.2.2.2.2.2.2.2.2.2.2.2.2.2.2.2.2.1
noncomputable def oc : Obj := delete_spec_a_v.2.2.2.2.2.2.2.2.2.2.2.2.2.2.2.2.2.2.2.2.2.2.2.2.2.1
noncomputable def g : Heap := delete_spec_a_v.2.2.2.2.2.2.2.2.2.2.2.2.2.2.2.2.2.2.2.2.2.2.2.2.2.2.1
noncomputable def hs : Nat → Int := delete_spec_a_v.2.2.2.2.2.2.2.2.2.2.2.2.2.2.2.2.2.2.2.2.2.2.2.2.2.2.2.1
noncomputable def ts : Nat → Tok := delete_spec_a_v.2.2.2.2.2.2.2.2.2.2.2.2.2.2.2.2.2.2.2.2.2.2.2.2.2.2.2.2.1
noncomputable def L9 : Addr := delete_spec_a_v.2.2.2.2.2.2.2.2.2.2.2.2.2.2.2.2.2.2.2.2.2.2.2.2.2.2.2.2.2.1
noncomputable def h9 : Heap := delete_spec_a_v.2.2.2.2.2.2.2.2.2.2.2.2.2.2.2.2.2.2.2.2.2.2.2.2.2.2.2.2.2.2.1
noncomputable def tk9 : Nat := delete_spec_a_v.2.2.2.2.2.2.2.2.2.2.2.2.2.2.2.2.2.2.2.2.2.2.2.2.2.2.2.2.2.2.2
set_option maxHeartbeats 8000000 in
theorem walk : delete_spec_a_pre.1 w mean mg mb base h₀ outer env L m news s dp un gd Q E x dx dc most st od u u2 oc g hs ts L9 h9 tk9 := by
  delta delete_spec_a_pre
  dsimp only
  intro hd hu mode hod hx U U2 hdx hdc R hcd lo hl hlast ret st' B fr kp ns hN hxd hxc X C T F9 N9 l9
  dsimp only [fileD] at N9
  have fin : ∀ h' tk' L' m' led od' oc' t1 rs st', Fr g L' h' m' → News g L' h' led → (dx, od') ∈ led → (dc, oc') ∈ led → (x, instObj 168 dx) ∈ led →
      FileObj dc mode.s (Str.ofString "sequential") most st' od' → fDelete mode st = (rs, st') → RowsO w oc' st'.rows → Q (.str rs t1) { s with heap := h', toks := tk' } := by
    intro h' tk' L' m' led od' oc' t1 rs st' F' N' m2 m3 m4 hf he hr
    have af : Aft g h' [(x, instObj 168 dx), (dx, od'), (dc, oc')] := (aft_of F' N').sub (by simp [m2, m3, m4])
    have nn := ns _ _ af
    have nt := news_turn2 C hN U U2 nn (fun p hp hq => kp _ p F'.keep hp hq) (o' := od') (o2' := oc') (by simp) (by simp) (by simp)
    have key := ret h' tk' od' oc' t1 (fr _ F'.keep)
    rw [he] at key
    exact key nt hf hr
  cases mode
  all_goals k_steps
  all_goals (try dsimp only)
  all_goals first
    | exact fin _ _ _ _ _ _ _ _ _ _ (by assumption) (by assumption) (by k_mem) (by k_mem) (by k_mem) (FileObj.mk ..) (fd_49 (by intro h; cases h)) R
    | exact fin _ _ _ _ _ _ _ _ _ _ (by assumption) (by assumption) (by k_mem) (by k_mem) (by k_mem) (FileObj.mk ..) (fd_43 rfl (by assumption)) R
    | exact fin _ _ _ _ _ _ _ _ _ _ (by assumption) (by assumption) (by k_mem) (by k_mem) (by k_mem) (FileObj.mk ..) (fd_00 rfl (by assumption)) (by assumption)
end delete_spec_a
theorem delete_spec_a_all : ∀ (w' : World) (mean' : ExcName → Option Value) (mg' : Str → Option Value) (mb' : Str → Option Value) (base' : Heap) (h₀' : Heap) (outer' : List Env) (env' : Env) (L' : Addr) (m' : Str → Option Value) (news' : List (Addr × Obj)) (s' : Shared) (dp' : Nat) (un' : Nat) (gd' : Option (List Code)) (Q' : Value → Shared → Prop) (E' : Value → Shared → Prop) (x' : Addr) (dx' : Addr) (dc' : Addr) (most' : Int) (st' : FSt) (od' : Obj) (u' : Obj → List (Addr × Obj)) (u2' : Obj → Obj → List (Addr × Obj)) (oc' : Obj) (g' : Heap) (hs' : Nat → Int) (ts' : Nat → Tok) (L9' : Addr) (h9' : Heap) (tk9' : Nat), delete_spec_a_pre.1 w' mean' mg' mb' base' h₀' outer' env' L' m' news' s' dp' un' gd' Q' E' x' dx' dc' most' st' od' u' u2' oc' g' hs' ts' L9' h9' tk9' := by
  intro w' mean' mg' mb' base' h₀' outer' env' L' m' news' s' dp' un' gd' Q' E' x' dx' dc' most' st' od' u' u2' oc' g' hs' ts' L9' h9' tk9'
  have hw := delete_spec_a.walk
  with_unfolding_all exact hk (α := (World) × (ExcName → Option Value) × (Str → Option Value) × (Str → Option Value) × (Heap) × (Heap) × (List Env) × (Env) × (Addr) × (Str → Option Value) × (List (Addr × Obj)) × (Shared) × (Nat) × (Nat) × (Option (List Code)) × (Value → Shared → Prop) × (Value → Shared → Prop) × (Addr) × (Addr) × (Addr) × (Int) × (FSt) × (Obj) × (Obj → List (Addr × Obj)) × (Obj → Obj → List (Addr × Obj)) × (Obj) × (Heap) × (Nat → Int) × (Nat → Tok) × (Addr) × (Heap) × (Nat)) (p := fun v => delete_spec_a_pre.1 v.1 v.2.1 v.2.2.1 v.2.2.2.1 v.2.2.2.2.1 v.2.2.2.2.2.1 v.2.2.2.2.2.2.1 v.2.2.2.2.2.2.2.1 v.2.2.2.2.2.2.2.2.1 v.2.2.2.2.2.2.2.2.2.1 v.2.2.2.2.2.2.2.2.2.2.1 v.2.2.2.2.2.2.2.2.2.2.2.1 v.2.2.2.2.2.2.2.2.2.2.2.2.1 v.2.2.2.2.2.2.2.2.2.2.2.2.2.1 v.2.2.2.2.2.2.2.2.2.2.2.2.2.2.1 v.2.2.2.2.2.2.2.2.2.2.2.2.2.2.2.1 v.2.2.2.2.2.2.2.2.2.2.2.2.2.2.2.2.1 v.2.2.2.2.2.2.2.2.2.2.2.2.2.2.2.2.2.1 v.2.2.2.2.2.2.2.2.2.2.2.2.2.2.2.2.2.2.1 v.2.2.2.2.2.2.2.2.2.2.2.2.2.2.2.2.2.2.2.1 v.2.2.2.2.2.2.2.2.2.2.2.2.2.2.2.2.2.2.2.2.1 v.2.2.2.2.2.2.2.2.2.2.2.2.2.2.2.2.2.2.2.2.2.1 v.2.2.2.2.2.2.2.2.2.2.2.2.2.2.2.2.2.2.2.2.2.2.1 v.2.2.2.2.2.2.2.2.2.2.2.2.2.2.2.2.2.2.2.2.2.2.2.1 v.2.2.2.2.2.2.2.2.2.2.2.2.2.2.2.2.2.2.2.2.2.2.2.2.1 v.2.2.2.2.2.2.2.2.2.2.2.2.2.2.2.2.2.2.2.2.2.2.2.2.2.1 v.2.2.2.2.2.2.2.2.2.2.2.2.2.2.2.2.2.2.2.2.2.2.2.2.2.2.1 v.2.2.2.2.2.2.2.2.2.2.2.2.2.2.2.2.2.2.2.2.2.2.2.2.2.2.2.1 v.2.2.2.2.2.2.2.2.2.2.2.2.2.2.2.2.2.2.2.2.2.2.2.2.2.2.2.2.1 v.2.2.2.2.2.2.2.2.2.2.2.2.2.2.2.2.2.2.2.2.2.2.2.2.2.2.2.2.2.1 v.2.2.2.2.2.2.2.2.2.2.2.2.2.2.2.2.2.2.2.2.2.2.2.2.2.2.2.2.2.2.1 v.2.2.2.2.2.2.2.2.2.2.2.2.2.2.2.2.2.2.2.2.2.2.2.2.2.2.2.2.2.2.2) hw (w', mean', mg', mb', base', h₀', outer', env', L', m', news', s', dp', un', gd', Q', E', x', dx', dc', most', st', od', u', u2', oc', g', hs', ts', L9', h9', tk9')
theorem delete_spec {w : World} {mean : ExcName → Option Value} {mg mb : Str → Option Value} {A₀ : Around} {base h₀ : Heap} {outer : List Env} {env : Env} {L : Addr} {m : Str → Option Value} {news : List (Addr × Obj)} {s : Shared} {dp un : Nat} {gd : Option (List Code)} {Q E : Value → Shared → Prop} (H : Here w mean mg mb A₀ base h₀ outer env L m news s.heap) (hd : dp + 40 < recursionLimit) (hu : un + 400 < cLine) {x dx dc : Addr} {mode : Mode} {most : Int} {st : FSt} {od : Obj} {u : Obj → List (Addr × Obj)} {u2 : Obj → Obj → List (Addr × Obj)}
    {oc : Obj} (hod : FileObj dc mode.s (Str.ofString "sequential") most st od) (hx : (x, instObj 168 dx) ∈ news) (U : UpdF dx od news u) (U2 : ∀ x, UpdF dc oc (u x) (u2 x)) (hdx : (dx, od) ∈ news) (hdc : (dc, oc) ∈ news) (R : RowsO w oc st.rows) (hcd : @Ne Nat dc dx) (lo : (dc == sysModules) = false) (hl : st.rows.length < 64) (hlast : 0 < st.last → rhas st.rows st.last = true)
    (ret : ∀ h' tk' od' oc' t1, Fr h₀ L h' m → News h₀ L h' (u2 od' oc') → FileObj dc mode.s (Str.ofString "sequential") most (fDelete mode st).2 od' → RowsO w oc' (fDelete mode st).2.rows → Q (.str (fDelete mode st).1 t1) { s with heap := h', toks := tk' }) :
    wpAny (model PySem.Challenge.rw_og0083_01.row.prog w) (aro dp un gd (env :: outer)) (call (.ref 160) [.ref x]) Q E s := by
  exact delete_spec_a_pre.2 delete_spec_a_all w mean mg mb A₀ base h₀ outer env L m news s dp un gd Q E H hd hu x dx dc mode most st od u u2 oc hod hx U U2 hdx hdc R hcd lo hl hlast ret
end
/-- data over a ledger -/
noncomputable def DN (l : List (Addr × Obj)) (n : Nat) (v : Value) (d : Dat) : Prop := ∀ h : Heap, (∀ p ∈ l, h.get? p.1 = some p.2) → DH h n v d
theorem DN.mono {l l' : List (Addr × Obj)} {n : Nat} {v : Value} {d : Dat} (x : DN l n v d) (s : ∀ p ∈ l, p ∈ l') : DN l' n v d := fun h k => x h fun p hp => k p (s p hp)
theorem DN.flat {l : List (Addr × Obj)} {n : Nat} {v : Value} {d : Dat} (x : Fl v d) : DN l n v d := fun _ _ => .flat x
theorem DN.tuple {l : List (Addr × Obj)} {n k : Nat} {a : Addr} {vs : List Value} {ds : List Dat} (hm : (a, ({ cls := .type "tuple", data := .seq vs.toArray k } : Obj)) ∈ l) (p : Paired (DN l n) vs ds) : DN l (n + 1) (.ref a) (.tuple ds) :=
  fun h hk => .inr (.inl ⟨a, vs, ds, rfl, rfl, ⟨_, hk _ hm, rfl, k, rfl⟩, pimp (fun _ _ x => x h hk) p⟩)
theorem DN.list {l : List (Addr × Obj)} {n k : Nat} {a : Addr} {vs : List Value} {ds : List Dat} (hm : (a, ({ cls := .type "list", data := .seq vs.toArray k } : Obj)) ∈ l) (p : Paired (DN l n) vs ds) : DN l (n + 1) (.ref a) (.list ds) :=
  fun h hk => .inr (.inr ⟨a, vs, ds, rfl, rfl, ⟨_, hk _ hm, rfl, k, rfl⟩, pimp (fun _ _ x => x h hk) p⟩)
theorem DN.at {l news : List (Addr × Obj)} {n : Nat} {v : Value} {d : Dat} {h₀ h : Heap} {L : Addr} (x : DN l n v d) (N : News h₀ L h news) (s : ∀ p ∈ l, p ∈ news) : DH h n v d := x h fun p hp => (N p (s p hp)).1
theorem psnoc {α β : Type} {F : α → β → Prop} {a : α} {b : β} : ∀ {l₁ : List α} {l₂ : List β}, Paired F l₁ l₂ → F a b → Paired F (l₁ ++ [a]) (l₂ ++ [b])
  | _, _, .nil, h => .cons h .nil
  | _, _, .cons x t, h => .cons x (psnoc t h)
noncomputable def pairD (r : RowsT) (n : Int) : Dat := .tuple [.int n, .bytes (rget r n)]
theorem code_SC {prog : Program} {w : World} {A : Around} {s : Shared} {g : Heap} {muts : List (Addr × Obj)} {K : Frag} {p : Program} {loose : List Str} {mean : ExcName → Option Value} {mg mb : Str → Option Value}
    {R : Result → Shared → Prop} {name qual : Str} {params : Arguments} {body : List Stmt} {scope : Scope} {dV kV doc pm cdv ct oc : Value} {an od : Option Addr} {osl : Array (Option Value)} {f : Addr} {args : Args} {binds : List (Str × Value)}
    (C : Cut muts s.heap g) (X : K.In g) (T : Top p loose mean mg mb g)
    (ho : K.lookup f = some ⟨oc, od, .func (fnOf name qual params body scope dV kV doc pm an cdv ct), osl⟩) (hcd : codeIn K cdv qual = true) (hroom : A.depth < recursionLimit)
    (hbind : BindsTo s (fnOf name qual params body scope dV kV doc pm an cdv ct) args binds) (hkind : (binds.all fun y => scope.names.lookup y.1 == some .local || scope.names.lookup y.1 == some .cell) = true)
    (hnd : ((cellsFrom 0 scope.names []).map (·.1)).Nodup)
    (h : ∀ L' h₁ tk cells, Fr g L' h₁ (bindL (envOfC qual scope L' f cdv).kindOf binds fun _ => none) → News g L' h₁ (cells ++ muts) →
      CellsAre (bindC (envOfC qual scope L' f cdv).kindOf binds fun _ => none) (cellsFrom (L' + 1) scope.names []) cells → (∀ p ∈ muts, p.1 < L') →
      wpAny (model prog w) (A.deeper (envOfC qual scope L' f cdv)) (execs body (envOfC qual scope L' f cdv))
        (fun fl s' => R (.ok (.ret (match fl with | .ret v => v | _ => .none))) s')
        (fun e s' => wpAny (model prog w) (A.deeper (envOfC qual scope L' f cdv)) (leaving (envOfC qual scope L' f cdv) e) (fun _ s'' => R (.error e) s'') (fun e' s'' => R (.error e') s'') s')
        { s with heap := h₁, toks := tk })
    (hco : scope.isCoroutine = false) (hgen : scope.isGenerator = false) (hk : scope.kind = .function) : codeAny (model prog w) A (.call (.ref f) args) R s := by
  refine codeAny_call_function hroom (C.stays _ _ (X _ _ ho)) rfl hco hgen rfl ((codeRec_of X hcd).keeps C.stays) (hbind _ _ _ _ ?_)
  refine wpAny_newFunctionEnv_cells hk (kindsX hkind _) fun env' he s' x => ?_
  subst he
  refine ⟨(T.nolimit.keeps C.stays).keeps x.toInCall.keep, codeAny_func ?_⟩
  obtain ⟨h₁, tk, rfl, _⟩ := x.done
  have hk₁ := x.toInCall.keep
  obtain ⟨cells, NC, Y⟩ := Cl.news (h₀ := s.heap) (Nat.le_refl _) fun n c hm => ⟨x.cell n c (lookup_of_mem_nodup (cellsFrom_names scope.names 0 (s.heap.objs.size + 1) [] [] rfl ▸ hnd) hm), x.above n c hm⟩
  refine h s.heap.objs.size h₁ tk cells ⟨x.toInCall.ns, fun b o e => hk₁ b o (C.stays b o e), Nat.le_of_eq C.size⟩ (fun p hp => ?_) Y (fun p hp => Heap.lt_size (C.here p hp).1)
  rcases List.mem_append.mp hp with hp | hp
  · refine ⟨(NC p hp).1, (NC p hp).2.1, ?_⟩
    cases q : g.get? p.1 with
    | none => rfl
    | some o => have := C.stays _ _ q; rw [(NC p hp).2.2] at this; cases this
  · exact ⟨hk₁ _ _ (C.here p hp).1, Nat.ne_of_lt (Heap.lt_size (C.here p hp).1), (C.here p hp).2⟩
theorem words15 : True := by
  k_with "W0" => ((refine' code_SC (by k_asm) (by k_asm) (by k_asm) (by k_is) (by k_is) (by k_room) (by first | exact BindsTo.of_eq rfl | exact binds_K (Frag.In.keeps (by k_asm) (Cut.stays (by k_asm))) rfl (by k_is) rfl rfl rfl | fail "s_enter: no rule for these arguments") (by exact rfl) (by decide +kernel) ?_ (by exact rfl) (by exact rfl) (by exact rfl); k_whole))
  trivial
local macro_rules | `(tactic| walk_at "S enterC") => `(tactic| ( (k_extra "W0"); intro L' h' tk' cells' F' N' Y' l1; (try k_lt l1); k_cells Y'; (try simp only [List.cons_append, List.nil_append] at N'); (try dsimp only); (try k_fold)))
noncomputable def TEnd (h₀ : Heap) (L : Addr) (m : Str → Option Value) (s₁ : Shared) (top news₀ tail : List (Addr × Obj)) (R : Value → List (Addr × Obj) → Prop) (y : Value) (s₂ : Shared) : Prop :=
  ∃ h' tk' t', s₂ = { s₁ with heap := h', toks := tk' } ∧ Fr h₀ L h' m ∧ News h₀ L h' (t' ++ (top ++ (news₀ ++ tail))) ∧ OwnOff t' ((top ++ news₀).map (·.1)) ∧ R y (t' ++ tail)
theorem TEnd.intro {h₀ : Heap} {L : Addr} {m : Str → Option Value} {s₁ : Shared} {top news₀ tail : List (Addr × Obj)} {R : Value → List (Addr × Obj) → Prop} {y : Value} {h' : Heap} {tk : Nat} {all : List (Addr × Obj)} (t' : List (Addr × Obj))
    (F : Fr h₀ L h' m) (N : News h₀ L h' all) (sub : ∀ p ∈ t' ++ (top ++ (news₀ ++ tail)), p ∈ all) (o : OwnOff t' ((top ++ news₀).map (·.1))) (r : R y (t' ++ tail)) : TEnd h₀ L m s₁ top news₀ tail R y { s₁ with heap := h', toks := tk } :=
  ⟨h', tk, t', rfl, F, fun p hp => N p (sub p hp), o, r⟩
theorem TEnd.comp {h₀ : Heap} {L : Addr} {m : Str → Option Value} {s₁ : Shared} {I C D : Addr} {oI oC oD : Obj} {news₀ tail : List (Addr × Obj)} {R : Value → List (Addr × Obj) → Prop} {y : Value} {s₂ : Shared} {S : List (Addr × Obj) → Prop} {rest : Value → List (Addr × Obj) → Prop}
    (x : TEnd h₀ L m s₁ [(I, oI), (C, oC), (D, oD)] news₀ tail R y s₂) (off : Off3 I C D (news₀ ++ tail)) (hS : ∀ t, S (news₀ ++ t)) (hr : ∀ t', R y (t' ++ tail) → OwnOff t' (news₀.map (·.1)) → rest y (news₀ ++ (t' ++ tail))) : CompEnd h₀ L m s₁ I oI C oC D oD S rest y s₂ := by
  obtain ⟨h', tk', t', rfl, F, N, o, r⟩ := x
  refine ⟨h', tk', news₀ ++ (t' ++ tail), rfl, F, fun p hp => N p ?_, Off3.of fun p hp => ?_, hS _, hr t' r fun p hp b hb => o p hp b ?_⟩
  · simp only [List.mem_cons, List.mem_append, List.not_mem_nil, or_false] at hp ⊢
    grind
  · simp only [List.mem_append] at hp
    rcases hp with hp | hp | hp
    · exact off.mem p (List.mem_append_left _ hp)
    · exact ⟨o p hp I (by simp), o p hp C (by simp), o p hp D (by simp)⟩
    · exact off.mem p (List.mem_append_right _ hp)
  · simp only [List.map_append, List.mem_append]; exact .inr hb
section
variable {prog : Program} {w : World} {A : Around} {E : Value → Shared → Prop} {s : Shared} {h₀ : Heap} {L : Addr} {m : Str → Option Value} {env : Env}
theorem own_app {t tail : List (Addr × Obj)} {adr : List Addr} (a : OwnOff t adr) (b : OwnOff tail adr) : OwnOff (t ++ tail) adr := fun p hp => (List.mem_append.mp hp).elim (a p) (b p)
theorem own_nil {adr : List Addr} : OwnOff [] adr := fun _ hp => nomatch hp
theorem own_of_off3 {I C D : Addr} {tail news₀ : List (Addr × Obj)} (off : Off3 I C D (news₀ ++ tail)) (o : OwnOff tail (news₀.map (·.1))) : OwnOff tail (I :: C :: D :: news₀.map (·.1)) := fun p hp b hb => by
  have q := off.mem p (List.mem_append_right _ hp)
  rcases List.mem_cons.mp hb with rfl | hb
  · exact q.1
  rcases List.mem_cons.mp hb with rfl | hb
  · exact q.2.1
  rcases List.mem_cons.mp hb with rfl | hb
  · exact q.2.2
  · exact o p hp b hb
theorem off3_left {I C D : Addr} {tail news₀ : List (Addr × Obj)} (off : Off3 I C D (news₀ ++ tail)) : Off3 I C D news₀ := Off3.of fun p hp => off.mem p (List.mem_append_left _ hp)
theorem off1_mem {D : Addr} : ∀ {l : List (Addr × Obj)}, Off1 D l → ∀ p ∈ l, p.1 ≠ D
  | [], _, _, h => nomatch h
  | _ :: _, x, p, h => by
    rcases List.mem_cons.mp h with rfl | h
    · exact x.1
    · exact off1_mem x.2 p h
theorem own_of_off1 {D : Addr} {tail news₀ : List (Addr × Obj)} (off : Off1 D (news₀ ++ tail)) (o : OwnOff tail (news₀.map (·.1))) : OwnOff tail (D :: news₀.map (·.1)) := fun p hp b hb => by
  rcases List.mem_cons.mp hb with rfl | hb
  · exact off1_mem off p (List.mem_append_right _ hp)
  · exact o p hp b hb
theorem off1_of {D : Addr} : ∀ {l : List (Addr × Obj)}, (∀ p ∈ l, p.1 ≠ D) → Off1 D l
  | [], _ => trivial
  | p :: _, h => ⟨h p (.head _), off1_of fun q hq => h q (.tail _ hq)⟩
theorem off1_left {D : Addr} {tail news₀ : List (Addr × Obj)} (off : Off1 D (news₀ ++ tail)) : Off1 D news₀ := off1_of fun p hp => off1_mem off p (List.mem_append_left _ hp)

theorem cs_U {elt : Expr} {x : Str} {scope : Scope} {cl : List (Str × Addr)} {S : List (Addr × Obj) → Prop} {P : Nat → Value → Prop} {Fin : Shared → List Value → List (Addr × Obj) → Prop} {n : Nat} {xv : Value} {news₀ : List (Addr × Obj)} (W : SrcW prog w A h₀ L n P S xv s) (F : Fr h₀ L s.heap m) (N : News h₀ L s.heap news₀)
    (hsz : n ≤ sizeLine) (hS : ∀ t, S (news₀ ++ t)) (G : Nat → List Value → List (Addr × Obj) → Prop) (g0 : G 0 [] [])
    (turn : ∀ i ys tail v I oI C oC D m₂ h tk (E' : Value → Shared → Prop), i < n → P i v → G i ys tail → NsObj oC m₂ → m₂ x = some v → Fr h₀ L h m → News h₀ L h ((I, oI) :: (C, oC) :: (D, lst ys) :: (news₀ ++ tail)) → Off3 I C D news₀ → OwnOff tail (I :: C :: D :: news₀.map (·.1)) → ((@Ne Nat I C) ∧ (@Ne Nat I D) ∧ (@Ne Nat C D)) →
      wpAny (model prog w) A (eval elt (compEnvC scope cl C env)) (TEnd h₀ L m { s with heap := h, toks := tk } [(I, oI), (C, oC), (D, lst ys)] news₀ tail fun y t => G (i + 1) (ys ++ [y]) t) E' { s with heap := h, toks := tk })
    (fin : ∀ g ys tail, G n ys tail → OwnOff tail (news₀.map (·.1)) → Fin { s with heap := g } ys (news₀ ++ tail)) : CSrcU prog w A h₀ L m env elt x scope cl Fin xv s := by
  refine ⟨n, P, S, news₀, W, hsz, F, N, by simpa using hS [], ?_⟩
  rintro s₂ ⟨g, rfl⟩
  refine rest_U (s := { s with heap := g }) (n := n) (fun i ys nx => ∃ tail, nx = news₀ ++ tail ∧ OwnOff tail (news₀.map (·.1)) ∧ G i ys tail) ?_ ?_ n 0 [] news₀ (by omega) ⟨[], by simp, own_nil, g0⟩
  · rintro i ys _ v I oI C oC D m₂ h tk E' hi ⟨tail, rfl, o, hG⟩ hP hC hx F N off ne
    refine wpAny_mono (turn i ys tail v I oI C oC D m₂ h tk E' hi hP hG hC hx F N (off3_left off) (own_of_off3 off o) ne) (fun y s' q => q.comp off hS fun t' r o' => ⟨_, rfl, own_app o' o, r⟩) fun _ _ e => e
  · rintro ys _ ⟨tail, rfl, o, hG⟩
    exact fin g ys tail hG o
theorem cs_T {ct elt : Expr} {x : Str} {scope : Scope} {cl : List (Str × Addr)} {S : List (Addr × Obj) → Prop} {P : Nat → Value → Prop} {Fin : Shared → List Value → List (Addr × Obj) → Prop} {n : Nat} {xv : Value} {news₀ : List (Addr × Obj)} (W : SrcW prog w A h₀ L n P S xv s) (F : Fr h₀ L s.heap m) (N : News h₀ L s.heap news₀)
    (hsz : n ≤ sizeLine) (hS : ∀ t, S (news₀ ++ t)) (G : Nat → List Value → List (Addr × Obj) → Prop) (g0 : G 0 [] [])
    (turn : ∀ i ys tail v I oI C oC D m₂ h tk (E' : Value → Shared → Prop), i < n → P i v → G i ys tail → NsObj oC m₂ → m₂ x = some v → Fr h₀ L h m → News h₀ L h ((I, oI) :: (C, oC) :: (D, lst ys) :: (news₀ ++ tail)) → Off3 I C D news₀ → OwnOff tail (I :: C :: D :: news₀.map (·.1)) → ((@Ne Nat I C) ∧ (@Ne Nat I D) ∧ (@Ne Nat C D)) →
      wpAny (model prog w) A (isTrue ct (compEnvC scope cl C env) (eval ct (compEnvC scope cl C env))) (fun ok s' => if ok = true then
        wpAny (model prog w) A (eval elt (compEnvC scope cl C env)) (TEnd h₀ L m { s with heap := h, toks := tk } [(I, oI), (C, oC), (D, lst ys)] news₀ tail fun y t => G (i + 1) (ys ++ [y]) t) E' s'
        else TEnd h₀ L m { s with heap := h, toks := tk } [(I, oI), (C, oC), (D, lst ys)] news₀ tail (fun _ t => G (i + 1) ys t) .none s') E' { s with heap := h, toks := tk })
    (fin : ∀ g ys tail, G n ys tail → OwnOff tail (news₀.map (·.1)) → Fin { s with heap := g } ys (news₀ ++ tail)) : CSrcT prog w A h₀ L m env ct elt x scope cl Fin xv s := by
  refine ⟨n, P, S, news₀, W, hsz, F, N, by simpa using hS [], ?_⟩
  rintro s₂ ⟨g, rfl⟩
  refine rest_T (s := { s with heap := g }) (n := n) (fun i ys nx => ∃ tail, nx = news₀ ++ tail ∧ OwnOff tail (news₀.map (·.1)) ∧ G i ys tail) ?_ ?_ n 0 [] news₀ (by omega) ⟨[], by simp, own_nil, g0⟩
  · rintro i ys _ v I oI C oC D m₂ h tk E' hi ⟨tail, rfl, o, hG⟩ hP hC hx F N off ne
    refine wpAny_mono (turn i ys tail v I oI C oC D m₂ h tk E' hi hP hG hC hx F N (off3_left off) (own_of_off3 off o) ne) (fun ok s' q => ?_) fun _ _ e => e
    cases ok with
    | true =>
      simp only [if_true] at q ⊢
      exact wpAny_mono q (fun y s' q => q.comp off hS fun t' r o' => ⟨_, rfl, own_app o' o, r⟩) fun _ _ e => e
    | false =>
      simp only [Bool.false_eq_true, if_false] at q ⊢
      exact q.comp off hS fun t' r o' => ⟨_, rfl, own_app o' o, r⟩
  · rintro ys _ ⟨tail, rfl, o, hG⟩
    exact fin g ys tail hG o
theorem own_one {T : Addr} {o : Obj} {adr : List Addr} (h : ∀ b ∈ adr, @Ne Nat T b) : OwnOff [(T, o)] adr := fun p hp b hb => by rw [List.mem_singleton.mp hp]; exact h b hb
end
theorem news_same {muts : List (Addr × Obj)} {h g h' : Heap} (C : Cut muts h g) {h₀ : Heap} {L : Addr} {news : List (Addr × Obj)} (N : News h₀ L h news) (N' : News h₀ L h' muts)
    (kp : ∀ p, p ∈ news → p.1 ∉ muts.map (·.1) → h'.get? p.1 = some p.2 ∧ p.1 ≠ L ∧ h₀.get? p.1 = none) : News h₀ L h' news := by
  intro p hp
  by_cases q : p.1 ∈ muts.map (·.1)
  · obtain ⟨x, hx, e⟩ := List.mem_map.mp q
    have e1 := (C.here x hx).1
    have e2 := (N p hp).1
    rw [e, e2] at e1
    have : p = x := Prod.ext e.symm (Option.some.inj e1)
    exact this ▸ N' x hx
  · exact kp p hp q
theorem fresh_off {muts : List (Addr × Obj)} {h g h' : Heap} (C : Cut muts h g) {h₀ : Heap} {L L' : Addr} {news fresh : List (Addr × Obj)} (N : News h₀ L h news) (N' : News g L' h' fresh) (o : OwnOff fresh (muts.map (·.1))) : ∀ p ∈ fresh, ∀ q ∈ news, p.1 ≠ q.1 := fun p hp q hq e =>
  cut_ne C N (N' p hp).2.2 (fun x hx e' => o p hp x.1 (List.mem_map_of_mem hx) e'.symm) q hq e.symm
theorem allLt_mem {d : Nat} : ∀ {l : List (Addr × Obj)}, AllLt d l → ∀ p ∈ l, @LT.lt Nat _ p.1 d
  | [], _, _, h => nomatch h
  | _ :: _, x, p, h => by
    rcases List.mem_cons.mp h with rfl | h
    · exact x.1
    · exact allLt_mem x.2 p h
theorem own_sub {l : List (Addr × Obj)} {a b : List Addr} (o : OwnOff l a) (s : ∀ x ∈ b, x ∈ a) : OwnOff l b := fun p hp x hx => o p hp x (s x hx)
theorem own_cons {T : Addr} {o : Obj} {l : List (Addr × Obj)} {adr : List Addr} (h : ∀ b ∈ adr, @Ne Nat T b) (x : OwnOff l adr) : OwnOff ((T, o) :: l) adr := fun p hp b hb => by
  rcases List.mem_cons.mp hp with rfl | hp
  · exact h b hb
  · exact x p hp b hb
theorem words16 : True := by
  k_with "S ones" => (first | exact List.forall_mem_nil _ | (refine List.forall_mem_cons.mpr ⟨by k_ne, ?_⟩; walk_at "S ones"))
  k_with "call type:tuple" => ((k_here; (with_reducible show wpAny _ _ (call (Value.type _) [Value.ref _]) _ _ _); k_dflt (refine' kde_tupleOf (by k_asm) (by k_asm) (by exact News.isList (by k_asm) (by k_mem)) (by (simp only [List.size_toArray]; omega)) (by exact List.toList_toArray) ?_; k_whole); intro D' h' F' N' l1; (try k_lt l1); (revert D' h' F' N' l1; intro _ _ _ _ _); (try k_sweep)))
  k_with "S ownnew" => ((refine own_one ?_; (try simp only [List.cons_append, List.nil_append, List.map_cons, List.map_nil]); walk_at "S ones"))
  trivial
section

set_option maxHeartbeats 8000000 in
noncomputable def told_spec_a_pre : (Pa : (World) → (ExcName → Option Value) → (Str → Option Value) → (Str → Option Value) → (Heap) → (Heap) → (List Env) → (Env) → (Addr) → (Str → Option Value) → (List (Addr × Obj)) → (Shared) → (Nat) → (Nat) → (Option (List Code)) → (Value → Shared → Prop) → (Value → Shared → Prop) → (Addr) → (Addr) → (Addr) → (Mode) → (Int) → (FSt) → (Obj) → (Obj) → (Heap) → (Nat → Int) → (Nat → Tok) → (Addr) → (Heap) → (Nat) → (Obj) → Prop) ×' ((∀ w mean mg mb base h₀ outer env L m news s dp un gd Q E x dx dc mode most st od oc g hs ts za0 za1 za2 za5, Pa w mean mg mb base h₀ outer env L m news s dp un gd Q E x dx dc mode most st od oc g hs ts za0 za1 za2 za5) → (∀ (w : World) (mean : ExcName → Option Value) (mg mb : Str → Option Value) (A₀ : Around) (base h₀ : Heap) (outer : List Env) (env : Env) (L : Addr) (m : Str → Option Value) (news : List (Addr × Obj)) (s : Shared) (dp un : Nat) (gd : Option (List Code)) (Q E : Value → Shared → Prop) (H : Here w mean mg mb A₀ base h₀ outer env L m news s.heap) (hd : dp + 40 < recursionLimit) (hu : un + 400 < cLine) (x dx dc : Addr) (mode : Mode) (most : Int) (st : FSt) (od : Obj) (oc : Obj) (hod : FileObj dc mode.s (Str.ofString "sequential") most st od) (hx : (x, instObj 168 dx) ∈ news) (hdx : (dx, od) ∈ news) (hdc : (dc, oc) ∈ news) (R : RowsO w oc st.rows) (hcd : @Ne Nat dc dx) (lo : (dc == sysModules) = false) (hl : st.rows.length < 64) (ret : ∀ a ra tail (ns : List Int) h' tk' t1 t2 t3 t4 t5, Fr h₀ L h' m → News h₀ L h' ((a, tupO #[.str mode.s t1, .str (Str.ofString "sequential") t2, .int st.place t3, .bool st.beh, .bool st.val, .int st.last t4, .int st.number t5, .ref ra]) :: (news ++ tail)) → (∀ p ∈ news, p.1 ≠ a) → (∀ p ∈ tail, p.1 ≠ a ∧ ∀ q ∈ news, p.1 ≠ q.1) →
      ns.Perm (rkeys st.rows) → ns.Pairwise (· ≤ ·) → DN tail 2 (.ref ra) (.tuple (ns.map (pairD st.rows))) → Q (.ref a) { s with heap := h', toks := tk' }), wpAny (model PySem.Challenge.rw_og0083_01.row.prog w) (aro dp un gd (env :: outer)) (call (.ref 165) [.ref x]) Q E s)) := by
  refine' ⟨_, fun hPa => ?_⟩
  rotate_left 1
  · skip
    intro w mean mg mb A₀ base h₀ outer env L m news s dp un gd Q E H hd hu x dx dc mode most st od oc hod hx hdx hdc R hcd lo hl ret
    refine file_cut (dp := dp) (un := un) (gd := gd) H hod hx hdx hdc R (fun g hs ts C st' B X T fr kp ns hN hxd hxc => ?_)
    clear H
    (revert C T; revert X; k_fill; intro X C T)
    refine wpAny_call ?_
    walk_at "S enterC"
    k_sweep
    rename_i za0 za1 za2 za3 za4 za5 za6 za7
    revert za7; revert za6; revert za4; revert za3; revert T; revert C; revert X; revert hxc; revert hxd; revert hN; revert ns; revert kp; revert fr; revert B; revert st'; revert ret; revert hl; revert lo; revert hcd; revert R; revert hdc; revert hdx; revert hx; revert hod; revert hu; revert hd
    exact hPa w mean mg mb base h₀ outer env L m news s dp un gd Q E x dx dc mode most st od oc g hs ts za0 za1 za2 za5
noncomputable def told_spec_a_v : (World) × (ExcName → Option Value) × (Str → Option Value) × (Str → Option Value) × (Heap) × (Heap) × (List Env) × (Env) × (Addr) × (Str → Option Value) × (List (Addr × Obj)) × (Shared) × (Nat) × (Nat) × (Option (List Code)) × (Value → Shared → Prop) × (Value → Shared → Prop) × (Addr) × (Addr) × (Addr) × (Mode) × (Int) × (FSt) × (Obj) × (Obj) × (Heap) × (Nat → Int) × (Nat → Tok) × (Addr) × (Heap) × (Nat) × (Obj) := @Classical.epsilon _ ⟨(w0, (fun _ => none), (fun _ => none), (fun _ => none), {}, {}, [], default, 0, (fun _ => none), [], {}, 0, 0, none, (fun _ => (fun _ => True)), (fun _ => (fun _ => True)), 0, 0, 0, .inp, 0, ⟨[], 0, true, true, 0, 0⟩, default, default, {}, (fun _ => 0), (fun _ => 0), 0, {}, 0, default)⟩ fun v => ¬ told_spec_a_pre.1 v.1 v.2.1 v.2.2.1 v.2.2.2.1 v.2.2.2.2.1 v.2.2.2.2.2.1 v.2.2.2.2.2.2.1 v.2.2.2.2.2.2.2.1 v.2.2.2.2.2.2.2.2.1 v.2.2.2.2.2.2.2.2.2.1 v.2.2.2.2.2.2.2.2.2.2.1 v.2.2.2.2.2.2.2.2.2.2.2.1 v.2.2.2.2.2.2.2.2.2.2.2.2.1 v.2.2.2.2.2.2.2.2.2.2.2.2.2.1 v.2.2.2.2.2.2.2.2.2.2.2.2.2.2.1 v.2.2.2.2.2.2.2.2.2.2.2.2.2.2.2.1 v.2.2.2.2.2.2.2.2.2.2.2.2.2.2.2.2.1 v.2.2.2.2.2.2.2.2.2.2.2.2.2.2.2.2.2.1 v.2.2.2.2.2.2.2.2.2.2.2.2.2.2.2.2.2.2.1 v.2.2.2.2.2.2.2.2.2.2.2.2.2.2.2.2.2.2.2.1 v.2.2.2.2.2.2.2.2.2.2.2.2.2.2.2.2.2.2.2.2.1 v.2.2.2.2.2.2.2.2.2.2.2.2.2.2.2.2.2.2.2.2.2.1 v.2.2.2.2.2.2.2.2.2.2.2.2.2.2.2.2.2.2.2.2.2.2.1 v.2.2.2.2.2.2.2.2.2.2.2.2.2.2.2.2.2.2.2.2.2.2.2.1 v.2.2.2.2.2.2.2.2.2.2.2.2.2.2.2.2.2.2.2.2.2.2.2.2.1 v.2.2.2.2.2.2.2.2.2.2.2.2.2.2.2.2.2.2.2.2.2.2.2.2.2.1 v.2.2.2.2.2.2.2.2.2.2.2.2.2.2.2.2.2.2.2.2.2.2.2.2.2.2.1 v.2.2.2.2.2.2.2.2.2.2.2.2.2.2.2.2.2.2.2.2.2.2.2.2.2.2.2.1 v.2.2.2.2.2.2.2.2.2.2.2.2.2.2.2.2.2.2.2.2.2.2.2.2.2.2.2.2.1 v.2.2.2.2.2.2.2.2.2.2.2.2.2.2.2.2.2.2.2.2.2.2.2.2.2.2.2.2.2.1 v.2.2.2.2.2.2.2.2.2.2.2.2.2.2.2.2.2.2.2.2.2.2.2.2.2.2.2.2.2.2.1 v.2.2.2.2.2.2.2.2.2.2.2.2.2.2.2.2.2.2.2.2.2.2.2.2.2.2.2.2.2.2.2
namespace told_spec_a
noncomputable def w : World := told_spec_a_v.1
noncomputable def mean : ExcName → Option Value := told_spec_a_v.2.1
noncomputable def mg : Str → Option Value := told_spec_a_v.2.2.1
noncomputable def mb : Str → Option Value := told_spec_a_v.2.2.2.1
noncomputable def base : Heap := told_spec_a_v.2.2.2.2.1
noncomputable def h₀ : Heap := told_spec_a_v.2.2.2.2.2.1
noncomputable def outer : List Env := told_spec_a_v.2.2.2.2.2.2.1
noncomputable def env : Env := told_spec_a_v.2.2.2.2.2.2.2.1
noncomputable def L : Addr := told_spec_a_v.2.2.2.2.2.2.2.2.1
noncomputable def m : Str → Option Value := told_spec_a_v.2.2.2.2.2.2.2.2.2.1
noncomputable def news : List (Addr × Obj) := told_spec_a_v.2.2.2.2.2.2.2.2.2.2.1
noncomputable def s : Shared := told_spec_a_v.2.2.2.2.2.2.2.2.2.2.2.1
noncomputable def dp : Nat := told_spec_a_v.2.2.2.2.2.2.2.2.2.2.2.2.1
noncomputable def un : Nat := told_spec_a_v.2.2.2.2.2.2.2.2.2.2.2.2.2.1
noncomputable def gd : Option (List Code) := told_spec_a_v.2.2.2.2.2.2.2.2.2.2.2.2.2.2.1
noncomputable def Q : Value → Shared → Prop := told_spec_a_v.2.2.2.2.2.2.2.2.2.2.2.2.2.2.2.1
noncomputable def E : Value → Shared → Prop := told_spec_a_v.2.2.2.2.2.2.2.2.2.2.2.2.2.2.2.2.1
noncomputable def x : Addr := told_spec_a_v.2.2.2.2.2.2.2.2.2.2.2.2.2.2.2.2.2.1
noncomputable def dx : Addr := told_spec_a_v.2.2.2.2.2.2.2.2.2.2.2.2.2.2.2.2.2.2.1
noncomputable def dc : Addr := told_spec_a_v.2.2.2.2.2.2.2.2.2.2.2.2.2.2.2.2.2.2.2.1
noncomputable def mode : Mode := told_spec_a_v.2.2.2.2.2.2.2.2.2.2.2.2.2.2.2.2.2.2.2.2.1
noncomputable def most : Int := told_spec_a_v.2.2.2.2.2.2.2.2.2.2.2.2.2.2.2.2.2.2.2.2.2.1
noncomputable def st : FSt := told_spec_a_v.2.2.2.2.2.2.2.2.2.2.2.2.2.2.2.2.2.2.2.2.2.2.1
noncomputable def od : Obj := told_spec_a_v.2.2.2.2.2.2.2.2.2.2.2.2.2.2.2.2.2.2.2.2.2.2.2.1
noncomputable def oc : Obj := told_spec_a_v.2.2.2.2.2.2.2.2.2.2.2.2.2.2.2.2.2.2.2.2.2.2.2.2.1
noncomputable def g : Heap := told_spec_a_v.2.2.2.2.2.2.2.2.2.2.2.2.2.2.2.2.2.2.2.2.2.2.2.2.2.1
noncomputable def hs : Nat → Int := told_spec_a_v.2.2.2.2.2.2.2.2.2.2.2.2.2.2.2.2.2.2.2.2.2.2.2.2.2.2.1
noncomputable def ts : Nat → Tok := told_spec_a_v.2.2.2.2.2.2.2.2.2.2.2.2.2.2.2.2.2.2.2.2.2.2.2.2.2.2.2.1
noncomputable def za0 : Addr := told_spec_a_v.2.2.2.2.2.2.2.2.2.2.2.2.2.2.2.2.2.2.2.2.2.2.2.2.2.2.2.2.1
noncomputable def za1 : Heap := told_spec_a_v.2.2.2.2.2.2.2.2.2.2.2.2.2.2.2.2.2.2.2.2.2.2.2.2.2.2.2.2.2.1
noncomputable def za2 : Nat := told_spec_a_v.2.2.2.2.2.2.2.2.2.2.2.2.2.2.2.2.2.2.2.2.2.2.2.2.2.2.2.2.2.2.1
noncomputable def za5 : Obj := told_spec_a_v.2.2.2.2.2.2.2.2.2.2.2.2.2.2.2.2.2.2.2.2.2.2.2.2.2.2.2.2.2.2.2
set_option maxHeartbeats 8000000 in
theorem walk : told_spec_a_pre.1 w mean mg mb base h₀ outer env L m news s dp un gd Q E x dx dc mode most st od oc g hs ts za0 za1 za2 za5 := by
  delta told_spec_a_pre
  dsimp only
  intro hd hu hod hx hdx hdc R hcd lo hl ret st' B fr kp ns hN hxd hxc X C T za3 za4 za6 za7
  dsimp only [fileD] at *
  k_with "eval ListComp" => ((rename Flagged 3 => mk3); ((k_dflt (refine lc_U (F₀ := by k_asm) (by with_unfolding_all rfl) (by decide) (by rfl) (by decide) (by rfl) ?_))))
  have mk3 : Flagged 3 := ⟨⟩
  k_steps
  rename_i D1 v1 c1 h1 tk1 ns1 F1 N1 i1 p1 o1 l1
  have hlen : ns1.length < 64 := by have := p1.length_eq; rw [rkeys, List.length_map] at this; omega
  have hvl := i1.length
  refine cs_U (src_list rfl ⟨_, (N1 _ (.head _)).1, rfl, _, rfl⟩) F1 N1 (by rw [sizeLine_eq]; simp only [List.size_toArray]; omega) (fun t => .inr ⟨_, .head _, rfl, _, rfl⟩)
    (fun i ys tail => Paired (DN tail 1) ys ((ns1.take i).map (pairD st.rows))) .nil ?_ ?_
  · intro i ys tail v I oI C' oC D m₂ h tk E' hi hP hG hC hx F N off own ne
    obtain ⟨n, t, rfl, hsp, htk⟩ := ints_split i1 hP
    have hn : rhas st.rows n = true := rhas_iff.mpr (p1.mem_iff.mp (by rw [hsp]; simp))
    simp only [List.cons_append, List.nil_append] at N
    simp only [Off3, and_true] at off
    simp only [List.map_cons, List.map_nil] at own
    k_steps
    rename_i T h3 F3 N3 l3
    refine TEnd.intro [(T, _)] F3 N3 (fun _ hp => hp) ?_ ?_
    · walk_at "S ownnew"
    · rw [htk, List.map_append]
      exact psnoc (pimp (fun _ _ x => x.mono fun _ hp => .tail _ hp) hG) (.tuple (.head _) (.cons (.flat (.int _ _)) (.cons (.flat (.bytes _ _)) .nil)))
  · intro g3 ys tail hG own
    unfold FinE
    intro D3 h3 tk3 F3 N3 off3
    have own3 := own_of_off1 off3 own
    have off3 := off1_left off3
    clear own
    simp only [List.cons_append, List.nil_append] at N3
    simp only [Off1, and_true] at off3
    simp only [List.map_cons, List.map_nil] at own3
    have hys : ys.length < 64 := by have := hG.length; rw [List.length_map, List.length_take] at this; omega
    k_steps
    rename_i T1 h4 l4 h4b T2 h5 F5 N5 l5
    have lt4 : ∀ p ∈ tail, @LT.lt Nat _ p.1 T1 := allLt_mem l4.2.2.2.2.2.2
    have lt5 : ∀ p ∈ tail, @LT.lt Nat _ p.1 T2 := allLt_mem l5.2.2.2.2.2.2.2
    have oT : OwnOff ((T2, tupO #[.str mode.s (ts 9), .str (Str.ofString "sequential") (ts 10), .int st.place (ts 12), .bool st.beh, .bool st.val, .int st.last (ts 13), .int st.number (ts 14), .ref T1]) :: (T1, tupO ys.toArray) :: tail) [x, dx, dc] :=
      own_cons (by walk_at "S ones") (own_cons (by walk_at "S ones") (own_sub own3 (by simp)))
    have Nf : News g _ h5 ((T2, tupO #[.str mode.s (ts 9), .str (Str.ofString "sequential") (ts 10), .int st.place (ts 12), .bool st.beh, .bool st.val, .int st.last (ts 13), .int st.number (ts 14), .ref T1]) :: (T1, tupO ys.toArray) :: tail) :=
      fun p hp => N5 p (by simp only [List.mem_cons] at hp ⊢; grind)
    have nall := ns _ _ (aft_of F5 Nf)
    have nold := news_same C hN (ns _ _ ((aft_of F5 N5).sub (by simp))) (fun p hp hq => kp _ p F5.keep hp hq)
    have sep := fresh_off C hN Nf oT
    refine ret T2 T1 ((T1, tupO ys.toArray) :: tail) ns1 h5 _ (ts 9) (ts 10) (ts 12) (ts 13) (ts 14) (fr _ F5.keep) (fun p hp => ?_) (fun p hp e => sep _ (.head _) p hp e.symm) (fun p hp => ⟨?_, fun q hq => sep p (.tail _ hp) q hq⟩) p1 o1 ?_
    · rcases List.mem_cons.mp hp with rfl | hp
      · exact nall _ (.head _)
      · rcases List.mem_append.mp hp with hp | hp
        · exact nold p hp
        · exact nall p (.tail _ hp)
    · rcases List.mem_cons.mp hp with rfl | hp
      · exact Nat.ne_of_lt l5.1
      · exact Nat.ne_of_lt (lt5 p hp)
    · refine .tuple (.head _) ?_
      have hG' := hG
      rw [show v1.toArray.size = ns1.length by simpa using hvl, List.take_length] at hG'
      exact pimp (fun _ _ x => x.mono fun _ hp => .tail _ hp) hG'
end told_spec_a
theorem told_spec_a_all : ∀ (w' : World) (mean' : ExcName → Option Value) (mg' : Str → Option Value) (mb' : Str → Option Value) (base' : Heap) (h₀' : Heap) (outer' : List Env) (env' : Env) (L' : Addr) (m' : Str → Option Value) (news' : List (Addr × Obj)) (s' : Shared) (dp' : Nat) (un' : Nat) (gd' : Option (List Code)) (Q' : Value → Shared → Prop) (E' : Value → Shared → Prop) (x' : Addr) (dx' : Addr) (dc' : Addr) (mode' : Mode) (most' : Int) (st' : FSt) (od' : Obj) (oc' : Obj) (g' : Heap) (hs' : Nat → Int) (ts' : Nat → Tok) (za0' : Addr) (za1' : Heap) (za2' : Nat) (za5' : Obj), told_spec_a_pre.1 w' mean' mg' mb' base' h₀' outer' env' L' m' news' s' dp' un' gd' Q' E' x' dx' dc' mode' most' st' od' oc' g' hs' ts' za0' za1' za2' za5' := by
  intro w' mean' mg' mb' base' h₀' outer' env' L' m' news' s' dp' un' gd' Q' E' x' dx' dc' mode' most' st' od' oc' g' hs' ts' za0' za1' za2' za5'
  have hw := told_spec_a.walk
  with_unfolding_all exact hk (α := (World) × (ExcName → Option Value) × (Str → Option Value) × (Str → Option Value) × (Heap) × (Heap) × (List Env) × (Env) × (Addr) × (Str → Option Value) × (List (Addr × Obj)) × (Shared) × (Nat) × (Nat) × (Option (List Code)) × (Value → Shared → Prop) × (Value → Shared → Prop) × (Addr) × (Addr) × (Addr) × (Mode) × (Int) × (FSt) × (Obj) × (Obj) × (Heap) × (Nat → Int) × (Nat → Tok) × (Addr) × (Heap) × (Nat) × (Obj)) (p := fun v => told_spec_a_pre.1 v.1 v.2.1 v.2.2.1 v.2.2.2.1 v.2.2.2.2.1 v.2.2.2.2.2.1 v.2.2.2.2.2.2.1 v.2.2.2.2.2.2.2.1 v.2.2.2.2.2.2.2.2.1 v.2.2.2.2.2.2.2.2.2.1 v.2.2.2.2.2.2.2.2.2.2.1 v.2.2.2.2.2.2.2.2.2.2.2.1 v.2.2.2.2.2.2.2.2.2.2.2.2.1 v.2.2.2.2.2.2.2.2.2.2.2.2.2.1 v.2.2.2.2.2.2.2.2.2.2.2.2.2.2.1 v.2.2.2.2.2.2.2.2.2.2.2.2.2.2.2.1 v.2.2.2.2.2.2.2.2.2.2.2.2.2.2.2.2.1 v.2.2.2.2.2.2.2.2.2.2.2.2.2.2.2.2.2.1 v.2.2.2.2.2.2.2.2.2.2.2.2.2.2.2.2.2.2.1 v.2.2.2.2.2.2.2.2.2.2.2.2.2.2.2.2.2.2.2.1 v.2.2.2.2.2.2.2.2.2.2.2.2.2.2.2.2.2.2.2.2.1 v.2.2.2.2.2.2.2.2.2.2.2.2.2.2.2.2.2.2.2.2.2.1 v.2.2.2.2.2.2.2.2.2.2.2.2.2.2.2.2.2.2.2.2.2.2.1 v.2.2.2.2.2.2.2.2.2.2.2.2.2.2.2.2.2.2.2.2.2.2.2.1 v.2.2.2.2.2.2.2.2.2.2.2.2.2.2.2.2.2.2.2.2.2.2.2.2.1 v.2.2.2.2.2.2.2.2.2.2.2.2.2.2.2.2.2.2.2.2.2.2.2.2.2.1 v.2.2.2.2.2.2.2.2.2.2.2.2.2.2.2.2.2.2.2.2.2.2.2.2.2.2.1 v.2.2.2.2.2.2.2.2.2.2.2.2.2.2.2.2.2.2.2.2.2.2.2.2.2.2.2.1 v.2.2.2.2.2.2.2.2.2.2.2.2.2.2.2.2.2.2.2.2.2.2.2.2.2.2.2.2.1 v.2.2.2.2.2.2.2.2.2.2.2.2.2.2.2.2.2.2.2.2.2.2.2.2.2.2.2.2.2.1 v.2.2.2.2.2.2.2.2.2.2.2.2.2.2.2.2.2.2.2.2.2.2.2.2.2.2.2.2.2.2.1 v.2.2.2.2.2.2.2.2.2.2.2.2.2.2.2.2.2.2.2.2.2.2.2.2.2.2.2.2.2.2.2) hw (w', mean', mg', mb', base', h₀', outer', env', L', m', news', s', dp', un', gd', Q', E', x', dx', dc', mode', most', st', od', oc', g', hs', ts', za0', za1', za2', za5')
theorem told_spec {w : World} {mean : ExcName → Option Value} {mg mb : Str → Option Value} {A₀ : Around} {base h₀ : Heap} {outer : List Env} {env : Env} {L : Addr} {m : Str → Option Value} {news : List (Addr × Obj)} {s : Shared} {dp un : Nat} {gd : Option (List Code)} {Q E : Value → Shared → Prop} (H : Here w mean mg mb A₀ base h₀ outer env L m news s.heap) (hd : dp + 40 < recursionLimit) (hu : un + 400 < cLine) {x dx dc : Addr} {mode : Mode} {most : Int} {st : FSt} {od : Obj} 
    {oc : Obj} (hod : FileObj dc mode.s (Str.ofString "sequential") most st od) (hx : (x, instObj 168 dx) ∈ news) (hdx : (dx, od) ∈ news) (hdc : (dc, oc) ∈ news) (R : RowsO w oc st.rows) (hcd : @Ne Nat dc dx) (lo : (dc == sysModules) = false) (hl : st.rows.length < 64)
    (ret : ∀ a ra tail (ns : List Int) h' tk' t1 t2 t3 t4 t5, Fr h₀ L h' m → News h₀ L h' ((a, tupO #[.str mode.s t1, .str (Str.ofString "sequential") t2, .int st.place t3, .bool st.beh, .bool st.val, .int st.last t4, .int st.number t5, .ref ra]) :: (news ++ tail)) → (∀ p ∈ news, p.1 ≠ a) → (∀ p ∈ tail, p.1 ≠ a ∧ ∀ q ∈ news, p.1 ≠ q.1) →
      ns.Perm (rkeys st.rows) → ns.Pairwise (· ≤ ·) → DN tail 2 (.ref ra) (.tuple (ns.map (pairD st.rows))) → Q (.ref a) { s with heap := h', toks := tk' }) :
    wpAny (model PySem.Challenge.rw_og0083_01.row.prog w) (aro dp un gd (env :: outer)) (call (.ref 165) [.ref x]) Q E s := by
  exact told_spec_a_pre.2 told_spec_a_all w mean mg mb A₀ base h₀ outer env L m news s dp un gd Q E H hd hu x dx dc mode most st od oc hod hx hdx hdc R hcd lo hl ret
end
noncomputable def fInit (mode : Mode) (r : RowsT) : FSt :=
  { rows := if mode = .out then [] else r, place := 1, beh := false, val := true, last := 0, number := if mode = .ext ∧ r ≠ [] then maxL (rkeys r) else 0 }
theorem fi_io {r : RowsT} : fInit .io r = ⟨r, 1, false, true, 0, 0⟩ := by unfold fInit; simp
theorem fi_inp {r : RowsT} : fInit .inp r = ⟨r, 1, false, true, 0, 0⟩ := by unfold fInit; simp
theorem fi_out {r : RowsT} : fInit .out r = ⟨[], 1, false, true, 0, 0⟩ := by unfold fInit; simp
theorem fi_ext0 {r : RowsT} (h : r.isEmpty = true) : fInit .ext r = ⟨r, 1, false, true, 0, 0⟩ := by unfold fInit; cases r <;> simp_all
theorem fi_ext {r : RowsT} {M : Int} (h : r.isEmpty = false) (h1 : M ∈ rkeys r) (h2 : ∀ a ∈ rkeys r, a ≤ M) : fInit .ext r = ⟨r, 1, false, true, 0, M⟩ := by
  have hr : r ≠ [] := by intro e; subst e; simp at h
  unfold fInit; simp [hr, maxL_eq h1 h2]
theorem words17 : True := by
  k_with "S some" => ((apply List.length_pos_iff.mpr; intro e; simp_all))
  k_with "call builtin:max" => ((k_here; (with_reducible show wpAny _ _ (call (Value.builtin _) [Value.ref _]) _ _ _); k_dflt (refine' rows_max (by rfl) (by k_asm) (by k_asm) (by walk_at "S rows") (by k_asm) (by walk_at "S some") ?_; k_whole); (intro _ _ _ _ _ _ _ _); (try k_sweep)))
  k_with "call builtin:min" => ((k_here; (with_reducible show wpAny _ _ (call (Value.builtin _) [Value.ref _]) _ _ _); k_dflt (refine' rows_min (by rfl) (by k_asm) (by k_asm) (by walk_at "S rows") (by k_asm) (by walk_at "S some") ?_; k_whole); (intro _ _ _ _ _ _ _ _); (try k_sweep)))
  trivial
section

set_option maxHeartbeats 8000000 in
noncomputable def init_spec_a_pre : (Pa : (World) → (ExcName → Option Value) → (Str → Option Value) → (Str → Option Value) → (Heap) → (Heap) → (List Env) → (Env) → (Addr) → (Str → Option Value) → (List (Addr × Obj)) → (Shared) → (Nat) → (Nat) → (Option (List Code)) → (Value → Shared → Prop) → (Value → Shared → Prop) → (Addr) → (Int) → (Tok) → (Tok) → (Tok) → (RowsT) → (Obj) → (Obj → List (Addr × Obj)) → (Addr) → (Addr) → (Heap) → (Heap) → (Addr) → (Heap) → (Nat) → Prop) ×' ((∀ w mean mg mb base h₀ outer env L m news s dp un gd Q E dc most tm ta tn rows oc u x dx h1 g L9 h9 tk9, Pa w mean mg mb base h₀ outer env L m news s dp un gd Q E dc most tm ta tn rows oc u x dx h1 g L9 h9 tk9) → (∀ (w : World) (mean : ExcName → Option Value) (mg mb : Str → Option Value) (A₀ : Around) (base h₀ : Heap) (outer : List Env) (env : Env) (L : Addr) (m : Str → Option Value) (news : List (Addr × Obj)) (s : Shared) (dp un : Nat) (gd : Option (List Code)) (Q E : Value → Shared → Prop) (H : Here w mean mg mb A₀ base h₀ outer env L m news s.heap) (hd : dp + 40 < recursionLimit) (hu : un + 400 < cLine) (dc : Addr) (mode : Mode) (most : Int) (tm ta tn : Tok) (rows : RowsT) (oc : Obj) (u : Obj → List (Addr × Obj)) (U : UpdF dc oc news u) (hdc : (dc, oc) ∈ news) (R : RowsO w oc rows) (lo : (dc == sysModules) = false) (hl : rows.length < 64) (ret : ∀ x dx od' oc' h' tk', Fr h₀ L h' m → News h₀ L h' ((x, instObj 168 dx) :: (dx, od') :: u oc') → (∀ p ∈ news, p.1 < dx) → @LT.lt Nat _ dx x → FileObj dc mode.s (Str.ofString "sequential") most (fInit mode rows) od' → RowsO w oc' (fInit mode rows).rows → Q (.ref x) { s with heap := h', toks := tk' }), wpAny (model PySem.Challenge.rw_og0083_01.row.prog w) (aro dp un gd (env :: outer)) (call (.ref 168) [.ref dc, .str mode.s tm, .str (Str.ofString "sequential") ta, .int most tn]) Q E s)) := by
  refine' ⟨_, fun hPa => ?_⟩
  rotate_left 1
  · skip
    intro w mean mg mb A₀ base h₀ outer env L m news s dp un gd Q E H hd hu dc mode most tm ta tn rows oc u U hdc R lo hl ret
    have F := H.F
    have X := H.X
    have N := H.N
    (revert X; k_fill; intro X)
    refine' call_cls F X N ?k4 ?k5 ?k6 ?_
    (case k4 => k_is)
    (case k5 => k_is)
    (case k6 => k_is)
    k_whole
    intro x dx h1 F1 N1 l1 l2
    have H1 : Here w mean mg mb A₀ base h₀ outer env L m ((x, instObj 168 dx) :: (dx, dictOf [] 0) :: news) h1 := ⟨H.B, F1, H.X, N1, H.T, H.hf, H.hk⟩
    have hlx : ∀ p ∈ news, @LT.lt Nat _ p.1 x := fun p hp => Nat.lt_trans (l1 p hp) l2
    have hdcx : @LT.lt Nat _ dc dx := l1 _ hdc
    refine H1.cutK (dp := dp) (un := un) (gd := gd) (muts := [(x, instObj 168 dx), (dx, dictOf [] 0), (dc, oc)]) (by simp [hdc]) (fun g C st' B X' T fr kp ns hN => ?_)
    clear H H1 F X N F1
    (revert T C; revert X'; k_fill; intro X' T C)
    walk_at "S enter"
    rename_i L9 h9 tk9 F9 N9 l9
    k_sweep
    revert l9; revert N9; revert F9; revert C; revert T; revert X'; revert hN; revert ns; revert kp; revert fr; revert B; revert st'; revert hdcx; revert hlx; revert l2; revert l1; revert N1; revert ret; revert hl; revert lo; revert R; revert hdc; revert U; revert mode; revert hu; revert hd
    exact hPa w mean mg mb base h₀ outer env L m news s dp un gd Q E dc most tm ta tn rows oc u x dx h1 g L9 h9 tk9
noncomputable def init_spec_a_v : (World) × (ExcName → Option Value) × (Str → Option Value) × (Str → Option Value) × (Heap) × (Heap) × (List Env) × (Env) × (Addr) × (Str → Option Value) × (List (Addr × Obj)) × (Shared) × (Nat) × (Nat) × (Option (List Code)) × (Value → Shared → Prop) × (Value → Shared → Prop) × (Addr) × (Int) × (Tok) × (Tok) × (Tok) × (RowsT) × (Obj) × (Obj → List (Addr × Obj)) × (Addr) × (Addr) × (Heap) × (Heap) × (Addr) × (Heap) × (Nat) := @Classical.epsilon _ ⟨(w0, (fun _ => none), (fun _ => none), (fun _ => none), {}, {}, [], default, 0, (fun _ => none), [], {}, 0, 0, none, (fun _ => (fun _ => True)), (fun _ => (fun _ => True)), 0, 0, 0, 0, 0, [], default, (fun _ => []), 0, 0, {}, {}, 0, {}, 0)⟩ fun v => ¬ init_spec_a_pre.1 v.1 v.2.1 v.2.2.1 v.2.2.2.1 v.2.2.2.2.1 v.2.2.2.2.2.1 v.2.2.2.2.2.2.1 v.2.2.2.2.2.2.2.1 v.2.2.2.2.2.2.2.2.1 v.2.2.2.2.2.2.2.2.2.1 v.2.2.2.2.2.2.2.2.2.2.1 v.2.2.2.2.2.2.2.2.2.2.2.1 v.2.2.2.2.2.2.2.2.2.2.2.2.1 v.2.2.2.2.2.2.2.2.2.2.2.2.2.1 v.2.2.2.2.2.2.2.2.2.2.2.2.2.2.1 v.2.2.2.2.2.2.2.2.2.2.2.2.2.2.2.1 v.2.2.2.2.2.2.2.2.2.2.2.2.2.2.2.2.1 v.2.2.2.2.2.2.2.2.2.2.2.2.2.2.2.2.2.1 v.2.2.2.2.2.2.2.2.2.2.2.2.2.2.2.2.2.2.1 v.2.2.2.2.2.2.2.2.2.2.2.2.2.2.2.2.2.2.2.1 v.2.2.2.2.2.2.2.2.2.2.2.2.2.2.2.2.2.2.2.2.1 v.2.2.2.2.2.2.2.2.2.2.2.2.2.2.2.2.2.2.2.2.2.1 v.2.2.2.2.2.2.2.2.2.2.2.2.2.2.2.2.2.2.2.2.2.2.1 v.2.2.2.2.2.2.2.2.2.2.2.2.2.2.2.2.2.2.2.2.2.2.2.1 v.2.2.2.2.2.2.2.2.2.2.2.2.2.2.2.2.2.2.2.2.2.2.2.2.1 v.2.2.2.2.2.2.2.2.2.2.2.2.2.2.2.2.2.2.2.2.2.2.2.2.2.1 v.2.2.2.2.2.2.2.2.2.2.2.2.2.2.2.2.2.2.2.2.2.2.2.2.2.2.1 v.2.2.2.2.2.2.2.2.2.2.2.2.2.2.2.2.2.2.2.2.2.2.2.2.2.2.2.1 v.2.2.2.2.2.2.2.2.2.2.2.2.2.2.2.2.2.2.2.2.2.2.2.2.2.2.2.2.1 v.2.2.2.2.2.2.2.2.2.2.2.2.2.2.2.2.2.2.2.2.2.2.2.2.2.2.2.2.2.1 v.2.2.2.2.2.2.2.2.2.2.2.2.2.2.2.2.2.2.2.2.2.2.2.2.2.2.2.2.2.2.1 v.2.2.2.2.2.2.2.2.2.2.2.2.2.2.2.2.2.2.2.2.2.2.2.2.2.2.2.2.2.2.2
namespace init_spec_a
noncomputable def w : World := init_spec_a_v.1
noncomputable def mean : ExcName → Option Value := init_spec_a_v.2.1
noncomputable def mg : Str → Option Value := init_spec_a_v.2.2.1
noncomputable def mb : Str → Option Value := init_spec_a_v.2.2.2.1
noncomputable def base : Heap := init_spec_a_v.2.2.2.2.1
noncomputable def h₀ : Heap := init_spec_a_v.2.2.2.2.2.1
noncomputable def outer : List Env := init_spec_a_v.2.2.2.2.2.2.1
noncomputable def env : Env := init_spec_a_v.2.2.2.2.2.2.2.1
noncomputable def L : Addr := init_spec_a_v.2.2.2.2.2.2.2.2.1
noncomputable def m : Str → Option Value := init_spec_a_v.2.2.2.2.2.2.2.2.2.1
noncomputable def news : List (Addr × Obj) := init_spec_a_v.2.2.2.2.2.2.2.2.2.2.1
noncomputable def s : Shared := init_spec_a_v.2.2.2.2.2.2.2.2.2.2.2.1
noncomputable def dp : Nat := init_spec_a_v.2.2.2.2.2.2.2.2.2.2.2.2.1
noncomputable def un : Nat := init_spec_a_v.2.2.2.2.2.2.2.2.2.2.2.2.2.1
noncomputable def gd : Option (List Code) := init_spec_a_v.2.2.2.2.2.2.2.2.2.2.2.2.2.2.1
noncomputable def Q : Value → Shared → Prop := init_spec_a_v.2.2.2.2.2.2.2.2.2.2.2.2.2.2.2.1
noncomputable def E : Value → Shared → Prop := init_spec_a_v.2.2.2.2.2.2.2.2.2.2.2.2.2.2.2.2.1
noncomputable def dc : Addr := init_spec_a_v.2.2.2.2.2.2.2.2.2.2.2.2.2.2.2.2.2.1
noncomputable def most : Int := init_spec_a_v.2.2.2.2.2.2.2.2.2.2.2.2.2.2.2.2.2.2.1
noncomputable def tm : Tok := init_spec_a_v.2.2.2.2.2.2.2.2.2.2.2.2.2.2.2.2.2.2.2.1
noncomputable def ta : Tok := init_spec_a_v.2.2.2.2.2.2.2.2.2.2.2.2.2.2.2.2.2.2.2.2.1
noncomputable def tn : Tok := init_spec_a_v.2.2.2.2.2.2.2.2.2.2.2.2.2.2.2.2.2.2.2.2.2.1
noncomputable def rows : RowsT := init_spec_a_v.2.2.2.2.2.2.2.2.2.2.2.2.2.2.2.2.2.2.2.2.2.2.1
noncomputable def oc : Obj := init_spec_a_v.2.2.2.2.2.2.2.2.2.2.2.2.2.2.2.2.2.2.2.2.2.2.2.1
noncomputable def u : Obj → List (Addr × Obj) := init_spec_a_v.2.2.2.2.2.2.2.2.2.2.2.2.2.2.2.2.2.2.2.2.2.2.2.2.1
noncomputable def x : Addr := init_spec_a_v.2.2.2.2.2.2.2.2.2.2.2.2.2.2.2.2.2.2.2.2.2.2.2.2.2.1
noncomputable def dx : Addr := init_spec_a_v.2.2.2.2.2.2.2.2.2.2.2.2.2.2.2.2.2.2.2.2.2.2.2.2.2.2.1
noncomputable def h1 : Heap := init_spec_a_v.2.2.2.2.2.2.2.2.2.2.2.2.2.2.2.2.2.2.2.2.2.2.2.2.2.2.2.1
noncomputable def g : Heap := init_spec_a_v.2.2.2.2.2.2.2.2.2.2.2.2.2.2.2.2.2.2.2.2.2.2.2.2.2.2.2.2.1
noncomputable def L9 : Addr := init_spec_a_v.2.2.2.2.2.2.2.2.2.2.2.2.2.2.2.2.2.2.2.2.2.2.2.2.2.2.2.2.2.1
noncomputable def h9 : Heap := init_spec_a_v.2.2.2.2.2.2.2.2.2.2.2.2.2.2.2.2.2.2.2.2.2.2.2.2.2.2.2.2.2.2.1
noncomputable def tk9 : Nat := init_spec_a_v.2.2.2.2.2.2.2.2.2.2.2.2.2.2.2.2.2.2.2.2.2.2.2.2.2.2.2.2.2.2.2
set_option maxHeartbeats 8000000 in
theorem walk : init_spec_a_pre.1 w mean mg mb base h₀ outer env L m news s dp un gd Q E dc most tm ta tn rows oc u x dx h1 g L9 h9 tk9 := by
  delta init_spec_a_pre
  dsimp only
  intro hd hu mode U hdc R lo hl ret N1 l1 l2 hlx hdcx st' B fr kp ns hN X' T C F9 N9 l9
  have e1 : @Ne Nat dc dx := Nat.ne_of_lt hdcx
  have e2 : @Ne Nat dc x := Nat.ne_of_lt (Nat.lt_trans hdcx l2)
  have e3 : @Ne Nat dx x := Nat.ne_of_lt l2
  have fin : ∀ h' tk' L' m' led od' oc' st', Fr g L' h' m' → News g L' h' led → (x, instObj 168 dx) ∈ led → (dx, od') ∈ led → (dc, oc') ∈ led →
      FileObj dc mode.s (Str.ofString "sequential") most st' od' → fInit mode rows = st' → RowsO w oc' st'.rows → Q (.ref x) { s with heap := h', toks := tk' } := by
    intro h' tk' L' m' led od' oc' st' F' N' m1 m2 m3 hf he hr
    subst he
    have nn := ns _ _ ((aft_of F' N').sub (outs := [(x, instObj 168 dx), (dx, od'), (dc, oc')]) (by simp [m1, m2, m3]))
    refine ret x dx od' oc' h' tk' (fr _ F'.keep) (fun p hp => ?_) l1 l2 hf hr
    rcases List.mem_cons.mp hp with rfl | hp
    · exact nn _ (by simp)
    rcases List.mem_cons.mp hp with rfl | hp
    · exact nn _ (by simp)
    rcases updF_mem U hp with rfl | ⟨hp, hne⟩
    · exact nn _ (by simp)
    · have := l1 p hp
      refine kp _ p F'.keep (.tail _ (.tail _ hp)) fun hm => ?_
      simp only [List.map_cons, List.map_nil, List.mem_cons, List.not_mem_nil, or_false] at hm
      rcases hm with e | e | e
      · exact absurd (e ▸ hlx p hp) (Nat.lt_irrefl _)
      · exact absurd (e ▸ l1 p hp) (Nat.lt_irrefl _)
      · exact hne e
  cases mode
  all_goals k_steps
  all_goals (try (unfold InitBack))
  all_goals (try dsimp only)
  all_goals (try (refine ⟨rfl, ?_⟩))
  all_goals first
    | exact fin _ _ _ _ _ _ _ _ (by assumption) (by assumption) (by k_mem) (by k_mem) (by k_mem) (FileObj.mk ..) fi_io R
    | exact fin _ _ _ _ _ _ _ _ (by assumption) (by assumption) (by k_mem) (by k_mem) (by k_mem) (FileObj.mk ..) fi_inp R
    | exact fin _ _ _ _ _ _ _ _ (by assumption) (by assumption) (by k_mem) (by k_mem) (by k_mem) (FileObj.mk ..) fi_out (by assumption)
    | exact fin _ _ _ _ _ _ _ _ (by assumption) (by assumption) (by k_mem) (by k_mem) (by k_mem) (FileObj.mk ..) (fi_ext0 (by simp_all)) R
    | exact fin _ _ _ _ _ _ _ _ (by assumption) (by assumption) (by k_mem) (by k_mem) (by k_mem) (FileObj.mk ..) (fi_ext (by simp_all) (by assumption) (by assumption)) R
end init_spec_a
theorem init_spec_a_all : ∀ (w' : World) (mean' : ExcName → Option Value) (mg' : Str → Option Value) (mb' : Str → Option Value) (base' : Heap) (h₀' : Heap) (outer' : List Env) (env' : Env) (L' : Addr) (m' : Str → Option Value) (news' : List (Addr × Obj)) (s' : Shared) (dp' : Nat) (un' : Nat) (gd' : Option (List Code)) (Q' : Value → Shared → Prop) (E' : Value → Shared → Prop) (dc' : Addr) (most' : Int) (tm' : Tok) (ta' : Tok) (tn' : Tok) (rows' : RowsT) (oc' : Obj) (u' : Obj → List (Addr × Obj)) (x' : Addr) (dx' : Addr) (h1' : Heap) (g' : Heap) (L9' : Addr) (h9' : Heap) (tk9' : Nat), init_spec_a_pre.1 w' mean' mg' mb' base' h₀' outer' env' L' m' news' s' dp' un' gd' Q' E' dc' most' tm' ta' tn' rows' oc' u' x' dx' h1' g' L9' h9' tk9' := by
  intro w' mean' mg' mb' base' h₀' outer' env' L' m' news' s' dp' un' gd' Q' E' dc' most' tm' ta' tn' rows' oc' u' x' dx' h1' g' L9' h9' tk9'
  have hw := init_spec_a.walk
  with_unfolding_all exact hk (α := (World) × (ExcName → Option Value) × (Str → Option Value) × (Str → Option Value) × (Heap) × (Heap) × (List Env) × (Env) × (Addr) × (Str → Option Value) × (List (Addr × Obj)) × (Shared) × (Nat) × (Nat) × (Option (List Code)) × (Value → Shared → Prop) × (Value → Shared → Prop) × (Addr) × (Int) × (Tok) × (Tok) × (Tok) × (RowsT) × (Obj) × (Obj → List (Addr × Obj)) × (Addr) × (Addr) × (Heap) × (Heap) × (Addr) × (Heap) × (Nat)) (p := fun v => init_spec_a_pre.1 v.1 v.2.1 v.2.2.1 v.2.2.2.1 v.2.2.2.2.1 v.2.2.2.2.2.1 v.2.2.2.2.2.2.1 v.2.2.2.2.2.2.2.1 v.2.2.2.2.2.2.2.2.1 v.2.2.2.2.2.2.2.2.2.1 v.2.2.2.2.2.2.2.2.2.2.1 v.2.2.2.2.2.2.2.2.2.2.2.1 v.2.2.2.2.2.2.2.2.2.2.2.2.1 v.2.2.2.2.2.2.2.2.2.2.2.2.2.1 v.2.2.2.2.2.2.2.2.2.2.2.2.2.2.1 v.2.2.2.2.2.2.2.2.2.2.2.2.2.2.2.1 v.2.2.2.2.2.2.2.2.2.2.2.2.2.2.2.2.1 v.2.2.2.2.2.2.2.2.2.2.2.2.2.2.2.2.2.1 v.2.2.2.2.2.2.2.2.2.2.2.2.2.2.2.2.2.2.1 v.2.2.2.2.2.2.2.2.2.2.2.2.2.2.2.2.2.2.2.1 v.2.2.2.2.2.2.2.2.2.2.2.2.2.2.2.2.2.2.2.2.1 v.2.2.2.2.2.2.2.2.2.2.2.2.2.2.2.2.2.2.2.2.2.1 v.2.2.2.2.2.2.2.2.2.2.2.2.2.2.2.2.2.2.2.2.2.2.1 v.2.2.2.2.2.2.2.2.2.2.2.2.2.2.2.2.2.2.2.2.2.2.2.1 v.2.2.2.2.2.2.2.2.2.2.2.2.2.2.2.2.2.2.2.2.2.2.2.2.1 v.2.2.2.2.2.2.2.2.2.2.2.2.2.2.2.2.2.2.2.2.2.2.2.2.2.1 v.2.2.2.2.2.2.2.2.2.2.2.2.2.2.2.2.2.2.2.2.2.2.2.2.2.2.1 v.2.2.2.2.2.2.2.2.2.2.2.2.2.2.2.2.2.2.2.2.2.2.2.2.2.2.2.1 v.2.2.2.2.2.2.2.2.2.2.2.2.2.2.2.2.2.2.2.2.2.2.2.2.2.2.2.2.1 v.2.2.2.2.2.2.2.2.2.2.2.2.2.2.2.2.2.2.2.2.2.2.2.2.2.2.2.2.2.1 v.2.2.2.2.2.2.2.2.2.2.2.2.2.2.2.2.2.2.2.2.2.2.2.2.2.2.2.2.2.2.1 v.2.2.2.2.2.2.2.2.2.2.2.2.2.2.2.2.2.2.2.2.2.2.2.2.2.2.2.2.2.2.2) hw (w', mean', mg', mb', base', h₀', outer', env', L', m', news', s', dp', un', gd', Q', E', dc', most', tm', ta', tn', rows', oc', u', x', dx', h1', g', L9', h9', tk9')
theorem init_spec {w : World} {mean : ExcName → Option Value} {mg mb : Str → Option Value} {A₀ : Around} {base h₀ : Heap} {outer : List Env} {env : Env} {L : Addr} {m : Str → Option Value} {news : List (Addr × Obj)} {s : Shared} {dp un : Nat} {gd : Option (List Code)} {Q E : Value → Shared → Prop} (H : Here w mean mg mb A₀ base h₀ outer env L m news s.heap) (hd : dp + 40 < recursionLimit) (hu : un + 400 < cLine) {dc : Addr} {mode : Mode} {most : Int} {tm ta tn : Tok} {rows : RowsT}
    {oc : Obj} {u : Obj → List (Addr × Obj)} (U : UpdF dc oc news u) (hdc : (dc, oc) ∈ news) (R : RowsO w oc rows) (lo : (dc == sysModules) = false) (hl : rows.length < 64)
    (ret : ∀ x dx od' oc' h' tk', Fr h₀ L h' m → News h₀ L h' ((x, instObj 168 dx) :: (dx, od') :: u oc') → (∀ p ∈ news, p.1 < dx) → @LT.lt Nat _ dx x → FileObj dc mode.s (Str.ofString "sequential") most (fInit mode rows) od' → RowsO w oc' (fInit mode rows).rows → Q (.ref x) { s with heap := h', toks := tk' }) :
    wpAny (model PySem.Challenge.rw_og0083_01.row.prog w) (aro dp un gd (env :: outer)) (call (.ref 168) [.ref dc, .str mode.s tm, .str (Str.ofString "sequential") ta, .int most tn]) Q E s := by
  exact init_spec_a_pre.2 init_spec_a_all w mean mg mb A₀ base h₀ outer env L m news s dp un gd Q E H hd hu dc mode most tm ta tn rows oc u U hdc R lo hl ret
end
inductive Deed
  | read | start (op : Op) (n : Int) | write (b : Bts) | rewrite (b : Bts) | delete
inductive Res
  | row (s : Str) (b : Bts) | st (s : Str)
noncomputable def Res.d : Res → Dat
  | .row s b => .tuple [.str s, .bytes b]
  | .st s => .str s
noncomputable def fStep (mode : Mode) (most : Int) : Deed → FSt → Res × FSt
  | .read, st => (.row (fReadNext mode most st).1.1 (fReadNext mode most st).1.2, (fReadNext mode most st).2)
  | .start op n, st => (.st (fStart mode op n st).1, (fStart mode op n st).2)
  | .write b, st => (.st (fWrite mode most b st).1, (fWrite mode most b st).2)
  | .rewrite b, st => (.st (fRewrite mode b st).1, (fRewrite mode b st).2)
  | .delete, st => (.st (fDelete mode st).1, (fDelete mode st).2)
noncomputable def fRun (mode : Mode) (most : Int) : List Deed → FSt → List Res × FSt
  | [], st => ([], st)
  | d :: r, st => ((fStep mode most d st).1 :: (fRun mode most r (fStep mode most d st).2).1, (fRun mode most r (fStep mode most d st).2).2)
theorem fRun_snoc (mode : Mode) (most : Int) (d : Deed) : ∀ (l : List Deed) (st : FSt), fRun mode most (l ++ [d]) st =
    ((fRun mode most l st).1 ++ [(fStep mode most d (fRun mode most l st).2).1], (fStep mode most d (fRun mode most l st).2).2)
  | [], st => rfl
  | x :: l, st => by
    show fRun mode most (x :: (l ++ [d])) st = _
    rw [fRun, fRun_snoc mode most d l]
    rfl
noncomputable def FOk (st : FSt) : Prop := 0 < st.last → rhas st.rows st.last = true
theorem rput_length (r : RowsT) (k : Int) (b : Bts) : (rput r k b).length ≤ r.length + 1 := by
  unfold rput; split
  · rw [List.length_map]; omega
  · rw [List.length_append]; simp
theorem rdel_length (r : RowsT) (k : Int) : (rdel r k).length ≤ r.length := by unfold rdel; exact List.length_filter_le _ _
theorem fStep_ok (mode : Mode) (most : Int) (d : Deed) (st : FSt) : FOk (fStep mode most d st).2 := by
  cases d with
  | read =>
    show FOk (fReadNext mode most st).2
    unfold fReadNext
    split
    · intro h; exact absurd h (by simp)
    split
    · intro h; exact absurd h (by simp)
    split
    · intro h; exact absurd h (by simp)
    split
    · intro h; exact absurd h (by simp)
    · rename_i h _
      intro _; exact leastL_has h
  | start op n => show FOk (fStart mode op n st).2; unfold fStart; split <;> (try split) <;> (intro h; exact absurd h (by simp))
  | write b => show FOk (fWrite mode most b st).2; unfold fWrite; split <;> (try split) <;> (try split) <;> (intro h; exact absurd h (by simp))
  | rewrite b => show FOk (fRewrite mode b st).2; unfold fRewrite; split <;> (try split) <;> (intro h; exact absurd h (by simp))
  | delete => show FOk (fDelete mode st).2; unfold fDelete; split <;> (try split) <;> (intro h; exact absurd h (by simp))
theorem fStep_length (mode : Mode) (most : Int) (d : Deed) (st : FSt) : (fStep mode most d st).2.rows.length ≤ st.rows.length + 1 := by
  cases d with
  | read => show (fReadNext mode most st).2.rows.length ≤ _; unfold fReadNext fFound; split <;> (try split) <;> (try split) <;> (try split) <;> simp
  | start op n => show (fStart mode op n st).2.rows.length ≤ _; unfold fStart; split <;> (try split) <;> simp
  | write b => show (fWrite mode most b st).2.rows.length ≤ _; unfold fWrite; split <;> (try split) <;> (try split) <;> first | (exact rput_length _ _ _) | simp
  | rewrite b => show (fRewrite mode b st).2.rows.length ≤ _; unfold fRewrite; split <;> (try split) <;> first | (exact rput_length _ _ _) | simp
  | delete => show (fDelete mode st).2.rows.length ≤ _; unfold fDelete; split <;> (try split) <;> first | (exact Nat.le_succ_of_le (rdel_length _ _)) | simp
theorem fRun_ok (mode : Mode) (most : Int) : ∀ (l : List Deed) (st : FSt), FOk st → FOk (fRun mode most l st).2
  | [], st, h => h
  | d :: l, st, _ => fRun_ok mode most l _ (fStep_ok mode most d st)
theorem fRun_length (mode : Mode) (most : Int) : ∀ (l : List Deed) (st : FSt), (fRun mode most l st).2.rows.length ≤ st.rows.length + l.length
  | [], st => by simp [fRun]
  | d :: l, st => by
    have h1 := fRun_length mode most l (fStep mode most d st).2
    have h2 := fStep_length mode most d st
    simp only [fRun, List.length_cons]; omega
theorem fInit_ok (mode : Mode) (r : RowsT) : FOk (fInit mode r) := fun h => absurd h (by simp [fInit])
theorem fInit_length (mode : Mode) (r : RowsT) : (fInit mode r).rows.length ≤ r.length := by unfold fInit; simp only; split <;> simp

inductive DeedI : Deed → List Value → Prop
  | read (t : Tok) : DeedI .read [.str (Str.ofString "read") t]
  | start (op : Op) (n : Int) (t u v : Tok) : DeedI (.start op n) [.str (Str.ofString "start") t, .str op.s u, .int n v]
  | write (b : Bts) (t u : Tok) : DeedI (.write b) [.str (Str.ofString "write") t, .bytes b u]
  | rewrite (b : Bts) (t u : Tok) : DeedI (.rewrite b) [.str (Str.ofString "rewrite") t, .bytes b u]
  | delete1 (t : Tok) : DeedI .delete [.str (Str.ofString "delete") t]
  | delete2 (b : Bts) (t u : Tok) : DeedI .delete [.str (Str.ofString "delete") t, .bytes b u]
noncomputable def DeedAt (h : Heap) (v : Value) (d : Deed) : Prop := ∃ a vs, v = .ref a ∧ IsTup h a (List.toArray vs) ∧ DeedI d vs
theorem DeedAt.keeps {h h' : Heap} (k : ∀ b o, h.get? b = some o → h'.get? b = some o) {v : Value} {d : Deed} (x : DeedAt h v d) : DeedAt h' v d := by
  obtain ⟨a, vs, e, ⟨o, ho, r⟩, i⟩ := x
  exact ⟨a, vs, e, ⟨o, k _ _ ho, r⟩, i⟩
theorem cut_tup {muts : List (Addr × Obj)} {h g : Heap} (C : Cut muts h g) {a : Addr} {its : Array Value} (x : IsTup h a its) (hm : ∀ p ∈ muts, p.2.cls ≠ .type "tuple") : IsTup g a its := by
  obtain ⟨o, ho, hc, r⟩ := x
  refine ⟨o, C.rest a o ho fun q => ?_, hc, r⟩
  obtain ⟨p, hp, e⟩ := List.mem_map.mp q
  have := (C.here p hp).1
  rw [e, ho] at this
  exact hm p hp (Option.some.inj this ▸ hc)
local macro_rules | `(tactic| k_mem) => `(tactic| assumption)
theorem words18 : True := by
  k_with "S here" => (exact ⟨by k_asm, by k_asm, by k_asm, by k_asm, by k_asm, rfl, rfl⟩)
  k_with "S ne" => (first | assumption | k_ne | exact Ne.symm (by assumption))
  k_with "call ref" => ((k_here; (with_reducible show wpAny _ _ (call (Value.ref 115) _ _) _ _ _); (k_dflt (show wpAny _ _ (call (Value.ref 115) [Value.ref _] []) _ _ _)); (k_dflt (refine' readNext_spec (by walk_at "S here") (by walk_at "S room") (by walk_at "S room") (by k_asm) (by k_dflt k_mem) (by k_updF) (by k_mem) (by k_mem) (by k_asm) (by walk_at "S ne") (by k_asm) (by walk_at "S len") ?_; k_whole)); (intro a' h' tk' od' t1 t2 F' N' ne' hf'); (try dsimp only at N'); (revert a' h' tk' od' t1 t2 F' N' ne' hf'; intro _ _ _ _ _ _ _ _ _ _); (try k_sweep)))
  k_with "call ref" => ((k_here; (with_reducible show wpAny _ _ (call (Value.ref 129) _ _) _ _ _); (k_dflt (show wpAny _ _ (call (Value.ref 129) [Value.ref _, Value.str _ _, Value.int _ _] []) _ _ _)); (k_dflt (refine' start_spec (by walk_at "S here") (by walk_at "S room") (by walk_at "S room") (by k_asm) (by k_dflt k_mem) (by k_updF) (by k_mem) (by k_mem) (by k_asm) (by walk_at "S ne") (by k_asm) (by walk_at "S len") ?_; k_whole)); (intro h' tk' od' t1 F' N' hf'); (try dsimp only at N'); (revert h' tk' od' t1 F' N' hf'; intro _ _ _ _ _ _ _); (try k_sweep)))
  k_with "S updF2" => ((intro _; (try dsimp only); k_updF))
  k_with "call ref" => ((k_here; (with_reducible show wpAny _ _ (call (Value.ref 137) _ _) _ _ _); (k_dflt (show wpAny _ _ (call (Value.ref 137) [Value.ref _, Value.bytes _ _] []) _ _ _)); (k_dflt (refine' write_spec (by walk_at "S here") (by walk_at "S room") (by walk_at "S room") (by k_asm) (by k_dflt k_mem) (by k_updF) (by walk_at "S updF2") (by k_mem) (by k_mem) (by k_asm) (by walk_at "S ne") (by k_asm) (by walk_at "S len") ?_; k_whole)); (intro h' tk' od' oc' t1 F' N' hf' R'); (try dsimp only at N'); (revert h' tk' od' oc' t1 F' N' hf' R'; intro _ _ _ _ _ _ _ _ _); (try k_sweep)))
  k_with "call ref" => ((k_here; (with_reducible show wpAny _ _ (call (Value.ref 152) _ _) _ _ _); (k_dflt (show wpAny _ _ (call (Value.ref 152) [Value.ref _, Value.bytes _ _] []) _ _ _)); (k_dflt (refine' rewrite_spec (by walk_at "S here") (by walk_at "S room") (by walk_at "S room") (by k_asm) (by k_dflt k_mem) (by k_updF) (by walk_at "S updF2") (by k_mem) (by k_mem) (by k_asm) (by walk_at "S ne") (by k_asm) (by walk_at "S len") ?_; k_whole)); (intro h' tk' od' oc' t1 F' N' hf' R'); (try dsimp only at N'); (revert h' tk' od' oc' t1 F' N' hf' R'; intro _ _ _ _ _ _ _ _ _); (try k_sweep)))
  k_with "call ref" => ((k_here; (with_reducible show wpAny _ _ (call (Value.ref 160) _ _) _ _ _); (k_dflt (show wpAny _ _ (call (Value.ref 160) [Value.ref _] []) _ _ _)); (k_dflt (refine' delete_spec (by walk_at "S here") (by walk_at "S room") (by walk_at "S room") (by k_asm) (by k_dflt k_mem) (by k_updF) (by walk_at "S updF2") (by k_mem) (by k_mem) (by k_asm) (by walk_at "S ne") (by k_asm) (by walk_at "S len") (by assumption) ?_; k_whole)); (intro h' tk' od' oc' t1 F' N' hf' R'); (try dsimp only at N'); (revert h' tk' od' oc' t1 F' N' hf' R'; intro _ _ _ _ _ _ _ _ _); (try k_sweep)))
  trivial
section

set_option maxHeartbeats 8000000 in
noncomputable def asked_spec_a_pre : (Pa : (World) → (ExcName → Option Value) → (Str → Option Value) → (Str → Option Value) → (Heap) → (Heap) → (List Env) → (Env) → (Addr) → (Str → Option Value) → (List (Addr × Obj)) → (Shared) → (Nat) → (Nat) → (Option (List Code)) → (Value → Shared → Prop) → (Value → Shared → Prop) → (Addr) → (Addr) → (Addr) → (Addr) → (Mode) → (Int) → (FSt) → (Obj) → (Obj → List (Addr × Obj)) → (Obj → Obj → List (Addr × Obj)) → (Obj) → (Heap) → (Nat → Int) → (Nat → Tok) → (Addr) → (Heap) → (Nat) → Prop) ×' ((∀ w mean mg mb base h₀ outer env L m news s dp un gd Q E x dx dc td mode most st od u u2 oc g hs ts L9 h9 tk9, Pa w mean mg mb base h₀ outer env L m news s dp un gd Q E x dx dc td mode most st od u u2 oc g hs ts L9 h9 tk9) → (∀ (w : World) (mean : ExcName → Option Value) (mg mb : Str → Option Value) (A₀ : Around) (base h₀ : Heap) (outer : List Env) (env : Env) (L : Addr) (m : Str → Option Value) (news : List (Addr × Obj)) (s : Shared) (dp un : Nat) (gd : Option (List Code)) (Q E : Value → Shared → Prop) (H : Here w mean mg mb A₀ base h₀ outer env L m news s.heap) (hd : dp + 60 < recursionLimit) (hu : un + 600 < cLine) (x dx dc td : Addr) (mode : Mode) (most : Int) (st : FSt) (od : Obj) (u : Obj → List (Addr × Obj)) (u2 : Obj → Obj → List (Addr × Obj)) (oc : Obj) (deed : Deed) (vs : List Value) (ht : IsTup s.heap td vs.toArray) (hv : DeedI deed vs) (hod : FileObj dc mode.s (Str.ofString "sequential") most st od) (hx : (x, instObj 168 dx) ∈ news) (U : UpdF dx od news u) (U2 : ∀ x, UpdF dc oc (u x) (u2 x)) (hdx : (dx, od) ∈ news) (hdc : (dc, oc) ∈ news) (R : RowsO w oc st.rows) (hcd : @Ne Nat dc dx) (lo : (dc == sysModules) = false) (hl : st.rows.length < 64) (hlast : FOk st) (ret : ∀ v h' tk' od' oc' tail, Fr h₀ L h' m → News h₀ L h' (tail ++ u2 od' oc') → (∀ p ∈ tail, ∀ q ∈ news, p.1 ≠ q.1) → DN tail 1 v (fStep mode most deed st).1.d → FileObj dc mode.s (Str.ofString "sequential") most (fStep mode most deed st).2 od' → RowsO w oc' (fStep mode most deed st).2.rows → Q v { s with heap := h', toks := tk' }), wpAny (model PySem.Challenge.rw_og0083_01.row.prog w) (aro dp un gd (env :: outer)) (call (.ref 282) [.ref x, .ref td]) Q E s)) := by
  refine' ⟨_, fun hPa => ?_⟩
  rotate_left 1
  · skip
    intro w mean mg mb A₀ base h₀ outer env L m news s dp un gd Q E H hd hu x dx dc td mode most st od u u2 oc deed vs ht hv hod hx U U2 hdx hdc R hcd lo hl hlast ret
    refine file_cut (dp := dp) (un := un) (gd := gd) H hod hx hdx hdc R (fun g hs ts C st' B X T fr kp ns hN hxd hxc => ?_)
    have hg : IsTup g td vs.toArray := cut_tup C ht (by
      obtain ⟨_, ⟨_, _, ⟨hc, _⟩, _⟩, _⟩ := R
      simp only [List.forall_mem_cons]
      exact ⟨(by intro h; cases h), (by show Value.type "dict" ≠ Value.type "tuple"; decide), (by rw [hc]; show Value.type "dict" ≠ Value.type "tuple"; decide), by simp⟩)
    clear H ht
    (revert C T; revert X; k_fill; intro X C T)
    refine wpAny_call ?_
    walk_at "S enter"
    rename_i L9 h9 tk9 F9 N9 l9
    k_sweep
    revert l9; revert N9; revert F9; revert T; revert C; revert X; revert hg; revert hxc; revert hxd; revert hN; revert ns; revert kp; revert fr; revert B; revert st'; revert ret; revert hlast; revert hl; revert lo; revert hcd; revert R; revert hdc; revert hdx; revert U2; revert U; revert hx; revert hod; revert hv; revert vs; revert deed; revert hu; revert hd
    exact hPa w mean mg mb base h₀ outer env L m news s dp un gd Q E x dx dc td mode most st od u u2 oc g hs ts L9 h9 tk9
noncomputable def asked_spec_a_v : (World) × (ExcName → Option Value) × (Str → Option Value) × (Str → Option Value) × (Heap) × (Heap) × (List Env) × (Env) × (Addr) × (Str → Option Value) × (List (Addr × Obj)) × (Shared) × (Nat) × (Nat) × (Option (List Code)) × (Value → Shared → Prop) × (Value → Shared → Prop) × (Addr) × (Addr) × (Addr) × (Addr) × (Mode) × (Int) × (FSt) × (Obj) × (Obj → List (Addr × Obj)) × (Obj → Obj → List (Addr × Obj)) × (Obj) × (Heap) × (Nat → Int) × (Nat → Tok) × (Addr) × (Heap) × (Nat) := @Classical.epsilon _ ⟨(w0, (fun _ => none), (fun _ => none), (fun _ => none), {}, {}, [], default, 0, (fun _ => none), [], {}, 0, 0, none, (fun _ => (fun _ => True)), (fun _ => (fun _ => True)), 0, 0, 0, 0, .inp, 0, ⟨[], 0, true, true, 0, 0⟩, default, (fun _ => []), (fun _ => (fun _ => [])), default, {}, (fun _ => 0), (fun _ => 0), 0, {}, 0)⟩ fun v => ¬ asked_spec_a_pre.1 v.1 v.2.1 v.2.2.1 v.2.2.2.1 v.2.2.2.2.1 v.2.2.2.2.2.1 v.2.2.2.2.2.2.1 v.2.2.2.2.2.2.2.1 v.2.2.2.2.2.2.2.2.1 v.2.2.2.2.2.2.2.2.2.1 v.2.2.2.2.2.2.2.2.2.2.1 v.2.2.2.2.2.2.2.2.2.2.2.1 v.2.2.2.2.2.2.2.2.2.2.2.2.1 v.2.2.2.2.2.2.2.2.2.2.2.2.2.1 v.2.2.2.2.2.2.2.2.2.2.2.2.2.2.1 v.2.2.2.2.2.2.2.2.2.2.2.2.2.2.2.1 v.2.2.2.2.2.2.2.2.2.2.2.2.2.2.2.2.1 v.2.2.2.2.2.2.2.2.2.2.2.2.2.2.2.2.2.1 v.2.2.2.2.2.2.2.2.2.2.2.2.2.2.2.2.2.2.1 v.2.2.2.2.2.2.2.2.2.2.2.2.2.2.2.2.2.2.2.1 v.2.2.2.2.2.2.2.2.2.2.2.2.2.2.2.2.2.2.2.2.1 v.2.2.2.2.2.2.2.2.2.2.2.2.2.2.2.2.2.2.2.2.2.1 v.2.2.2.2.2.2.2.2.2.2.2.2.2.2.2.2.2.2.2.2.2.2.1 v.2.2.2.2.2.2.2.2.2.2.2.2.2.2.2.2.2.2.2.2.2.2.2.1 v.2.2.2.2.2.2.2.2.2.2.2.2.2.2.2.2.2.2.2.2.2.2.2.2.1 v.2.2.2.2.2.2.2.2.2.2.2.2.2.2.2.2.2.2.2.2.2.2.2.2.2.1 v.2.2.2.2.2.2.2.2.2.2.2.2.2.2.2.2.2.2.2.2.2.2.2.2.2.2.1 v.2.2.2.2.2.2.2.2.2.2.2.2.2.2.2.2.2.2.2.2.2.2.2.2.2.2.2.1 v.2.2.2.2.2.2.2.2.2.2.2.2.2.2.2.2.2.2.2.2.2.2.2.2.2.2.2.2.1 v.2.2.2.2.2.2.2.2.2.2.2.2.2.2.2.2.2.2.2.2.2.2.2.2.2.2.2.2.2.1 v.2.2.2.2.2.2.2.2.2.2.2.2.2.2.2.2.2.2.2.2.2.2.2.2.2.2.2.2.2.2.1 v.2.2.2.2.2.2.2.2.2.2.2.2.2.2.2.2.2.2.2.2.2.2.2.2.2.2.2.2.2.2.2.1 v.2.2.2.2.2.2.2.2.2.2.2.2.2.2.2.2.2.2.2.2.2.2.2.2.2.2.2.2.2.2.2.2.1 v.2.2.2.2.2.2.2.2.2.2.2.2.2.2.2.2.2.2.2.2.2.2.2.2.2.2.2.2.2.2.2.2.2
namespace asked_spec_a
noncomputable def w : World := asked_spec_a_v.1
noncomputable def mean : ExcName → Option Value := asked_spec_a_v.2.1
noncomputable def mg : Str → Option Value := asked_spec_a_v.2.2.1
noncomputable def mb : Str → Option Value := asked_spec_a_v.2.2.2.1
noncomputable def base : Heap := asked_spec_a_v.2.2.2.2.1
noncomputable def h₀ : Heap := asked_spec_a_v.2.2.2.2.2.1
noncomputable def outer : List Env := asked_spec_a_v.2.2.2.2.2.2.1
noncomputable def env : Env := asked_spec_a_v.2.2.2.2.2.2.2.1
noncomputable def L : Addr := asked_spec_a_v.2.2.2.2.2.2.2.2.1
noncomputable def m : Str → Option Value := asked_spec_a_v.2.2.2.2.2.2.2.2.2.1
noncomputable def news : List (Addr × Obj) := asked_spec_a_v.2.2.2.2.2.2.2.2.2.2.1
noncomputable def s : Shared := asked_spec_a_v.2.2.2.2.2.2.2.2.2.2.2.1
noncomputable def dp : Nat := asked_spec_a_v.2.2.2.2.2.2.2.2.2.2.2.2.1
noncomputable def un : Nat := asked_spec_a_v.2.2.2.2.2.2.2.2.2.2.2.2.2.1
noncomputable def gd : Option (List Code) := asked_spec_a_v.2.2.2.2.2.2.2.2.2.2.2.2.2.2.1
noncomputable def Q : Value → Shared → Prop := asked_spec_a_v.2.2.2.2.2.2.2.2.2.2.2.2.2.2.2.1
noncomputable def E : Value → Shared → Prop := asked_spec_a_v.2.2.2.2.2.2.2.2.2.2.2.2.2.2.2.2.1
noncomputable def x : Addr := asked_spec_a_v.2.2.2.2.2.2.2.2.2.2.2.2.2.2.2.2.2.1
noncomputable def dx : Addr := asked_spec_a_v.2.2.2.2.2.2.2.2.2.2.2.2.2.2.2.2.2.2.1
noncomputable def dc : Addr := asked_spec_a_v.2.2.2.2.2.2.2.2.2.2.2.2.2.2.2.2.2.2.2.1
noncomputable def td : Addr := asked_spec_a_v.2.2.2.2.2.2.2.2.2.2.2.2.2.2.2.2.2.2.2.2.1
noncomputable def mode : Mode := asked_spec_a_v.2.2.2.2.2.2.2.2.2.2.2.2.2.2.2.2.2.2.2.2.2.1
noncomputable def most : Int := asked_spec_a_v.2.2.2.2.2.2.2.2.2.2.2.2.2.2.2.2.2.2.2.2.2.2.1
noncomputable def st : FSt := asked_spec_a_v.2.2.2.2.2.2.2.2.2.2.2.2.2.2.2.2.2.2.2.2.2.2.2.1
noncomputable def od : Obj := asked_spec_a_v.2.2.2.2.2.2.2.2.2.2.2.2.2.2.2.2.2.2.2.2.2.2.2.2.1
noncomputable def u : Obj → List (Addr × Obj) := asked_spec_a_v.2.2.2.2.2.2.2.2.2.2.2.2.2.2.2.2.2.2.2.2.2.2.2.2.2.1
noncomputable def u2 : Obj → Obj → List (Addr × Obj) := asked_spec_a_v.2.2.2.2.2.2.2.2.2.2.2.2.2.2.2.2.2.2.2.2.2.2.2.2.2.2.1
noncomputable def oc : Obj := asked_spec_a_v.2.2.2.2.2.2.2.2.2.2.2.2.2.2.2.2.2.2.2.2.2.2.2.2.2.2.2.1
noncomputable def g : Heap := asked_spec_a_v.2.2.2.2.2.2.2.2.2.2.2.2.2.2.2.2.2.2.2.2.2.2.2.2.2.2.2.2.1
noncomputable def hs : Nat → Int := asked_spec_a_v.2.2.2.2.2.2.2.2.2.2.2.2.2.2.2.2.2.2.2.2.2.2.2.2.2.2.2.2.2.1
noncomputable def ts : Nat → Tok := asked_spec_a_v.2.2.2.2.2.2.2.2.2.2.2.2.2.2.2.2.2.2.2.2.2.2.2.2.2.2.2.2.2.2.1
noncomputable def L9 : Addr := asked_spec_a_v.2.2.2.2.2.2.2.2.2.2.2.2.2.2.2.2.2.2.2.2.2.2.2.2.2.2.2.2.2.2.2.1
noncomputable def h9 : Heap := asked_spec_a_v.2.2.2.2.2.2.2.2.2.2.2.2.2.2.2.2.2.2.2.2.2.2.2.2.2.2.2.2.2.2.2.2.1
noncomputable def tk9 : Nat := asked_spec_a_v.2.2.2.2.2.2.2.2.2.2.2.2.2.2.2.2.2.2.2.2.2.2.2.2.2.2.2.2.2.2.2.2.2
set_option maxHeartbeats 8000000 in
theorem walk : asked_spec_a_pre.1 w mean mg mb base h₀ outer env L m news s dp un gd Q E x dx dc td mode most st od u u2 oc g hs ts L9 h9 tk9 := by
  delta asked_spec_a_pre
  dsimp only
  intro hd hu deed vs hv hod hx U U2 hdx hdc R hcd lo hl hlast ret st' B fr kp ns hN hxd hxc hg X C T F9 N9 l9
  have hod2 : FileObj dc mode.s (Str.ofString "sequential") most st (fileD dc mode.s (Str.ofString "sequential") most st hs ts) := .mk ..
  dsimp only [fileD] at N9 hod2
  have fin : ∀ h' tk' L' m' led od' oc' v tail, Fr g L' h' m' → News g L' h' led → (dx, od') ∈ led → (dc, oc') ∈ led → (x, instObj 168 dx) ∈ led → (∀ p ∈ tail, p ∈ led) → OwnOff tail [x, dx, dc] → DN tail 1 v (fStep mode most deed st).1.d →
      FileObj dc mode.s (Str.ofString "sequential") most (fStep mode most deed st).2 od' → RowsO w oc' (fStep mode most deed st).2.rows → Q v { s with heap := h', toks := tk' } := by
    intro h' tk' L' m' led od' oc' v tail F' N' m2 m3 m4 m5 ho hv hf hr
    have Nt : News g L' h' tail := fun p hp => N' p (m5 p hp)
    have nn := ns _ _ ((aft_of F' N').sub (outs := [(x, instObj 168 dx), (dx, od'), (dc, oc')]) (by simp [m2, m3, m4]))
    have nt := news_turn2 C hN U U2 nn (fun p hp hq => kp _ p F'.keep hp hq) (o' := od') (o2' := oc') (by simp) (by simp) (by simp)
    refine ret v h' tk' od' oc' tail (fr _ F'.keep) (fun p hp => ?_) (fresh_off C hN Nt ho) hv hf hr
    rcases List.mem_append.mp hp with hp | hp
    · exact ns _ _ (aft_of F' Nt) p hp
    · exact nt p hp
  cases hv
  all_goals k_steps
  all_goals (try dsimp only)
  · rename_i a' h' tk' od' t1' t2' F' N' ne' hf'
    refine fin _ _ _ _ _ od' oc _ [(a', _)] F' N' (by k_mem) (by k_mem) (by k_mem) (by intro p hp; rw [List.mem_singleton.mp hp]; exact .head _) ?_ (.tuple (.head _) (.cons (.flat (.str _ _)) (.cons (.flat (.bytes _ _)) .nil))) hf' ?_
    · exact own_one (by
        refine List.forall_mem_cons.mpr ⟨Ne.symm (ne' (x, _) (by k_mem)), List.forall_mem_cons.mpr ⟨Ne.symm (ne' (dx, _) (by k_mem)), List.forall_mem_cons.mpr ⟨Ne.symm (ne' (dc, _) (by k_mem)), by simp⟩⟩⟩)
    · show RowsO w oc (fReadNext mode most st).2.rows
      have : (fReadNext mode most st).2.rows = st.rows := by unfold fReadNext fFound; split <;> (try split) <;> (try split) <;> (try split) <;> rfl
      rw [this]; exact R
  · refine fin _ _ _ _ _ _ oc _ [] (by assumption) (by assumption) (by k_mem) (by k_mem) (by k_mem) (by simp) own_nil (.flat (.str _ _)) (by assumption) ?_
    show RowsO w oc (fStart mode _ _ st).2.rows
    have : ∀ op n, (fStart mode op n st).2.rows = st.rows := by intro op n; unfold fStart; split <;> (try split) <;> rfl
    rw [this]; exact R
  all_goals exact fin _ _ _ _ _ _ _ _ [] (by assumption) (by assumption) (by k_mem) (by k_mem) (by k_mem) (by simp) own_nil (.flat (.str _ _)) (by assumption) (by assumption)
end asked_spec_a
theorem asked_spec_a_all : ∀ (w' : World) (mean' : ExcName → Option Value) (mg' : Str → Option Value) (mb' : Str → Option Value) (base' : Heap) (h₀' : Heap) (outer' : List Env) (env' : Env) (L' : Addr) (m' : Str → Option Value) (news' : List (Addr × Obj)) (s' : Shared) (dp' : Nat) (un' : Nat) (gd' : Option (List Code)) (Q' : Value → Shared → Prop) (E' : Value → Shared → Prop) (x' : Addr) (dx' : Addr) (dc' : Addr) (td' : Addr) (mode' : Mode) (most' : Int) (st' : FSt) (od' : Obj) (u' : Obj → List (Addr × Obj)) (u2' : Obj → Obj → List (Addr × Obj)) (oc' : Obj) (g' : Heap) (hs' : Nat → Int) (ts' : Nat → Tok) (L9' : Addr) (h9' : Heap) (tk9' : Nat), asked_spec_a_pre.1 w' mean' mg' mb' base' h₀' outer' env' L' m' news' s' dp' un' gd' Q' E' x' dx' dc' td' mode' most' st' od' u' u2' oc' g' hs' ts' L9' h9' tk9' := by
  intro w' mean' mg' mb' base' h₀' outer' env' L' m' news' s' dp' un' gd' Q' E' x' dx' dc' td' mode' most' st' od' u' u2' oc' g' hs' ts' L9' h9' tk9'
  have hw := asked_spec_a.walk
  with_unfolding_all exact hk (α := (World) × (ExcName → Option Value) × (Str → Option Value) × (Str → Option Value) × (Heap) × (Heap) × (List Env) × (Env) × (Addr) × (Str → Option Value) × (List (Addr × Obj)) × (Shared) × (Nat) × (Nat) × (Option (List Code)) × (Value → Shared → Prop) × (Value → Shared → Prop) × (Addr) × (Addr) × (Addr) × (Addr) × (Mode) × (Int) × (FSt) × (Obj) × (Obj → List (Addr × Obj)) × (Obj → Obj → List (Addr × Obj)) × (Obj) × (Heap) × (Nat → Int) × (Nat → Tok) × (Addr) × (Heap) × (Nat)) (p := fun v => asked_spec_a_pre.1 v.1 v.2.1 v.2.2.1 v.2.2.2.1 v.2.2.2.2.1 v.2.2.2.2.2.1 v.2.2.2.2.2.2.1 v.2.2.2.2.2.2.2.1 v.2.2.2.2.2.2.2.2.1 v.2.2.2.2.2.2.2.2.2.1 v.2.2.2.2.2.2.2.2.2.2.1 v.2.2.2.2.2.2.2.2.2.2.2.1 v.2.2.2.2.2.2.2.2.2.2.2.2.1 v.2.2.2.2.2.2.2.2.2.2.2.2.2.1 v.2.2.2.2.2.2.2.2.2.2.2.2.2.2.1 v.2.2.2.2.2.2.2.2.2.2.2.2.2.2.2.1 v.2.2.2.2.2.2.2.2.2.2.2.2.2.2.2.2.1 v.2.2.2.2.2.2.2.2.2.2.2.2.2.2.2.2.2.1 v.2.2.2.2.2.2.2.2.2.2.2.2.2.2.2.2.2.2.1 v.2.2.2.2.2.2.2.2.2.2.2.2.2.2.2.2.2.2.2.1 v.2.2.2.2.2.2.2.2.2.2.2.2.2.2.2.2.2.2.2.2.1 v.2.2.2.2.2.2.2.2.2.2.2.2.2.2.2.2.2.2.2.2.2.1 v.2.2.2.2.2.2.2.2.2.2.2.2.2.2.2.2.2.2.2.2.2.2.1 v.2.2.2.2.2.2.2.2.2.2.2.2.2.2.2.2.2.2.2.2.2.2.2.1 v.2.2.2.2.2.2.2.2.2.2.2.2.2.2.2.2.2.2.2.2.2.2.2.2.1 v.2.2.2.2.2.2.2.2.2.2.2.2.2.2.2.2.2.2.2.2.2.2.2.2.2.1 v.2.2.2.2.2.2.2.2.2.2.2.2.2.2.2.2.2.2.2.2.2.2.2.2.2.2.1 v.2.2.2.2.2.2.2.2.2.2.2.2.2.2.2.2.2.2.2.2.2.2.2.2.2.2.2.1 v.2.2.2.2.2.2.2.2.2.2.2.2.2.2.2.2.2.2.2.2.2.2.2.2.2.2.2.2.1 v.2.2.2.2.2.2.2.2.2.2.2.2.2.2.2.2.2.2.2.2.2.2.2.2.2.2.2.2.2.1 v.2.2.2.2.2.2.2.2.2.2.2.2.2.2.2.2.2.2.2.2.2.2.2.2.2.2.2.2.2.2.1 v.2.2.2.2.2.2.2.2.2.2.2.2.2.2.2.2.2.2.2.2.2.2.2.2.2.2.2.2.2.2.2.1 v.2.2.2.2.2.2.2.2.2.2.2.2.2.2.2.2.2.2.2.2.2.2.2.2.2.2.2.2.2.2.2.2.1 v.2.2.2.2.2.2.2.2.2.2.2.2.2.2.2.2.2.2.2.2.2.2.2.2.2.2.2.2.2.2.2.2.2) hw (w', mean', mg', mb', base', h₀', outer', env', L', m', news', s', dp', un', gd', Q', E', x', dx', dc', td', mode', most', st', od', u', u2', oc', g', hs', ts', L9', h9', tk9')
theorem asked_spec {w : World} {mean : ExcName → Option Value} {mg mb : Str → Option Value} {A₀ : Around} {base h₀ : Heap} {outer : List Env} {env : Env} {L : Addr} {m : Str → Option Value} {news : List (Addr × Obj)} {s : Shared} {dp un : Nat} {gd : Option (List Code)} {Q E : Value → Shared → Prop} (H : Here w mean mg mb A₀ base h₀ outer env L m news s.heap) (hd : dp + 60 < recursionLimit) (hu : un + 600 < cLine) {x dx dc td : Addr} {mode : Mode} {most : Int} {st : FSt} {od : Obj} {u : Obj → List (Addr × Obj)} {u2 : Obj → Obj → List (Addr × Obj)}
    {oc : Obj} {deed : Deed} {vs : List Value} (ht : IsTup s.heap td vs.toArray) (hv : DeedI deed vs) (hod : FileObj dc mode.s (Str.ofString "sequential") most st od) (hx : (x, instObj 168 dx) ∈ news) (U : UpdF dx od news u) (U2 : ∀ x, UpdF dc oc (u x) (u2 x)) (hdx : (dx, od) ∈ news) (hdc : (dc, oc) ∈ news) (R : RowsO w oc st.rows) (hcd : @Ne Nat dc dx) (lo : (dc == sysModules) = false) (hl : st.rows.length < 64) (hlast : FOk st)
    (ret : ∀ v h' tk' od' oc' tail, Fr h₀ L h' m → News h₀ L h' (tail ++ u2 od' oc') → (∀ p ∈ tail, ∀ q ∈ news, p.1 ≠ q.1) → DN tail 1 v (fStep mode most deed st).1.d → FileObj dc mode.s (Str.ofString "sequential") most (fStep mode most deed st).2 od' → RowsO w oc' (fStep mode most deed st).2.rows → Q v { s with heap := h', toks := tk' }) :
    wpAny (model PySem.Challenge.rw_og0083_01.row.prog w) (aro dp un gd (env :: outer)) (call (.ref 282) [.ref x, .ref td]) Q E s := by
  exact asked_spec_a_pre.2 asked_spec_a_all w mean mg mb A₀ base h₀ outer env L m news s dp un gd Q E H hd hu x dx dc td mode most st od u u2 oc deed vs ht hv hod hx U U2 hdx hdc R hcd lo hl hlast ret
end
noncomputable def TEndS {σ : Type} (h₀ : Heap) (L : Addr) (m : Str → Option Value) (s₁ : Shared) (top : List (Addr × Obj)) (nw : σ → List (Addr × Obj)) (adr : List Addr) (tail : List (Addr × Obj)) (R : Value → σ → List (Addr × Obj) → Prop) (y : Value) (s₂ : Shared) : Prop :=
  ∃ h' tk' t' c', s₂ = { s₁ with heap := h', toks := tk' } ∧ Fr h₀ L h' m ∧ News h₀ L h' (t' ++ (top ++ (nw c' ++ tail))) ∧ OwnOff t' (top.map (·.1) ++ adr) ∧ R y c' (t' ++ tail)
theorem TEndS.intro {σ : Type} {h₀ : Heap} {L : Addr} {m : Str → Option Value} {s₁ : Shared} {top : List (Addr × Obj)} {nw : σ → List (Addr × Obj)} {adr : List Addr} {tail : List (Addr × Obj)} {R : Value → σ → List (Addr × Obj) → Prop} {y : Value} {h' : Heap} {tk : Nat} {all : List (Addr × Obj)} (t' : List (Addr × Obj)) (c' : σ)
    (F : Fr h₀ L h' m) (N : News h₀ L h' all) (sub : ∀ p ∈ t' ++ (top ++ (nw c' ++ tail)), p ∈ all) (o : OwnOff t' (top.map (·.1) ++ adr)) (r : R y c' (t' ++ tail)) : TEndS h₀ L m s₁ top nw adr tail R y { s₁ with heap := h', toks := tk } :=
  ⟨h', tk, t', c', rfl, F, fun p hp => N p (sub p hp), o, r⟩
section
variable {prog : Program} {w : World} {A : Around} {E : Value → Shared → Prop} {s : Shared} {h₀ : Heap} {L : Addr} {m : Str → Option Value} {env : Env}
theorem cs_S {σ : Type} {elt : Expr} {x : Str} {scope : Scope} {cl : List (Str × Addr)} {S : List (Addr × Obj) → Prop} {P : Nat → Value → Prop} {Fin : Shared → List Value → List (Addr × Obj) → Prop} {n : Nat} {xv : Value} (nw : σ → List (Addr × Obj)) (adr : List Addr) (c₀ : σ) (hadr : ∀ c, (nw c).map (·.1) = adr)
    (W : SrcW prog w A h₀ L n P S xv s) (F : Fr h₀ L s.heap m) (N : News h₀ L s.heap (nw c₀))
    (hsz : n ≤ sizeLine) (hS : ∀ c t, S (nw c ++ t)) (G : Nat → List Value → σ → List (Addr × Obj) → Prop) (g0 : G 0 [] c₀ [])
    (turn : ∀ i ys c tail v I oI C oC D m₂ h tk (E' : Value → Shared → Prop), i < n → P i v → G i ys c tail → NsObj oC m₂ → m₂ x = some v → Fr h₀ L h m → News h₀ L h ((I, oI) :: (C, oC) :: (D, lst ys) :: (nw c ++ tail)) → Off3 I C D (nw c) → OwnOff tail (I :: C :: D :: adr) → ((@Ne Nat I C) ∧ (@Ne Nat I D) ∧ (@Ne Nat C D)) →
      wpAny (model prog w) A (eval elt (compEnvC scope cl C env)) (TEndS h₀ L m { s with heap := h, toks := tk } [(I, oI), (C, oC), (D, lst ys)] nw adr tail fun y c' t => G (i + 1) (ys ++ [y]) c' t) E' { s with heap := h, toks := tk })
    (fin : ∀ g ys c tail, G n ys c tail → OwnOff tail adr → Fin { s with heap := g } ys (nw c ++ tail)) : CSrcU prog w A h₀ L m env elt x scope cl Fin xv s := by
  refine ⟨n, P, S, nw c₀, W, hsz, F, N, by simpa using hS c₀ [], ?_⟩
  rintro s₂ ⟨g, rfl⟩
  refine rest_U (s := { s with heap := g }) (n := n) (fun i ys nx => ∃ c tail, nx = nw c ++ tail ∧ OwnOff tail adr ∧ G i ys c tail) ?_ ?_ n 0 [] (nw c₀) (by omega) ⟨c₀, [], by simp, own_nil, g0⟩
  · rintro i ys _ v I oI C oC D m₂ h tk E' hi ⟨c, tail, rfl, o, hG⟩ hP hC hx F N off ne
    have o' : OwnOff tail ((nw c).map (·.1)) := by rw [hadr]; exact o
    have o2 := own_of_off3 off o'
    rw [hadr] at o2
    refine wpAny_mono (turn i ys c tail v I oI C oC D m₂ h tk E' hi hP hG hC hx F N (off3_left off) o2 ne) (fun y s' q => ?_) fun _ _ e => e
    obtain ⟨h', tk', t', c', rfl, F', N', ot, r⟩ := q
    have offc : Off3 I C D (nw c') := Off3.of fun p hp => by
      have hp' : p.1 ∈ (nw c).map (·.1) := by rw [hadr, ← hadr c']; exact List.mem_map_of_mem hp
      obtain ⟨q, hq, e⟩ := List.mem_map.mp hp'
      have := off.mem q (List.mem_append_left _ hq)
      rw [e] at this; exact this
    refine ⟨h', tk', nw c' ++ (t' ++ tail), rfl, F', fun p hp => N' p ?_, Off3.of fun p hp => ?_, hS _ _, c', t' ++ tail, rfl, own_app (own_sub ot fun b hb => List.mem_append_right _ hb) o, r⟩
    · simp only [List.mem_cons, List.mem_append, List.not_mem_nil, or_false] at hp ⊢
      grind
    · rcases List.mem_append.mp hp with hp | hp
      · exact offc.mem p hp
      rcases List.mem_append.mp hp with hp | hp
      · exact ⟨ot p hp I (by simp), ot p hp C (by simp), ot p hp D (by simp)⟩
      · exact off.mem p (List.mem_append_right _ hp)
  · rintro ys _ ⟨c, tail, rfl, o, hG⟩
    exact fin g ys c tail hG o
end
noncomputable def SeqIs (h : Heap) (a : Addr) (vs : List Value) : Prop := IsTup h a vs.toArray ∨ h.IsList a vs.toArray
theorem SeqIs.keeps {h h' : Heap} (k : ∀ b o, h.get? b = some o → h'.get? b = some o) {a : Addr} {vs : List Value} (x : SeqIs h a vs) : SeqIs h' a vs := by
  rcases x with ⟨o, ho, r⟩ | ⟨o, ho, r⟩
  · exact .inl ⟨o, k _ _ ho, r⟩
  · exact .inr ⟨o, k _ _ ho, r⟩
inductive Begin (w : World) (h : Heap) (b : Addr) : RowsT → Prop
  | pairs {items : List Value} {all : RowsT} {k : Nat} {sl : Array (Option Value)} (ht : h.get? b = some { cls := .type "tuple", dict := none, data := .seq items.toArray k, slots := sl }) (hP : PairsIn h items all) (hsz : all.length ≤ 500) : Begin w h b (rputs [] all)
  | rows {r : RowsT} (R : RowsAt w h b r) (lo : (b == sysModules) = false) (hsz : r.length ≤ 500) : Begin w h b r
theorem Begin.keeps {w : World} {h h' : Heap} (k : ∀ b o, h.get? b = some o → h'.get? b = some o) {b : Addr} {r : RowsT} (x : Begin w h b r) : Begin w h' b r := by
  cases x with
  | pairs ht hP hsz => exact .pairs (k _ _ ht) (hP.keeps k) hsz
  | rows R lo hsz => exact .rows (R.keeps k) lo hsz
section
variable {w : World} {A : Around} {E : Value → Shared → Prop} {s : Shared} {h₀ : Heap} {L : Addr} {m : Str → Option Value} {news : List (Addr × Obj)}
theorem dict_begin {Q : Value → Shared → Prop} {b : Addr} {r : RowsT} (hh : A.handled = none) (F : Fr h₀ L s.heap m) (N : News h₀ L s.heap news) (hbig : h₀.NoLimit) (R : Begin w s.heap b r)
    (h : ∀ h' o D tk, Fr h₀ L h' m → News h₀ L h' ((D, o) :: news) → (∀ p ∈ news, p.1 < D) → (D == sysModules) = false → RowsO w o r → Q (.ref D) { s with heap := h', toks := tk }) :
    wpAny (model PySem.Challenge.rw_og0083_01.row.prog w) A (call (.type "dict") [.ref b]) Q E s := by
  cases R with
  | pairs ht hP hsz => exact rows_of_pairs hh F N hbig ⟨_, _, ht⟩ hP hsz h
  | rows R lo hsz => exact rows_copy F N hbig R lo (by omega) fun h' o D F' N' l lo' R' => h h' o D s.toks F' N' l lo' R'
theorem list_seq {Q : Value → Shared → Prop} {b : Addr} {vs : List Value} (F : Fr h₀ L s.heap m) (N : News h₀ L s.heap news) (hl : SeqIs s.heap b vs) (hz : vs.length ≤ 1000)
    (h : ∀ D c h', Fr h₀ L h' m → News h₀ L h' ((D, listOf vs.toArray c) :: news) → (∀ q ∈ news, q.1 < D) → Q (.ref D) { s with heap := h' }) : wpAny (model PySem.Challenge.rw_og0083_01.row.prog w) A (call (.type "list") [.ref b]) Q E s := by
  have hz' : vs.toArray.size ≤ sizeLine := by rw [sizeLine_eq, List.size_toArray]; omega
  rcases hl with hl | hl
  · exact list_copyKT F N hl h hz'
  · exact list_copyK F N hl h hz'
noncomputable def SrcSq (h₀ : Heap) (a : Addr) (vs : List Value) (_ : List (Addr × Obj)) : Prop := SeqIs h₀ a vs
theorem src_seq {prog : Program} {a : Addr} {vs : List Value} (hh : A.handled = none) (F : Fr h₀ L s.heap m) (hl : SeqIs h₀ a vs) : SrcW prog w A h₀ L vs.length (fun i v => vs[i]? = some v) (SrcSq h₀ a vs) (.ref a) s := by
  rcases hl with hl | hl
  · obtain ⟨o, ho, r⟩ := hl
    have h0 : h₀.IsTuple a vs.toArray := ⟨o, ho, r⟩
    have hs : s.heap.IsTuple a vs.toArray := ⟨o, F.keep _ _ ho, r⟩
    have := src_tuple (prog := prog) (w := w) (h₀ := h₀) (L := L) hh hs
    rw [List.size_toArray] at this
    simp only [List.getElem?_toArray] at this
    intro Q E k
    exact this Q E fun I fp St h₁ W a b c d e f => k I fp St h₁ W a (fun i h h' o nw st e1 e2 kp N S => b i h h' o nw st e1 e2 kp N (.inl h0)) c d e f
  · have hs : s.heap.IsList a vs.toArray := hl.at fun o e => F.keep _ _ e
    have := src_list (prog := prog) (w := w) (h₀ := h₀) (L := L) hh hs
    rw [List.size_toArray] at this
    simp only [List.getElem?_toArray] at this
    intro Q E k
    exact this Q E fun I fp St h₁ W a b c d e f => k I fp St h₁ W a (fun i h h' o nw st e1 e2 kp N S => b i h h' o nw st e1 e2 kp N (.inl hl)) c d e f
end
theorem words19 : True := by
  k_with "S begin" => (first | assumption | exact Begin.keeps (Fr.keep (by assumption)) (by assumption))
  k_with "call type:dict" => ((k_here; (with_reducible show wpAny _ _ (call (Value.type _) [Value.ref _]) _ _ _); (k_dflt (refine' dict_begin (by rfl) (by k_asm) (by k_asm) (by exact Top.nolimit (by k_asm)) (by walk_at "S begin") ?_; k_whole)); (intro h' o' D' tk' F' N' l1 lo' R'); (try k_lt l1); (revert h' o' D' tk' F' N' l1 lo' R'; intro _ _ _ _ _ _ _ _ _); (try k_sweep)))
  k_with "S seq" => (first | assumption | exact SeqIs.keeps (Fr.keep (by assumption)) (by assumption))
  k_with "call type:list" => ((k_here; (with_reducible show wpAny _ _ (call (Value.type _) [Value.ref _]) _ _ _); (k_dflt (refine' list_seq (by k_asm) (by k_asm) (by walk_at "S seq") (by omega) ?_; k_whole)); (intro D' c' h' F' N' l1); (try k_lt l1); (revert D' c' h' F' N' l1; intro _ _ _ _ _ _); (try k_sweep)))
  k_with "call ref" => ((k_here; (with_reducible show wpAny _ _ (call (Value.ref 168) _ _) _ _ _); (k_dflt (show wpAny _ _ (call (Value.ref 168) [Value.ref _, Value.str _ _, Value.str _ _, Value.int _ _] []) _ _ _)); (k_dflt (refine' init_spec (by walk_at "S here") (by walk_at "S room") (by walk_at "S room") (by k_updF) (by k_mem) (by k_asm) (by k_asm) (by walk_at "S len") ?_; k_whole)); (intro x' dx' od' oc' h' tk' F' N' l1 l2 hf' R'); (try dsimp only at N'); (try k_lt l1); (revert x' dx' od' oc' h' tk' F' N' l1 l2 hf' R'; intro _ _ _ _ _ _ _ _ _ _ _ _); (try k_sweep)))
  k_with "eval ListComp" => ((k_here; k_dflt (first | refine lc_U (F₀ := by k_asm) (by with_unfolding_all rfl) (by decide) (by rfl) (by decide) (by rfl) ?_ | refine lc_T (F₀ := by k_asm) (by with_unfolding_all rfl) (by decide) (by rfl) (by decide) (by rfl) ?_)))
  k_with "exec Assign cons ListComp" => ((k_here; k_dflt (first | refine as_U (F₀ := by k_asm) (by rfl) (by with_unfolding_all rfl) (by with_unfolding_all rfl) (by decide) (by rfl) (by decide) (by rfl) (by rfl) (by rfl) ?_ | refine as_T (F₀ := by k_asm) (by rfl) (by with_unfolding_all rfl) (by with_unfolding_all rfl) (by decide) (by rfl) (by decide) (by rfl) (by rfl) (by rfl) ?_)))
  trivial
noncomputable def Sorted (rows ends : RowsT) : Prop := ends.Perm rows ∧ (rkeys ends).Pairwise (· < ·)
noncomputable def rowD (p : Int × Bts) : Dat := .tuple [.int p.1, .bytes p.2]
theorem rget_mem : ∀ {r : RowsT}, (rkeys r).Nodup → ∀ {k b}, (k, b) ∈ r → rget r k = b
  | [], _, _, _, h => nomatch h
  | p :: r, hn, k, b, h => by
    have hn' := List.nodup_cons.mp hn
    rcases List.mem_cons.mp h with e | h
    · subst e; simp [rget]
    · have hk : k ∈ rkeys r := List.mem_map.mpr ⟨(k, b), h, rfl⟩
      have hne : p.1 ≠ k := fun e => hn'.1 (by rw [← e] at hk; exact hk)
      have ih := rget_mem (r := r) hn'.2 h
      unfold rget at ih ⊢
      rw [List.find?_cons, decide_eq_false hne]
      exact ih
theorem rhas_mem {r : RowsT} {k : Int} {b : Bts} (h : (k, b) ∈ r) : rhas r k = true := rhas_iff.mpr (List.mem_map.mpr ⟨(k, b), h, rfl⟩)
theorem rputs_app : ∀ (l r : RowsT), (rkeys (r ++ l)).Nodup → rputs r l = r ++ l
  | [], r, _ => by simp [rputs]
  | p :: l, r, hn => by
    have hn1 : (rkeys ((r ++ [p]) ++ l)).Nodup := by simpa using hn
    have hp : rhas r p.1 = false := by
      cases e : rhas r p.1 with
      | false => rfl
      | true =>
        have hk := rhas_iff.mp e
        rw [rkeys, List.map_append, List.nodup_append] at hn
        exact absurd rfl (hn.2.2 p.1 hk p.1 (by simp))
    show rputs (rput r p.1 p.2) l = _
    have : rput r p.1 p.2 = r ++ [p] := by unfold rput; rw [if_neg (by rw [hp]; decide)]
    rw [this, rputs_app l _ hn1, List.append_assoc]; rfl
theorem Sorted.kperm {rows ends : RowsT} (h : Sorted rows ends) : (rkeys ends).Perm (rkeys rows) := List.Perm.map Prod.fst h.1
theorem Sorted.nodup {rows ends : RowsT} (h : Sorted rows ends) : (rkeys ends).Nodup := h.2.imp fun h e => by omega
theorem Sorted.rputs {rows ends : RowsT} (h : Sorted rows ends) : rputs [] ends = ends := by simpa using rputs_app ends [] (by simpa using h.nodup)
theorem Sorted.nodup' {rows ends : RowsT} (h : Sorted rows ends) : (rkeys rows).Nodup := h.kperm.nodup_iff.mp h.nodup
theorem Sorted.same {rows ends : RowsT} (h : Sorted rows ends) : SameRows rows (Mine.rputs [] ends) := by
  rw [h.rputs]
  exact ⟨h.1.length_eq.symm, fun k x hm => ⟨rhas_mem (h.1.mem_iff.mpr hm), rget_mem h.nodup (h.1.mem_iff.mpr hm)⟩⟩
theorem Sorted.keys {rows ends : RowsT} (h : Sorted rows ends) {ns : List Int} (p : ns.Perm (rkeys rows)) (o : ns.Pairwise (· ≤ ·)) : ns = rkeys ends :=
  List.Perm.eq_of_pairwise (le := (· ≤ ·)) (fun a b _ _ h1 h2 => by omega) o (h.2.imp fun h => by omega) (p.trans h.kperm.symm)
theorem Sorted.pairs {rows ends : RowsT} (h : Sorted rows ends) {ns : List Int} (p : ns.Perm (rkeys rows)) (o : ns.Pairwise (· ≤ ·)) : ns.map (pairD rows) = ends.map rowD := by
  rw [h.keys p o, rkeys, List.map_map]
  refine List.map_congr_left fun q hq => ?_
  show Dat.tuple [.int q.1, .bytes (rget rows q.1)] = _
  rw [rget_mem h.nodup' (h.1.mem_iff.mp hq)]; rfl
theorem pairs_data {h : Heap} {n : Nat} : ∀ {items : List Value} {all : RowsT}, PairsIn h items all → Paired (DH h (n + 1)) items (all.map rowD)
  | _, _, .nil => .nil
  | _, _, .cons ⟨a, t, u, e, ht⟩ r => .cons (by
      subst e
      exact .inr (.inl ⟨a, [.int _ t, .bytes _ u], _, rfl, rfl, ht, .cons (.flat (.int _ _)) (.cons (.flat (.bytes _ _)) .nil)⟩)) (pairs_data r)
theorem own_of_sep {t news : List (Addr × Obj)} {adr : List Addr} (sep : ∀ p ∈ t, ∀ q ∈ news, p.1 ≠ q.1) (hs : ∀ b ∈ adr, b ∈ news.map (·.1)) : OwnOff t adr := fun p hp b hb => by
  obtain ⟨q, hq, rfl⟩ := List.mem_map.mp (hs b hb)
  exact sep p hp q hq
theorem words20 : True := by
  k_with "S tup" => (first | assumption | exact Fr.tup (by k_asm) (by assumption))
  k_with "S last" => (assumption)
  k_with "call ref" => ((k_here; (with_reducible show wpAny _ _ (call (Value.ref 282) _ _) _ _ _); (k_dflt (show wpAny _ _ (call (Value.ref 282) [Value.ref _, Value.ref _] []) _ _ _)); (k_dflt (refine' asked_spec (by walk_at "S here") (by walk_at "S room") (by walk_at "S room") (by walk_at "S tup") (by assumption) (by k_asm) (by k_dflt k_mem) (by k_updF) (by walk_at "S updF2") (by k_mem) (by k_mem) (by k_asm) (by walk_at "S ne") (by k_asm) (by walk_at "S len") (by assumption) ?_; k_whole)); (intro v' h' tk' od' oc' tl' F' N' sp' dn' hf' R'); (try dsimp only at N'); (revert v' h' tk' od' oc' tl' F' N' sp' dn' hf' R'; intro _ _ _ _ _ _ _ _ _ _ _ _); (try k_sweep)))
  k_with "call ref" => ((k_here; (with_reducible show wpAny _ _ (call (Value.ref 165) _ _) _ _ _); (k_dflt (show wpAny _ _ (call (Value.ref 165) [Value.ref _] []) _ _ _)); (k_dflt (refine' told_spec (by walk_at "S here") (by walk_at "S room") (by walk_at "S room") (by k_asm) (by k_dflt k_mem) (by k_mem) (by k_mem) (by k_asm) (by walk_at "S ne") (by k_asm) (by walk_at "S len") ?_; k_whole)); (intro a' ra' tl' ns' h' tk' t1 t2 t3 t4 t5 F' N' sp1' sp2' p' o' dn'); (try simp only [List.cons_append, List.nil_append, List.append_assoc] at N'); (revert a' ra' tl' ns' h' tk' t1 t2 t3 t4 t5 F' N' sp1' sp2' p' o' dn'; intro _ _ _ _ _ _ _ _ _ _ _ _ _ _ _ _ _ _); (try k_sweep)))
  trivial
theorem dl_N {l : List (Addr × Obj)} {n k : Nat} {a : Addr} {vs : List Value} {ds : List Dat} {news : List (Addr × Obj)} {h₀ h : Heap} {L : Addr} (N : News h₀ L h news) (hm : (a, ({ cls := .type "list", data := .seq vs.toArray k } : Obj)) ∈ news) (p : Paired (DN l n) vs ds) (s : ∀ p ∈ l, p ∈ news) : DH h (n + 1) (.ref a) (.list ds) :=
  .inr (.inr ⟨a, vs, ds, rfl, rfl, ⟨_, (N _ hm).1, rfl, k, rfl⟩, pimp (fun _ _ x => x.at N s) p⟩)
theorem dl_F {n k : Nat} {a : Addr} {vs : List Value} {ds : List Dat} {news : List (Addr × Obj)} {h₀ h : Heap} {L : Addr} {m : Str → Option Value} (F : Fr h₀ L h m) (N : News h₀ L h news) (hm : (a, ({ cls := .type "list", data := .seq vs.toArray k } : Obj)) ∈ news) (p : Paired (DH h₀ n) vs ds) : DH h (n + 1) (.ref a) (.list ds) :=
  .inr (.inr ⟨a, vs, ds, rfl, rfl, ⟨_, (N _ hm).1, rfl, k, rfl⟩, pimp (fun _ _ x => x.keeps F.keep) p⟩)
theorem dt_N {n k : Nat} {a : Addr} {vs : List Value} {ds : List Dat} {news : List (Addr × Obj)} {h₀ h : Heap} {L : Addr} (N : News h₀ L h news) (hm : (a, ({ cls := .type "tuple", data := .seq vs.toArray k } : Obj)) ∈ news) (p : Paired (DH h n) vs ds) : DH h (n + 1) (.ref a) (.tuple ds) :=
  .inr (.inl ⟨a, vs, ds, rfl, rfl, ⟨_, (N _ hm).1, rfl, k, rfl⟩, p⟩)
theorem words21 : True := by
  k_with "S ksub" => ((intro p hp; simp only [List.mem_cons, List.mem_append, hp, or_true, true_or]))
  k_with "compareOp NotEq ref ref" => (k_extra "S noteq")
  k_with "compareOp Eq ref ref" => (k_extra "S eq")
  trivial
theorem name_it {α : Type} (a : α) : ∃ b, b = a := ⟨a, rfl⟩
noncomputable abbrev fileAddr {dc : Addr} {m a : Str} {mo : Int} {st : FSt} {o : Obj} (_ : FileObj dc m a mo st o) : Addr := dc
noncomputable abbrev frameAddr {h₀ h : Heap} {L : Addr} {m : Str → Option Value} (_ : Fr h₀ L h m) : Addr := L
section
variable {w : World} {mean : ExcName → Option Value} {mg mb : Str → Option Value} {A₀ : Around} {base h₀ : Heap} {outer : List Env} {env : Env} {L : Addr} {m : Str → Option Value} {news : List (Addr × Obj)} {s : Shared}
  {dp un : Nat} {gd : Option (List Code)} {Q E : Value → Shared → Prop}

set_option maxHeartbeats 8000000 in
theorem session_spec (H : Here w mean mg mb A₀ base h₀ outer env L m news s.heap) (hd : dp + 80 < recursionLimit) (hu : un + 800 < cLine) {tb td tu te : Addr} {mode : Mode} {most last : Int} {tm tmo tl : Tok} {r0 ends : RowsT} {vds vus : List Value} {deeds : List Deed} {ies : List Value} {ke : Nat} {sle : Array (Option Value)}
    (hB : Begin w s.heap tb r0) (hr0 : r0.length + deeds.length < 64) (hD : SeqIs s.heap td vds) (pD : Paired (DeedAt s.heap) vds deeds) (hU : SeqIs s.heap tu vus) (pU : Paired (DH s.heap 1) vus ((fRun mode most deeds (fInit mode r0)).1.map Res.d))
    (hE : s.heap.get? te = some { cls := .type "tuple", dict := none, data := .seq ies.toArray ke, slots := sle }) (pE : PairsIn s.heap ies ends) (he : Sorted (fRun mode most deeds (fInit mode r0)).2.rows ends) (hlast : (fRun mode most deeds (fInit mode r0)).2.number = last)
    (ret : ∀ h' tk', Fr h₀ L h' m → News h₀ L h' news → Q (.bool true) { s with heap := h', toks := tk' }) :
    wpAny (model PySem.Challenge.rw_og0083_01.row.prog w) (aro dp un gd (env :: outer)) (call (.ref 316) [.str mode.s tm, .int most tmo, .ref tb, .ref td, .ref tu, .ref te, .int last tl]) Q E s := by
  obtain ⟨g, C, st', B, X, T, fr, kp, ns⟩ := H.cut (dp := dp) (un := un) (gd := gd) (muts := []) (by simp)
  have hN := H.N
  have up : ∀ b o, s.heap.get? b = some o → g.get? b = some o := fun b o e => C.rest b o e (by simp)
  replace hB := hB.keeps up
  replace hD := hD.keeps up
  replace pD := pimp (fun _ _ x => DeedAt.keeps up x) pD
  replace hU := hU.keeps up
  replace pU := pimp (fun _ _ x => DH.keeps up x) pU
  replace hE := up _ _ hE
  replace pE := pE.keeps up
  have hdl := pD.length
  have hul := pU.length
  have hfl : ∀ l st, (fRun mode most l st).1.length = l.length := by
    intro l; induction l with
    | nil => intro st; rfl
    | cons d l ih => intro st; simp [fRun, ih]
  rw [List.length_map, hfl] at hul
  clear H up
  (revert C T; revert X; k_fill; intro X C T)
  refine wpAny_call ?_
  walk_at "S enterC"
  k_steps
  rename_i x1 dx1 od1 oc1 _ _ lx hf1 R1 l1 h1 oC F1 N1 dC
  obtain ⟨D1, eD⟩ := name_it (fileAddr hf1)
  obtain ⟨L1, eL⟩ := name_it (frameAddr F1)
  dsimp only [fileAddr] at eD
  dsimp only [frameAddr] at eL
  subst eD eL
  have hbE : Begin w g te (rputs [] ends) := .pairs hE pE (by
    have h1 := he.1.length_eq
    have h2 := fRun_length mode most deeds (fInit mode r0)
    have h3 := fInit_length mode r0
    omega)
  have e1 : @Ne Nat x1 dx1 := Nat.ne_of_gt lx
  have e2 : @Ne Nat D1 dx1 := Nat.ne_of_lt l1.1
  have e3 : @Ne Nat D1 x1 := Nat.ne_of_lt (Nat.lt_trans l1.1 lx)
  refine cs_S (σ := FSt × Obj × Obj) (fun c => [(x1, instObj 168 dx1), (dx1, c.2.1), (D1, c.2.2), (L1 + 1, oC)]) [x1, dx1, D1, L1 + 1] (fInit mode r0, od1, oc1) (fun _ => rfl) (src_seq rfl F1 hD) F1 N1 (by rw [sizeLine_eq]; omega) (fun _ _ => hD)
    (fun i ys c tail => c.1 = (fRun mode most (deeds.take i) (fInit mode r0)).2 ∧ FileObj D1 mode.s (Str.ofString "sequential") most c.1 c.2.1 ∧ RowsO w c.2.2 c.1.rows ∧ Paired (DN tail 1) ys ((fRun mode most (deeds.take i) (fInit mode r0)).1.map Res.d))
    ⟨rfl, hf1, R1, .nil⟩ ?_ ?_
  · rintro i ys ⟨st, od, oc⟩ tail v I oI C' oC' D m₂ h tk E' hi hP ⟨hst, hf, R, hpr⟩ hC hx F N off own ne
    dsimp only at hst hf R hpr
    have hi' : i < deeds.length := by omega
    have hv : vds[i]? = some v := hP
    have hvi : vds[i] = v := by rw [List.getElem?_eq_getElem hi] at hv; exact Option.some.inj hv
    obtain ⟨td', vs, ev, hta, hdi⟩ := pget pD i hi hi'
    rw [hvi] at ev
    subst ev
    have hok : FOk st := by rw [hst]; exact fRun_ok _ _ _ _ (fInit_ok _ _)
    have hlen : st.rows.length < 64 := by
      have h2 := fRun_length mode most (deeds.take i) (fInit mode r0)
      have h3 := fInit_length mode r0
      rw [← hst, List.length_take] at h2
      omega
    have htk : deeds.take (i + 1) = deeds.take i ++ [deeds[i]] := by rw [List.take_add_one, List.getElem?_eq_getElem hi']; rfl
    simp only [List.cons_append, List.nil_append] at N
    simp only [Off3, and_true, and_assoc] at off
    k_steps
    rename_i v2 h2 _ od2 oc2 t2 F2 N2 sp2 dn2 hf2 R2
    refine TEndS.intro t2 ((fStep mode most deeds[i] st).2, od2, oc2) F2 N2 (fun _ hp => hp) (own_of_sep sp2 ?_) ⟨?_, hf2, R2, ?_⟩
    · intro b hb
      simp only [List.map_cons, List.map_nil, List.cons_append, List.nil_append, List.mem_cons, List.not_mem_nil, or_false] at hb ⊢
      grind
    · rw [htk, fRun_snoc, ← hst]
    · rw [htk, fRun_snoc, List.map_append, ← hst]
      exact psnoc (pimp (fun _ _ x => x.mono fun _ hp => List.mem_append_right _ hp) hpr) (dn2.mono fun _ hp => List.mem_append_left _ hp)
  · rintro g3 ys ⟨st, od, oc⟩ tail ⟨hst, hf, R, hpr⟩ own
    dsimp only at hst hf R hpr
    rw [show vds.length = deeds.length from hdl, List.take_length] at hst hpr
    unfold FinE
    intro D3 h3 tk3 F3 N3 off3
    have own3 := own_of_off1 off3 own
    have off3 := off1_left off3
    clear own
    simp only [List.cons_append, List.nil_append] at N3
    simp only [Off1, and_true] at off3
    have hyl := hpr.length
    rw [List.length_map, hfl] at hyl
    have hok : FOk st := by rw [hst]; exact fRun_ok _ _ _ _ (fInit_ok _ _)
    have hlen : st.rows.length < 64 := by
      have h2 := fRun_length mode most deeds (fInit mode r0)
      have h3 := fInit_length mode r0
      rw [← hst] at h2
      omega
    rw [← hst] at he hlast
    have hEd : DH g 2 (.ref te) (.tuple (ends.map rowD)) := .inr (.inl ⟨te, ies, _, rfl, rfl, ⟨_, hE, rfl, _, rfl⟩, pairs_data pE⟩)
    have hfo := hf
    cases hf with
    | mk h0 h1 h2 h3 h4 h5 h6 h7 h8 t0 t1 t2 t3 t4 t5 t6 t7 t8 u1 u2 u3 u4 u5 u6 =>
    k_with "S noteq" => ((rename Flagged 4 => mk4); ((k_dflt (refine' ne_same_refs (n := 1) ?x ?y ?u ?_; (case x => exact dl_N (by assumption) (by k_mem) hpr (by walk_at "S ksub")); (case y => exact dl_F (by assumption) (by assumption) (by k_mem) pU); (case u => walk_at "S room"); k_whole))))
    have mk4 : Flagged 4 := ⟨⟩
    k_with "S eq" => ((rename Flagged 5 => mk5); ((k_dflt (refine' rows_eq (r := st.rows) (r₂ := rputs [] ends) ?R ?R2 ?lo ?lo2 ?u he.same ?_; (case R => exact RowsAt.ofNews (by assumption) (by k_mem) R); (case R2 => exact RowsAt.ofNews (by assumption) (by k_mem) (by assumption)); (case lo => assumption); (case lo2 => assumption); (case u => walk_at "S room"); k_whole))))
    have mk5 : Flagged 5 := ⟨⟩
    k_with "S eq" => ((rename Flagged 6 => mk6); ((k_dflt (refine' eq_same_refs (n := 2) (d := .tuple [.str mode.s, .str (Str.ofString "sequential"), .int last, .tuple (ends.map rowD)]) ?x ?y ?u ?_; (case x => exact dt_N (by assumption) (by k_mem) (.cons (.flat (.str _ _)) (.cons (.flat (.str _ _)) (.cons (.flat (by rw [← hlast]; exact .int _ _)) (.cons (by rw [← he.pairs (by assumption) (by assumption)]; exact DN.at (by assumption) (by assumption) (by walk_at "S ksub")) .nil))))); (case y => exact dt_N (by assumption) (by k_mem) (.cons (.flat (.str _ _)) (.cons (.flat (.str _ _)) (.cons (.flat (.int _ _)) (.cons (DH.keeps (Fr.keep (by assumption)) hEd) .nil))))); (case u => walk_at "S room"); k_whole))))
    have mk6 : Flagged 6 := ⟨⟩
    k_steps
    all_goals (try (exact absurd hlast (by assumption)))
    exact ret _ _ (fr _ (Fr.keep (by assumption))) (fun p hp => kp _ p (Fr.keep (by assumption)) hp (by simp))
end
theorem words22 : True := by
  k_with "S pairs" => (first | exact .nil | (refine .cons ⟨_, _, _, rfl, ⟨_, XX _ _ (by k_is), rfl, _, rfl⟩⟩ ?_; walk_at "S pairs"))
  trivial
section
variable {w : World} {mean : ExcName → Option Value} {mg mb : Str → Option Value} {A₀ : Around} {base h₀ : Heap} {outer : List Env} {env : Env} {L : Addr} {m : Str → Option Value} {news : List (Addr × Obj)} {s : Shared}
  {dp un : Nat} {gd : Option (List Code)} {Q E : Value → Shared → Prop}

theorem run1 : fRun .io 0 [.start .gt 2, .read, .delete, .delete, .read, .rewrite #[105, 105, 105], .read, .read, .start .ge 6, .read, .start .eq 5, .read, .start .eq 2, .read] (fInit .io (rputs [] [(2, #[98]), (5, #[101]), (9, #[105])])) = ([.st (Str.ofString "00"), .row (Str.ofString "00") #[101], .st (Str.ofString "00"), .st (Str.ofString "43"), .row (Str.ofString "00") #[105], .st (Str.ofString "00"), .row (Str.ofString "10") #[], .row (Str.ofString "46") #[], .st (Str.ofString "00"), .row (Str.ofString "00") #[105, 105, 105], .st (Str.ofString "23"), .row (Str.ofString "46") #[], .st (Str.ofString "00"), .row (Str.ofString "00") #[98]], (fRun .io 0 [.start .gt 2, .read, .delete, .delete, .read, .rewrite #[105, 105, 105], .read, .read, .start .ge 6, .read, .start .eq 5, .read, .start .eq 2, .read] (fInit .io (rputs [] [(2, #[98]), (5, #[101]), (9, #[105])]))).2) := by rfl
theorem end1 : (fRun .io 0 [.start .gt 2, .read, .delete, .delete, .read, .rewrite #[105, 105, 105], .read, .read, .start .ge 6, .read, .start .eq 5, .read, .start .eq 2, .read] (fInit .io (rputs [] [(2, #[98]), (5, #[101]), (9, #[105])]))).2.rows = [(2, #[98]), (9, #[105, 105, 105])] := by rfl
set_option maxHeartbeats 8000000 in
theorem sess1 (H : Here w mean mg mb A₀ base h₀ outer env L m news s.heap) (hdp : dp + 80 < recursionLimit) (hu : un + 800 < cLine) {tm tmo tl : Tok}
    (ret : ∀ h' tk', Fr h₀ L h' m → News h₀ L h' news → Q (.bool true) { s with heap := h', toks := tk' }) :
    wpAny (model PySem.Challenge.rw_og0083_01.row.prog w) (aro dp un gd (env :: outer)) (call (.ref 316) [.str (Str.ofString "i-o") tm, .int 0 tmo, .ref 176, .ref 191, .ref 199, .ref 202, .int 2 tl]) Q E s := by
  have XX : Frag.In (hd.heap_39 w.params) s.heap := H.X.keeps H.F.keep
  (revert XX; k_fill; intro XX)
  refine' session_spec (mode := .io) (r0 := rputs [] [(2, #[98]), (5, #[101]), (9, #[105])]) (ends := [(2, #[98]), (9, #[105, 105, 105])]) (deeds := [.start .gt 2, .read, .delete, .delete, .read, .rewrite #[105, 105, 105], .read, .read, .start .ge 6, .read, .start .eq 5, .read, .start .eq 2, .read]) H hdp hu ?hB (by decide) ?hD ?pD ?hU ?pU ?hE ?pE ?he ?hl ret
  case hB => exact .pairs (XX _ _ (by k_is)) (.cons ⟨_, _, _, rfl, ⟨_, XX _ _ (by k_is), rfl, _, rfl⟩⟩ (.cons ⟨_, _, _, rfl, ⟨_, XX _ _ (by k_is), rfl, _, rfl⟩⟩ (.cons ⟨_, _, _, rfl, ⟨_, XX _ _ (by k_is), rfl, _, rfl⟩⟩ (.nil)))) (by decide)
  case hD => exact .inl ⟨_, XX _ _ (by k_is), rfl, _, rfl⟩
  case pD => exact .cons ⟨_, _, rfl, ⟨_, XX _ _ (by k_is), rfl, _, rfl⟩, .start .gt _ _ _ _⟩ (.cons ⟨_, _, rfl, ⟨_, XX _ _ (by k_is), rfl, _, rfl⟩, .read _⟩ (.cons ⟨_, _, rfl, ⟨_, XX _ _ (by k_is), rfl, _, rfl⟩, .delete1 _⟩ (.cons ⟨_, _, rfl, ⟨_, XX _ _ (by k_is), rfl, _, rfl⟩, .delete1 _⟩ (.cons ⟨_, _, rfl, ⟨_, XX _ _ (by k_is), rfl, _, rfl⟩, .read _⟩ (.cons ⟨_, _, rfl, ⟨_, XX _ _ (by k_is), rfl, _, rfl⟩, .rewrite _ _ _⟩ (.cons ⟨_, _, rfl, ⟨_, XX _ _ (by k_is), rfl, _, rfl⟩, .read _⟩ (.cons ⟨_, _, rfl, ⟨_, XX _ _ (by k_is), rfl, _, rfl⟩, .read _⟩ (.cons ⟨_, _, rfl, ⟨_, XX _ _ (by k_is), rfl, _, rfl⟩, .start .ge _ _ _ _⟩ (.cons ⟨_, _, rfl, ⟨_, XX _ _ (by k_is), rfl, _, rfl⟩, .read _⟩ (.cons ⟨_, _, rfl, ⟨_, XX _ _ (by k_is), rfl, _, rfl⟩, .start .eq _ _ _ _⟩ (.cons ⟨_, _, rfl, ⟨_, XX _ _ (by k_is), rfl, _, rfl⟩, .read _⟩ (.cons ⟨_, _, rfl, ⟨_, XX _ _ (by k_is), rfl, _, rfl⟩, .start .eq _ _ _ _⟩ (.cons ⟨_, _, rfl, ⟨_, XX _ _ (by k_is), rfl, _, rfl⟩, .read _⟩ (.nil))))))))))))))
  case hU => exact .inl ⟨_, XX _ _ (by k_is), rfl, _, rfl⟩
  case pU =>
    rw [run1]
    exact .cons (.inl (.str _ _)) (.cons (.inr (.inl ⟨_, _, _, rfl, rfl, ⟨_, XX _ _ (by k_is), rfl, _, rfl⟩, .cons (.str _ _) (.cons (.bytes _ _) .nil)⟩)) (.cons (.inl (.str _ _)) (.cons (.inl (.str _ _)) (.cons (.inr (.inl ⟨_, _, _, rfl, rfl, ⟨_, XX _ _ (by k_is), rfl, _, rfl⟩, .cons (.str _ _) (.cons (.bytes _ _) .nil)⟩)) (.cons (.inl (.str _ _)) (.cons (.inr (.inl ⟨_, _, _, rfl, rfl, ⟨_, XX _ _ (by k_is), rfl, _, rfl⟩, .cons (.str _ _) (.cons (.bytes _ _) .nil)⟩)) (.cons (.inr (.inl ⟨_, _, _, rfl, rfl, ⟨_, XX _ _ (by k_is), rfl, _, rfl⟩, .cons (.str _ _) (.cons (.bytes _ _) .nil)⟩)) (.cons (.inl (.str _ _)) (.cons (.inr (.inl ⟨_, _, _, rfl, rfl, ⟨_, XX _ _ (by k_is), rfl, _, rfl⟩, .cons (.str _ _) (.cons (.bytes _ _) .nil)⟩)) (.cons (.inl (.str _ _)) (.cons (.inr (.inl ⟨_, _, _, rfl, rfl, ⟨_, XX _ _ (by k_is), rfl, _, rfl⟩, .cons (.str _ _) (.cons (.bytes _ _) .nil)⟩)) (.cons (.inl (.str _ _)) (.cons (.inr (.inl ⟨_, _, _, rfl, rfl, ⟨_, XX _ _ (by k_is), rfl, _, rfl⟩, .cons (.str _ _) (.cons (.bytes _ _) .nil)⟩)) (.nil))))))))))))))
  case hE => exact XX _ _ (by k_is)
  case pE => exact .cons ⟨_, _, _, rfl, ⟨_, XX _ _ (by k_is), rfl, _, rfl⟩⟩ (.cons ⟨_, _, _, rfl, ⟨_, XX _ _ (by k_is), rfl, _, rfl⟩⟩ (.nil))
  case he =>
    rw [end1]
    exact ⟨List.Perm.refl _, by decide⟩
  case hl => rfl

theorem run2 : fRun .inp 9 [.read, .rewrite #[120], .delete, .write #[120], .read, .read, .start .gt 9, .read, .start .gt 11, .start .ge 0, .read] (fInit .inp (rputs [] [(9, #[120]), (10, #[121]), (11, #[122])])) = ([.row (Str.ofString "00") #[120], .st (Str.ofString "49"), .st (Str.ofString "49"), .st (Str.ofString "48"), .row (Str.ofString "14") #[], .row (Str.ofString "46") #[], .st (Str.ofString "00"), .row (Str.ofString "14") #[], .st (Str.ofString "23"), .st (Str.ofString "00"), .row (Str.ofString "00") #[120]], (fRun .inp 9 [.read, .rewrite #[120], .delete, .write #[120], .read, .read, .start .gt 9, .read, .start .gt 11, .start .ge 0, .read] (fInit .inp (rputs [] [(9, #[120]), (10, #[121]), (11, #[122])]))).2) := by rfl
theorem end2 : (fRun .inp 9 [.read, .rewrite #[120], .delete, .write #[120], .read, .read, .start .gt 9, .read, .start .gt 11, .start .ge 0, .read] (fInit .inp (rputs [] [(9, #[120]), (10, #[121]), (11, #[122])]))).2.rows = [(9, #[120]), (10, #[121]), (11, #[122])] := by rfl
set_option maxHeartbeats 8000000 in
theorem sess2 (H : Here w mean mg mb A₀ base h₀ outer env L m news s.heap) (hdp : dp + 80 < recursionLimit) (hu : un + 800 < cLine) {tm tmo tl : Tok}
    (ret : ∀ h' tk', Fr h₀ L h' m → News h₀ L h' news → Q (.bool true) { s with heap := h', toks := tk' }) :
    wpAny (model PySem.Challenge.rw_og0083_01.row.prog w) (aro dp un gd (env :: outer)) (call (.ref 316) [.str (Str.ofString "input") tm, .int 9 tmo, .ref 207, .ref 219, .ref 225, .ref 229, .int 9 tl]) Q E s := by
  have XX : Frag.In (hd.heap_39 w.params) s.heap := H.X.keeps H.F.keep
  (revert XX; k_fill; intro XX)
  refine' session_spec (mode := .inp) (r0 := rputs [] [(9, #[120]), (10, #[121]), (11, #[122])]) (ends := [(9, #[120]), (10, #[121]), (11, #[122])]) (deeds := [.read, .rewrite #[120], .delete, .write #[120], .read, .read, .start .gt 9, .read, .start .gt 11, .start .ge 0, .read]) H hdp hu ?hB (by decide) ?hD ?pD ?hU ?pU ?hE ?pE ?he ?hl ret
  case hB => exact .pairs (XX _ _ (by k_is)) (.cons ⟨_, _, _, rfl, ⟨_, XX _ _ (by k_is), rfl, _, rfl⟩⟩ (.cons ⟨_, _, _, rfl, ⟨_, XX _ _ (by k_is), rfl, _, rfl⟩⟩ (.cons ⟨_, _, _, rfl, ⟨_, XX _ _ (by k_is), rfl, _, rfl⟩⟩ (.nil)))) (by decide)
  case hD => exact .inl ⟨_, XX _ _ (by k_is), rfl, _, rfl⟩
  case pD => exact .cons ⟨_, _, rfl, ⟨_, XX _ _ (by k_is), rfl, _, rfl⟩, .read _⟩ (.cons ⟨_, _, rfl, ⟨_, XX _ _ (by k_is), rfl, _, rfl⟩, .rewrite _ _ _⟩ (.cons ⟨_, _, rfl, ⟨_, XX _ _ (by k_is), rfl, _, rfl⟩, .delete1 _⟩ (.cons ⟨_, _, rfl, ⟨_, XX _ _ (by k_is), rfl, _, rfl⟩, .write _ _ _⟩ (.cons ⟨_, _, rfl, ⟨_, XX _ _ (by k_is), rfl, _, rfl⟩, .read _⟩ (.cons ⟨_, _, rfl, ⟨_, XX _ _ (by k_is), rfl, _, rfl⟩, .read _⟩ (.cons ⟨_, _, rfl, ⟨_, XX _ _ (by k_is), rfl, _, rfl⟩, .start .gt _ _ _ _⟩ (.cons ⟨_, _, rfl, ⟨_, XX _ _ (by k_is), rfl, _, rfl⟩, .read _⟩ (.cons ⟨_, _, rfl, ⟨_, XX _ _ (by k_is), rfl, _, rfl⟩, .start .gt _ _ _ _⟩ (.cons ⟨_, _, rfl, ⟨_, XX _ _ (by k_is), rfl, _, rfl⟩, .start .ge _ _ _ _⟩ (.cons ⟨_, _, rfl, ⟨_, XX _ _ (by k_is), rfl, _, rfl⟩, .read _⟩ (.nil)))))))))))
  case hU => exact .inl ⟨_, XX _ _ (by k_is), rfl, _, rfl⟩
  case pU =>
    rw [run2]
    exact .cons (.inr (.inl ⟨_, _, _, rfl, rfl, ⟨_, XX _ _ (by k_is), rfl, _, rfl⟩, .cons (.str _ _) (.cons (.bytes _ _) .nil)⟩)) (.cons (.inl (.str _ _)) (.cons (.inl (.str _ _)) (.cons (.inl (.str _ _)) (.cons (.inr (.inl ⟨_, _, _, rfl, rfl, ⟨_, XX _ _ (by k_is), rfl, _, rfl⟩, .cons (.str _ _) (.cons (.bytes _ _) .nil)⟩)) (.cons (.inr (.inl ⟨_, _, _, rfl, rfl, ⟨_, XX _ _ (by k_is), rfl, _, rfl⟩, .cons (.str _ _) (.cons (.bytes _ _) .nil)⟩)) (.cons (.inl (.str _ _)) (.cons (.inr (.inl ⟨_, _, _, rfl, rfl, ⟨_, XX _ _ (by k_is), rfl, _, rfl⟩, .cons (.str _ _) (.cons (.bytes _ _) .nil)⟩)) (.cons (.inl (.str _ _)) (.cons (.inl (.str _ _)) (.cons (.inr (.inl ⟨_, _, _, rfl, rfl, ⟨_, XX _ _ (by k_is), rfl, _, rfl⟩, .cons (.str _ _) (.cons (.bytes _ _) .nil)⟩)) (.nil)))))))))))
  case hE => exact XX _ _ (by k_is)
  case pE => exact .cons ⟨_, _, _, rfl, ⟨_, XX _ _ (by k_is), rfl, _, rfl⟩⟩ (.cons ⟨_, _, _, rfl, ⟨_, XX _ _ (by k_is), rfl, _, rfl⟩⟩ (.cons ⟨_, _, _, rfl, ⟨_, XX _ _ (by k_is), rfl, _, rfl⟩⟩ (.nil)))
  case he =>
    rw [end2]
    exact ⟨List.Perm.refl _, by decide⟩
  case hl => rfl

theorem run3 : fRun .out 2 [.write #[97], .read, .start .eq 1, .delete, .write #[], .write #[99]] (fInit .out (rputs [] [(4, #[111, 108, 100])])) = ([.st (Str.ofString "00"), .row (Str.ofString "47") #[], .st (Str.ofString "47"), .st (Str.ofString "49"), .st (Str.ofString "00"), .st (Str.ofString "24")], (fRun .out 2 [.write #[97], .read, .start .eq 1, .delete, .write #[], .write #[99]] (fInit .out (rputs [] [(4, #[111, 108, 100])]))).2) := by rfl
theorem end3 : (fRun .out 2 [.write #[97], .read, .start .eq 1, .delete, .write #[], .write #[99]] (fInit .out (rputs [] [(4, #[111, 108, 100])]))).2.rows = [(1, #[97]), (2, #[])] := by rfl
set_option maxHeartbeats 8000000 in
theorem sess3 (H : Here w mean mg mb A₀ base h₀ outer env L m news s.heap) (hdp : dp + 80 < recursionLimit) (hu : un + 800 < cLine) {tm tmo tl : Tok}
    (ret : ∀ h' tk', Fr h₀ L h' m → News h₀ L h' news → Q (.bool true) { s with heap := h', toks := tk' }) :
    wpAny (model PySem.Challenge.rw_og0083_01.row.prog w) (aro dp un gd (env :: outer)) (call (.ref 316) [.str (Str.ofString "output") tm, .int 2 tmo, .ref 232, .ref 239, .ref 241, .ref 244, .int 2 tl]) Q E s := by
  have XX : Frag.In (hd.heap_39 w.params) s.heap := H.X.keeps H.F.keep
  (revert XX; k_fill; intro XX)
  refine' session_spec (mode := .out) (r0 := rputs [] [(4, #[111, 108, 100])]) (ends := [(1, #[97]), (2, #[])]) (deeds := [.write #[97], .read, .start .eq 1, .delete, .write #[], .write #[99]]) H hdp hu ?hB (by decide) ?hD ?pD ?hU ?pU ?hE ?pE ?he ?hl ret
  case hB => exact .pairs (XX _ _ (by k_is)) (.cons ⟨_, _, _, rfl, ⟨_, XX _ _ (by k_is), rfl, _, rfl⟩⟩ (.nil)) (by decide)
  case hD => exact .inl ⟨_, XX _ _ (by k_is), rfl, _, rfl⟩
  case pD => exact .cons ⟨_, _, rfl, ⟨_, XX _ _ (by k_is), rfl, _, rfl⟩, .write _ _ _⟩ (.cons ⟨_, _, rfl, ⟨_, XX _ _ (by k_is), rfl, _, rfl⟩, .read _⟩ (.cons ⟨_, _, rfl, ⟨_, XX _ _ (by k_is), rfl, _, rfl⟩, .start .eq _ _ _ _⟩ (.cons ⟨_, _, rfl, ⟨_, XX _ _ (by k_is), rfl, _, rfl⟩, .delete1 _⟩ (.cons ⟨_, _, rfl, ⟨_, XX _ _ (by k_is), rfl, _, rfl⟩, .write _ _ _⟩ (.cons ⟨_, _, rfl, ⟨_, XX _ _ (by k_is), rfl, _, rfl⟩, .write _ _ _⟩ (.nil))))))
  case hU => exact .inl ⟨_, XX _ _ (by k_is), rfl, _, rfl⟩
  case pU =>
    rw [run3]
    exact .cons (.inl (.str _ _)) (.cons (.inr (.inl ⟨_, _, _, rfl, rfl, ⟨_, XX _ _ (by k_is), rfl, _, rfl⟩, .cons (.str _ _) (.cons (.bytes _ _) .nil)⟩)) (.cons (.inl (.str _ _)) (.cons (.inl (.str _ _)) (.cons (.inl (.str _ _)) (.cons (.inl (.str _ _)) (.nil))))))
  case hE => exact XX _ _ (by k_is)
  case pE => exact .cons ⟨_, _, _, rfl, ⟨_, XX _ _ (by k_is), rfl, _, rfl⟩⟩ (.cons ⟨_, _, _, rfl, ⟨_, XX _ _ (by k_is), rfl, _, rfl⟩⟩ (.nil))
  case he =>
    rw [end3]
    exact ⟨List.Perm.refl _, by decide⟩
  case hl => rfl

theorem run4 : fRun .ext 0 [.write #[97], .write #[98], .rewrite #[98]] (fInit .ext (rputs [] [(4, #[111, 108, 100])])) = ([.st (Str.ofString "00"), .st (Str.ofString "00"), .st (Str.ofString "49")], (fRun .ext 0 [.write #[97], .write #[98], .rewrite #[98]] (fInit .ext (rputs [] [(4, #[111, 108, 100])]))).2) := by rfl
theorem end4 : (fRun .ext 0 [.write #[97], .write #[98], .rewrite #[98]] (fInit .ext (rputs [] [(4, #[111, 108, 100])]))).2.rows = [(4, #[111, 108, 100]), (5, #[97]), (6, #[98])] := by rfl
set_option maxHeartbeats 8000000 in
theorem sess4 (H : Here w mean mg mb A₀ base h₀ outer env L m news s.heap) (hdp : dp + 80 < recursionLimit) (hu : un + 800 < cLine) {tm tmo tl : Tok}
    (ret : ∀ h' tk', Fr h₀ L h' m → News h₀ L h' news → Q (.bool true) { s with heap := h', toks := tk' }) :
    wpAny (model PySem.Challenge.rw_og0083_01.row.prog w) (aro dp un gd (env :: outer)) (call (.ref 316) [.str (Str.ofString "extend") tm, .int 0 tmo, .ref 247, .ref 251, .ref 252, .ref 256, .int 6 tl]) Q E s := by
  have XX : Frag.In (hd.heap_39 w.params) s.heap := H.X.keeps H.F.keep
  (revert XX; k_fill; intro XX)
  refine' session_spec (mode := .ext) (r0 := rputs [] [(4, #[111, 108, 100])]) (ends := [(4, #[111, 108, 100]), (5, #[97]), (6, #[98])]) (deeds := [.write #[97], .write #[98], .rewrite #[98]]) H hdp hu ?hB (by decide) ?hD ?pD ?hU ?pU ?hE ?pE ?he ?hl ret
  case hB => exact .pairs (XX _ _ (by k_is)) (.cons ⟨_, _, _, rfl, ⟨_, XX _ _ (by k_is), rfl, _, rfl⟩⟩ (.nil)) (by decide)
  case hD => exact .inl ⟨_, XX _ _ (by k_is), rfl, _, rfl⟩
  case pD => exact .cons ⟨_, _, rfl, ⟨_, XX _ _ (by k_is), rfl, _, rfl⟩, .write _ _ _⟩ (.cons ⟨_, _, rfl, ⟨_, XX _ _ (by k_is), rfl, _, rfl⟩, .write _ _ _⟩ (.cons ⟨_, _, rfl, ⟨_, XX _ _ (by k_is), rfl, _, rfl⟩, .rewrite _ _ _⟩ (.nil)))
  case hU => exact .inl ⟨_, XX _ _ (by k_is), rfl, _, rfl⟩
  case pU =>
    rw [run4]
    exact .cons (.inl (.str _ _)) (.cons (.inl (.str _ _)) (.cons (.inl (.str _ _)) (.nil)))
  case hE => exact XX _ _ (by k_is)
  case pE => exact .cons ⟨_, _, _, rfl, ⟨_, XX _ _ (by k_is), rfl, _, rfl⟩⟩ (.cons ⟨_, _, _, rfl, ⟨_, XX _ _ (by k_is), rfl, _, rfl⟩⟩ (.cons ⟨_, _, _, rfl, ⟨_, XX _ _ (by k_is), rfl, _, rfl⟩⟩ (.nil)))
  case he =>
    rw [end4]
    exact ⟨List.Perm.refl _, by decide⟩
  case hl => rfl

theorem run5 : fRun .io 0 [.read, .start .ge 1, .write #[120], .delete] (fInit .io (rputs [] [])) = ([.row (Str.ofString "10") #[], .st (Str.ofString "23"), .st (Str.ofString "48"), .st (Str.ofString "43")], (fRun .io 0 [.read, .start .ge 1, .write #[120], .delete] (fInit .io (rputs [] []))).2) := by rfl
theorem end5 : (fRun .io 0 [.read, .start .ge 1, .write #[120], .delete] (fInit .io (rputs [] []))).2.rows = [] := by rfl
set_option maxHeartbeats 8000000 in
theorem sess5 (H : Here w mean mg mb A₀ base h₀ outer env L m news s.heap) (hdp : dp + 80 < recursionLimit) (hu : un + 800 < cLine) {tm tmo tl : Tok}
    (ret : ∀ h' tk', Fr h₀ L h' m → News h₀ L h' news → Q (.bool true) { s with heap := h', toks := tk' }) :
    wpAny (model PySem.Challenge.rw_og0083_01.row.prog w) (aro dp un gd (env :: outer)) (call (.ref 316) [.str (Str.ofString "i-o") tm, .int 0 tmo, .ref 258, .ref 263, .ref 265, .ref 266, .int 0 tl]) Q E s := by
  have XX : Frag.In (hd.heap_39 w.params) s.heap := H.X.keeps H.F.keep
  (revert XX; k_fill; intro XX)
  refine' session_spec (mode := .io) (r0 := rputs [] []) (ends := []) (deeds := [.read, .start .ge 1, .write #[120], .delete]) H hdp hu ?hB (by decide) ?hD ?pD ?hU ?pU ?hE ?pE ?he ?hl ret
  case hB => exact .pairs (XX _ _ (by k_is)) (.nil) (by decide)
  case hD => exact .inl ⟨_, XX _ _ (by k_is), rfl, _, rfl⟩
  case pD => exact .cons ⟨_, _, rfl, ⟨_, XX _ _ (by k_is), rfl, _, rfl⟩, .read _⟩ (.cons ⟨_, _, rfl, ⟨_, XX _ _ (by k_is), rfl, _, rfl⟩, .start .ge _ _ _ _⟩ (.cons ⟨_, _, rfl, ⟨_, XX _ _ (by k_is), rfl, _, rfl⟩, .write _ _ _⟩ (.cons ⟨_, _, rfl, ⟨_, XX _ _ (by k_is), rfl, _, rfl⟩, .delete1 _⟩ (.nil))))
  case hU => exact .inl ⟨_, XX _ _ (by k_is), rfl, _, rfl⟩
  case pU =>
    rw [run5]
    exact .cons (.inr (.inl ⟨_, _, _, rfl, rfl, ⟨_, XX _ _ (by k_is), rfl, _, rfl⟩, .cons (.str _ _) (.cons (.bytes _ _) .nil)⟩)) (.cons (.inl (.str _ _)) (.cons (.inl (.str _ _)) (.cons (.inl (.str _ _)) (.nil))))
  case hE => exact XX _ _ (by k_is)
  case pE => exact .nil
  case he =>
    rw [end5]
    exact ⟨List.Perm.refl _, by decide⟩
  case hl => rfl
end
noncomputable abbrev sRead : Str := Str.ofString "read"
noncomputable abbrev sStart : Str := Str.ofString "start"
noncomputable abbrev sWrite : Str := Str.ofString "write"
noncomputable abbrev sRewrite : Str := Str.ofString "rewrite"
noncomputable abbrev sDelete : Str := Str.ofString "delete"
noncomputable def Deed.word : Deed → Str
  | .read => sRead
  | .start .. => sStart
  | .write _ => sWrite
  | .rewrite _ => sRewrite
  | .delete => sDelete
structure HE where
  w : Str
  s : Str
  n : Int
/-- the low one, history reversed -/
noncomputable def lowR : List HE → Option Int
  | [] => some 1
  | e :: r => if e.w = sRead ∨ e.w = sStart then (if e.s ≠ s00 then none else some (if e.w = sRead then e.n + 1 else e.n)) else lowR r
noncomputable def dReading (hist : List HE) (r : RowsT) (most : Int) : Str × Int :=
  match lowR hist.reverse with
  | none => (s46, 0)
  | some low => if (rkeys r).filter (fun k => decide (low ≤ k)) = [] then (s10, 0)
    else if 0 < most ∧ most < leastL (rkeys r) low then (s14, 0) else (s00, leastL (rkeys r) low)
noncomputable def opAt (op : Op) (n k : Int) : Bool := match op with
  | .eq => decide (k = n)
  | .gt => decide (n < k)
  | .ge => decide (n ≤ k)
noncomputable def dStarting (r : RowsT) (op : Op) (n : Int) : Str × Int :=
  if (rkeys r).filter (opAt op n) = [] then (s23, 0) else (s00, minL ((rkeys r).filter (opAt op n)))
noncomputable def max0 (r : RowsT) : Int := maxL (0 :: rkeys r)
noncomputable def dStatus (mode : Mode) (most : Int) (hist : List HE) (r : RowsT) (d : Deed) : Str × Int :=
  match d with
  | .read => if mode.reads = false then (s47, 0) else dReading hist r most
  | .start op n => if mode.reads = false then (s47, 0) else dStarting r op n
  | .write _ => if mode.writes = false then (s48, 0) else if 0 < most ∧ most < max0 r + 1 then (s24, 0) else (s00, max0 r + 1)
  | _ => if mode ≠ .io then (s49, 0) else match hist.getLast? with
    | none => (s43, 0)
    | some e => if e.w = sRead ∧ e.s = s00 then (s00, e.n) else (s43, 0)
structure DSt where
  rows : RowsT
  hist : List HE
  last : Int
noncomputable def dRes (r : RowsT) (d : Deed) (sn : Str × Int) : Res := match d with
  | .read => .row sn.1 (if sn.1 = s00 then rget r sn.2 else #[])
  | _ => .st sn.1
noncomputable def dRows (r : RowsT) (d : Deed) (sn : Str × Int) : RowsT := match d with
  | .write b => if sn.1 = s00 then rput r sn.2 b else r
  | .rewrite b => if sn.1 = s00 then rput r sn.2 b else r
  | .delete => if sn.1 = s00 then rdel r sn.2 else r
  | _ => r
noncomputable def dLast (l : Int) (d : Deed) (sn : Str × Int) : Int := match d with
  | .start .. => l
  | .delete => l
  | _ => if sn.1 = s00 then sn.2 else l
noncomputable def dStep (mode : Mode) (most : Int) (d : Deed) (st : DSt) : Res × DSt :=
  let sn := dStatus mode most st.hist st.rows d
  (dRes st.rows d sn, ⟨dRows st.rows d sn, st.hist ++ [⟨d.word, sn.1, sn.2⟩], dLast st.last d sn⟩)
noncomputable def dRun (mode : Mode) (most : Int) : List Deed → DSt → List Res × DSt
  | [], st => ([], st)
  | d :: r, st => ((dStep mode most d st).1 :: (dRun mode most r (dStep mode most d st).2).1, (dRun mode most r (dStep mode most d st).2).2)
noncomputable def dInit (mode : Mode) (r : RowsT) : DSt := ⟨if mode = .out then [] else r, [], if mode = .ext then maxL (rkeys r ++ [0]) else 0⟩
noncomputable def PosR (r : RowsT) : Prop := ∀ k ∈ rkeys r, 1 ≤ k
theorem rkeys_put (r : RowsT) (k : Int) (b : Bts) : rkeys (rput r k b) = if rhas r k then rkeys r else rkeys r ++ [k] := by
  unfold rput
  split
  · unfold rkeys
    rw [List.map_map]
    refine List.map_congr_left fun p _ => ?_
    show (if p.1 = k then (p.1, b) else p).1 = p.1
    split <;> rfl
  · simp [rkeys]
theorem PosR.put {r : RowsT} {k : Int} {b : Bts} (h : PosR r) (hk : 1 ≤ k) : PosR (rput r k b) := fun x hx => by
  rw [rkeys_put] at hx
  split at hx
  · exact h x hx
  · rcases List.mem_append.mp hx with hx | hx
    · exact h x hx
    · rw [List.mem_singleton.mp hx]; exact hk
theorem PosR.del {r : RowsT} {k : Int} (h : PosR r) : PosR (rdel r k) := fun x hx => by
  obtain ⟨p, hp, rfl⟩ := List.mem_map.mp hx
  exact h _ (List.mem_map.mpr ⟨p, (List.mem_filter.mp hp).1, rfl⟩)
theorem leastL_pos {r : RowsT} {low : Int} (h : PosR r) (hne : (rkeys r).filter (fun k => decide (low ≤ k)) ≠ []) : 1 ≤ leastL (rkeys r) low :=
  h _ (List.mem_filter.mp (minL_mem hne)).1
theorem leastL_zero {r : RowsT} {low : Int} (h : PosR r) : leastL (rkeys r) low = 0 ↔ (rkeys r).filter (fun k => decide (low ≤ k)) = [] := by
  constructor
  · intro e
    by_cases hn : (rkeys r).filter (fun k => decide (low ≤ k)) = []
    · exact hn
    · have := leastL_pos h hn; omega
  · intro e; unfold leastL; rw [e]; rfl
theorem max0_ge (r : RowsT) : 0 ≤ max0 r := le_maxL (.head _)
theorem max0_le {r : RowsT} {k : Int} (h : k ∈ rkeys r) : k ≤ max0 r := le_maxL (.tail _ h)
theorem max0_put {r : RowsT} {b : Bts} : max0 (rput r (max0 r + 1) b) = max0 r + 1 := by
  have h0 := max0_ge r
  have hn : rhas r (max0 r + 1) = false := by
    cases e : rhas r (max0 r + 1) with
    | false => rfl
    | true => have := max0_le (rhas_iff.mp e); omega
  refine maxL_eq ?_ fun a ha => ?_
  · rw [rkeys_put, hn]; simp
  · rw [rkeys_put, hn] at ha
    rcases List.mem_cons.mp ha with rfl | ha
    · omega
    · simp only [Bool.false_eq_true, if_false] at ha
      rcases List.mem_append.mp ha with ha | ha
      · have := max0_le ha; omega
      · have := List.mem_singleton.mp ha; omega

noncomputable def lastOf (h : List HE) : Int := match h.getLast? with
  | none => 0
  | some e => if e.w = sRead ∧ e.s = s00 then e.n else 0
structure Inv (mode : Mode) (f : FSt) (d : DSt) : Prop where
  rows : f.rows = d.rows
  pos : PosR f.rows
  num : f.number = d.last
  low : mode.reads = true → match lowR d.hist.reverse with | none => f.val = false | some l => f.val = true ∧ lowOf f = l
  last : mode = .io → f.last = lastOf d.hist
  lpos : mode = .io → ∀ e, d.hist.getLast? = some e → e.w = sRead → e.s = s00 → 0 < e.n
  top : mode.writes = true → f.number = max0 f.rows

theorem lowR_snoc (h : List HE) (e : HE) : lowR (h ++ [e]).reverse = if e.w = sRead ∨ e.w = sStart then (if e.s ≠ s00 then none else some (if e.w = sRead then e.n + 1 else e.n)) else lowR h.reverse := by
  rw [List.reverse_append]; rfl
theorem last_snoc (h : List HE) (e : HE) : lastOf (h ++ [e]) = if e.w = sRead ∧ e.s = s00 then e.n else 0 := by unfold lastOf; rw [List.getLast?_concat]
theorem reads_not_writes {m : Mode} (h : m.reads = true) : m.writes = false := by cases m <;> simp_all [Mode.reads, Mode.writes]
theorem w_rs : sRead ≠ sStart := by decide
theorem w_w : ¬ (sWrite = sRead ∨ sWrite = sStart) := by decide
theorem w_r : ¬ (sRewrite = sRead ∨ sRewrite = sStart) := by decide
theorem w_d : ¬ (sDelete = sRead ∨ sDelete = sStart) := by decide
theorem n_47 : s47 ≠ s00 := by decide
theorem n_46 : s46 ≠ s00 := by decide
theorem n_10 : s10 ≠ s00 := by decide
theorem n_14 : s14 ≠ s00 := by decide
theorem n_23 : s23 ≠ s00 := by decide
theorem n_24 : s24 ≠ s00 := by decide
theorem n_43 : s43 ≠ s00 := by decide
theorem n_48 : s48 ≠ s00 := by decide
theorem n_49 : s49 ≠ s00 := by decide

theorem inv_init {mode : Mode} {r : RowsT} (h : PosR r) : Inv mode (fInit mode r) (dInit mode r) := by
  refine ⟨rfl, ?_, ?_, ?_, ?_, ?_, ?_⟩
  · show PosR (if mode = .out then [] else r)
    split
    · intro k hk; cases hk
    · exact h
  · show (if mode = .ext ∧ r ≠ [] then maxL (rkeys r) else 0) = if mode = .ext then maxL (rkeys r ++ [0]) else 0
    by_cases hm : mode = .ext
    · simp only [hm, true_and, if_true]
      by_cases hr : r = []
      · subst hr; rfl
      · rw [if_pos hr]
        have hne : rkeys r ≠ [] := by cases r <;> simp_all [rkeys]
        refine (maxL_eq (List.mem_append_left _ (maxL_mem hne)) fun a ha => ?_).symm
        rcases List.mem_append.mp ha with ha | ha
        · exact le_maxL ha
        · have := h _ (maxL_mem hne); have := List.mem_singleton.mp ha; omega
    · simp [hm]
  · intro _; exact ⟨rfl, rfl⟩
  · intro _; rfl
  · intro _ e he; cases he
  · intro hw
    show (if mode = .ext ∧ r ≠ [] then maxL (rkeys r) else 0) = max0 (if mode = .out then [] else r)
    cases mode with
    | inp => cases hw
    | io => cases hw
    | out => simp; rfl
    | ext =>
      simp only [true_and, reduceCtorEq, if_false]
      by_cases hr : r = []
      · subst hr; simp; rfl
      · rw [if_pos hr]
        have hne : rkeys r ≠ [] := by cases r <;> simp_all [rkeys]
        refine (maxL_eq (.tail _ (maxL_mem hne)) fun a ha => ?_).symm
        rcases List.mem_cons.mp ha with rfl | ha
        · have := h _ (maxL_mem hne); omega
        · exact le_maxL ha
theorem snoc_lpos {h : List HE} {e : HE} (hp : e.w = sRead → e.s = s00 → 0 < e.n) : ∀ x, (h ++ [e]).getLast? = some x → x.w = sRead → x.s = s00 → 0 < x.n := fun x hx => by
  rw [List.getLast?_concat] at hx; cases hx; exact hp
theorem lpos_of {h : List HE} {e : HE} (hw : e.w ≠ sRead ∨ e.s ≠ s00) : ∀ x, (h ++ [e]).getLast? = some x → x.w = sRead → x.s = s00 → 0 < x.n :=
  snoc_lpos fun a b => hw.elim (fun q => absurd a q) fun q => absurd b q
/-- a deed that is neither a reading nor a start, and changes nothing but last -/
theorem inv_other {mode : Mode} {f : FSt} {d : DSt} (I : Inv mode f d) (e : HE) (hw : ¬ (e.w = sRead ∨ e.w = sStart)) : Inv mode { f with last := 0 } ⟨d.rows, d.hist ++ [e], d.last⟩ :=
  ⟨I.rows, I.pos, I.num, fun hr => by rw [lowR_snoc, if_neg hw]; exact I.low hr, fun _ => by rw [last_snoc, if_neg fun q => hw (.inl q.1)], fun _ => lpos_of (.inl fun q => hw (.inl q)), I.top⟩
/-- a reading or start that fails -/
theorem inv_fail {mode : Mode} {f : FSt} {d : DSt} (I : Inv mode f d) (e : HE) (hw : e.w = sRead ∨ e.w = sStart) (hs : e.s ≠ s00) {v : Bool} (hv : mode.reads = true → v = false) : Inv mode { f with last := 0, val := v } ⟨d.rows, d.hist ++ [e], d.last⟩ :=
  ⟨I.rows, I.pos, I.num, fun hr => by rw [lowR_snoc, if_pos hw, if_pos hs]; exact hv hr, fun _ => by rw [last_snoc, if_neg fun q => hs q.2], fun _ => lpos_of (.inr hs), I.top⟩
theorem step_read {mode : Mode} {most : Int} {f : FSt} {d : DSt} (I : Inv mode f d) : (fStep mode most .read f).1 = (dStep mode most .read d).1 ∧ Inv mode (fStep mode most .read f).2 (dStep mode most .read d).2 := by
  cases hr : mode.reads with
  | false =>
    have h1 : fReadNext mode most f = ((s47, #[]), { f with last := 0 }) := rn_47 hr
    have h2 : dStatus mode most d.hist d.rows .read = (s47, 0) := by simp [dStatus, hr]
    simp only [fStep, dStep, h1, h2, dRes, dRows, dLast, if_neg n_47, true_and]
    exact inv_fail I ⟨sRead, s47, 0⟩ (.inl rfl) n_47 (v := f.val) (fun q => by rw [hr] at q; cases q)
  | true =>
    have hl := I.low hr
    cases hlow : lowR d.hist.reverse with
    | none =>
      rw [hlow] at hl
      have hl : f.val = false := hl
      have h1 : fReadNext mode most f = ((s46, #[]), { f with last := 0 }) := rn_46 hr hl
      have h2 : dStatus mode most d.hist d.rows .read = (s46, 0) := by simp [dStatus, hr, dReading, hlow]
      simp only [fStep, dStep, h1, h2, dRes, dRows, dLast, if_neg n_46, true_and]
      exact inv_fail I ⟨sRead, s46, 0⟩ (.inl rfl) n_46 (v := f.val) (fun _ => hl)
    | some low =>
      rw [hlow] at hl
      obtain ⟨hv, hlo⟩ : f.val = true ∧ lowOf f = low := hl
      have hR := I.rows
      by_cases h0 : leastL (rkeys f.rows) low = 0
      · have h1 : fReadNext mode most f = ((s10, #[]), { f with last := 0, val := false }) := rn_10 hr hv hlo h0
        have hf := (leastL_zero I.pos).mp h0
        rw [hR] at hf
        have h2 : dStatus mode most d.hist d.rows .read = (s10, 0) := by simp [dStatus, hr, dReading, hlow, hf]
        simp only [fStep, dStep, h1, h2, dRes, dRows, dLast, if_neg n_10, true_and]
        exact inv_fail I ⟨sRead, s10, 0⟩ (.inl rfl) n_10 (fun _ => rfl)
      · have hf : (rkeys f.rows).filter (fun k => decide (low ≤ k)) ≠ [] := fun q => h0 ((leastL_zero I.pos).mpr q)
        have hpos := leastL_pos I.pos hf
        have hf' := hf
        rw [hR] at hf'
        by_cases hm : 0 < most ∧ most < leastL (rkeys f.rows) low
        · have h1 : fReadNext mode most f = ((s14, #[]), { f with last := 0, val := false }) := rn_14 hr hv hlo h0 hm.1 hm.2
          have h2 : dStatus mode most d.hist d.rows .read = (s14, 0) := by
            rw [hR] at hm
            simp only [dStatus, hr, dReading, hlow, if_neg hf', if_pos hm]; rfl
          simp only [fStep, dStep, h1, h2, dRes, dRows, dLast, if_neg n_14, true_and]
          exact inv_fail I ⟨sRead, s14, 0⟩ (.inl rfl) n_14 (fun _ => rfl)
        · have h1 := rn_00 (most := most) hr hv hlo h0 hm
          have h2 : dStatus mode most d.hist d.rows .read = (s00, leastL (rkeys d.rows) low) := by
            rw [hR] at hm
            simp only [dStatus, hr, dReading, hlow, if_neg hf', if_neg hm]; rfl
          simp only [fStep, dStep, h1, h2, dRes, dRows, dLast, if_true, hR, true_and]
          rw [hR] at hpos
          refine ⟨by show f.rows = d.rows; exact hR, by show PosR f.rows; exact I.pos, rfl, fun _ => ?_, fun _ => ?_, fun _ => snoc_lpos fun _ _ => ?_, fun q => ?_⟩
          · rw [lowR_snoc, if_pos (.inl rfl), if_neg (fun q => q rfl)]
            dsimp only
            rw [if_pos (show Deed.read.word = sRead from rfl)]
            exact ⟨rfl, rfl⟩
          · rw [last_snoc, if_pos ⟨rfl, rfl⟩]; rfl
          · show 0 < leastL (rkeys d.rows) low; omega
          · rw [reads_not_writes hr] at q; cases q
theorem start_eq {r : RowsT} (h : PosR r) (op : Op) (n : Int) :
    (0 < startNum r op n ↔ (rkeys r).filter (opAt op n) ≠ []) ∧ ((rkeys r).filter (opAt op n) ≠ [] → minL ((rkeys r).filter (opAt op n)) = startNum r op n) := by
  cases op with
  | eq =>
    have key : (rkeys r).filter (opAt .eq n) ≠ [] ↔ n ∈ rkeys r := by
      constructor
      · intro hne
        obtain ⟨h1, h2⟩ := List.mem_filter.mp (minL_mem hne)
        have := of_decide_eq_true h2
        rw [this] at h1; exact h1
      · intro hm e
        have : n ∈ (rkeys r).filter (opAt .eq n) := List.mem_filter.mpr ⟨hm, decide_eq_true rfl⟩
        rw [e] at this; cases this
    refine ⟨?_, fun hne => ?_⟩
    · rw [key, ← rhas_iff]
      unfold startNum
      cases e : rhas r n with
      | true => have := h n (rhas_iff.mp e); simp; omega
      | false => simp
    · have hm := key.mp hne
      have h2 := (List.mem_filter.mp (minL_mem hne)).2
      have := of_decide_eq_true h2
      unfold startNum
      simp only [rhas_iff.mpr hm, if_true]; exact this
  | gt =>
    have e : (rkeys r).filter (opAt .gt n) = (rkeys r).filter (fun k => decide (n + 1 ≤ k)) := List.filter_congr fun k _ => by
      show decide (n < k) = decide (n + 1 ≤ k)
      exact decide_eq_decide.mpr (by omega)
    rw [e]
    show (0 < leastL (rkeys r) (n + 1) ↔ _) ∧ _
    refine ⟨⟨fun hp q => ?_, fun hne => ?_⟩, fun _ => rfl⟩
    · have := (leastL_zero h).mpr q; omega
    · have := leastL_pos h hne; omega
  | ge =>
    have e : (rkeys r).filter (opAt .ge n) = (rkeys r).filter (fun k => decide (n ≤ k)) := rfl
    rw [e]
    show (0 < leastL (rkeys r) n ↔ _) ∧ _
    refine ⟨⟨fun hp q => ?_, fun hne => ?_⟩, fun _ => rfl⟩
    · have := (leastL_zero h).mpr q; omega
    · have := leastL_pos h hne; omega
theorem step_start {mode : Mode} {most : Int} {f : FSt} {d : DSt} {op : Op} {n : Int} (I : Inv mode f d) : (fStep mode most (.start op n) f).1 = (dStep mode most (.start op n) d).1 ∧ Inv mode (fStep mode most (.start op n) f).2 (dStep mode most (.start op n) d).2 := by
  have hR := I.rows
  cases hr : mode.reads with
  | false =>
    have h1 : fStart mode op n f = (s47, { f with last := 0 }) := fs_47 hr
    have h2 : dStatus mode most d.hist d.rows (.start op n) = (s47, 0) := by simp [dStatus, hr]
    simp only [fStep, dStep, h1, h2, dRes, dRows, dLast, true_and]
    exact inv_fail I ⟨sStart, s47, 0⟩ (.inr rfl) n_47 (v := f.val) (fun q => by rw [hr] at q; cases q)
  | true =>
    obtain ⟨k1, k2⟩ := start_eq I.pos op n
    by_cases hp : 0 < startNum f.rows op n
    · have h1 : fStart mode op n f = _ := fs_00 hr rfl hp
      have hne := k1.mp hp
      have hk := k2 hne
      rw [hR] at hne hk
      have h2 : dStatus mode most d.hist d.rows (.start op n) = (s00, startNum d.rows op n) := by
        simp only [dStatus, hr, dStarting, if_neg hne, hk]; rfl
      simp only [fStep, dStep, h1, h2, dRes, dRows, dLast, true_and]
      refine ⟨hR, I.pos, I.num, fun _ => ?_, fun _ => ?_, fun _ => lpos_of (.inl (Ne.symm w_rs)), fun q => ?_⟩
      · rw [lowR_snoc, if_pos (.inr rfl), if_neg (fun q => q rfl)]
        dsimp only
        rw [if_neg (show ¬ (Deed.start op n).word = sRead from Ne.symm w_rs)]
        exact ⟨decide_eq_true hp, by show startNum f.rows op n = startNum d.rows op n; rw [hR]⟩
      · rw [last_snoc, if_neg (fun q => w_rs q.1.symm)]
      · rw [reads_not_writes hr] at q; cases q
    · have h1 : fStart mode op n f = _ := fs_23 hr rfl hp
      have hne : (rkeys f.rows).filter (opAt op n) = [] := Classical.byContradiction fun q => hp (k1.mpr q)
      rw [hR] at hne
      have h2 : dStatus mode most d.hist d.rows (.start op n) = (s23, 0) := by simp [dStatus, hr, dStarting, hne]
      simp only [fStep, dStep, h1, h2, dRes, dRows, dLast, true_and]
      exact inv_fail I ⟨sStart, s23, 0⟩ (.inr rfl) n_23 (fun _ => decide_eq_false hp)
theorem step_write {mode : Mode} {most : Int} {f : FSt} {d : DSt} {b : Bts} (I : Inv mode f d) : (fStep mode most (.write b) f).1 = (dStep mode most (.write b) d).1 ∧ Inv mode (fStep mode most (.write b) f).2 (dStep mode most (.write b) d).2 := by
  have hR := I.rows
  cases hw : mode.writes with
  | false =>
    have h1 : fWrite mode most b f = (s48, { f with last := 0 }) := fw_48 hw
    have h2 : dStatus mode most d.hist d.rows (.write b) = (s48, 0) := by simp [dStatus, hw]
    simp only [fStep, dStep, h1, h2, dRes, dRows, dLast, if_neg n_48, true_and]
    exact inv_other I ⟨sWrite, s48, 0⟩ w_w
  | true =>
    have hn := I.top hw
    have h0 := max0_ge f.rows
    by_cases hm : 0 < most ∧ most < f.number + 1
    · have h1 : fWrite mode most b f = _ := fw_24b hw hm.1 hm.2
      have h2 : dStatus mode most d.hist d.rows (.write b) = (s24, 0) := by
        rw [hn, hR] at hm
        simp only [dStatus, hw, if_pos hm]; rfl
      simp only [fStep, dStep, h1, h2, dRes, dRows, dLast, if_neg n_24, true_and]
      exact inv_other I ⟨sWrite, s24, 0⟩ w_w
    · have hn' : rhas f.rows (f.number + 1) = false := by
        cases e : rhas f.rows (f.number + 1) with
        | false => rfl
        | true => have := max0_le (rhas_iff.mp e); omega
      have h1 : fWrite mode most b f = _ := fw_00 hw (by omega) hm hn'
      have h2 : dStatus mode most d.hist d.rows (.write b) = (s00, max0 d.rows + 1) := by
        rw [hn, hR] at hm
        simp only [dStatus, hw, if_neg hm]; rfl
      simp only [fStep, dStep, h1, h2, dRes, dRows, dLast, if_true, true_and]
      rw [hn, hR]
      refine ⟨rfl, ?_, rfl, fun q => ?_, fun q => ?_, fun q => ?_, fun _ => max0_put.symm⟩
      · refine PosR.put (by rw [← hR]; exact I.pos) ?_
        have := max0_ge d.rows; omega
      · rw [reads_not_writes q] at hw; cases hw
      · subst q; cases hw
      · subst q; cases hw
theorem step_other {mode : Mode} {most : Int} {f : FSt} {d : DSt} {deed : Deed} (I : Inv mode f d) (hd : (∃ b, deed = .rewrite b) ∨ deed = .delete) : (fStep mode most deed f).1 = (dStep mode most deed d).1 ∧ Inv mode (fStep mode most deed f).2 (dStep mode most deed d).2 := by
  have hR := I.rows
  have hw : ¬ (deed.word = sRead ∨ deed.word = sStart) := by rcases hd with ⟨b, rfl⟩ | rfl; exact w_r; exact w_d
  have hD : dStatus mode most d.hist d.rows deed = if mode ≠ .io then (s49, 0) else match d.hist.getLast? with
    | none => (s43, 0)
    | some e => if e.w = sRead ∧ e.s = s00 then (s00, e.n) else (s43, 0) := by rcases hd with ⟨b, rfl⟩ | rfl <;> rfl
  by_cases hm : mode = .io
  · have hlast := I.last hm
    by_cases hp : 0 < f.last
    · have hs : dStatus mode most d.hist d.rows deed = (s00, f.last) := by
        rw [hD, if_neg (fun q => q hm)]
        rw [hlast] at hp ⊢
        unfold lastOf at hp ⊢
        cases hg : d.hist.getLast? with
        | none => rw [hg] at hp; exact absurd hp (by simp)
        | some e =>
          rw [hg] at hp
          simp only at hp ⊢
          by_cases hq : e.w = sRead ∧ e.s = s00
          · rw [if_pos hq, if_pos hq]
          · rw [if_neg hq] at hp; exact absurd hp (by simp)
      rcases hd with ⟨b, rfl⟩ | rfl
      · have h1 : fRewrite mode b f = _ := fr_00 hm hp
        simp only [fStep, dStep, h1, hs, dRes, dRows, dLast, if_true, true_and]
        refine ⟨by show rput f.rows f.last b = rput d.rows f.last b; rw [hR], PosR.put I.pos (by omega), rfl, fun hr => ?_, fun _ => ?_, fun _ => lpos_of (.inl (fun q => w_r (.inl q))), fun q => ?_⟩
        · rw [lowR_snoc, if_neg hw]; exact I.low hr
        · rw [last_snoc, if_neg (fun q => w_r (.inl q.1))]
        · rw [hm] at q; cases q
      · have h1 : fDelete mode f = _ := fd_00 hm hp
        simp only [fStep, dStep, h1, hs, dRes, dRows, dLast, if_true, true_and]
        refine ⟨by show rdel f.rows f.last = rdel d.rows f.last; rw [hR], PosR.del I.pos, I.num, fun hr => ?_, fun _ => ?_, fun _ => lpos_of (.inl (fun q => w_d (.inl q))), fun q => ?_⟩
        · rw [lowR_snoc, if_neg hw]; exact I.low hr
        · rw [last_snoc, if_neg (fun q => w_d (.inl q.1))]
        · rw [hm] at q; cases q
    · have hs : dStatus mode most d.hist d.rows deed = (s43, 0) := by
        rw [hD, if_neg (fun q => q hm)]
        have hl := I.lpos hm
        rw [hlast] at hp
        unfold lastOf at hp
        cases hg : d.hist.getLast? with
        | none => rfl
        | some e =>
          rw [hg] at hp
          simp only at hp ⊢
          by_cases hq : e.w = sRead ∧ e.s = s00
          · rw [if_pos hq] at hp
            exact absurd (hl e hg hq.1 hq.2) hp
          · rw [if_neg hq]
      rcases hd with ⟨b, rfl⟩ | rfl
      · have h1 : fRewrite mode b f = _ := fr_43 hm hp
        simp only [fStep, dStep, h1, hs, dRes, dRows, dLast, if_neg n_43, true_and]
        exact inv_other I ⟨sRewrite, s43, 0⟩ w_r
      · have h1 : fDelete mode f = _ := fd_43 hm hp
        simp only [fStep, dStep, h1, hs, dRes, dRows, dLast, if_neg n_43, true_and]
        exact inv_other I ⟨sDelete, s43, 0⟩ w_d
  · have hs : dStatus mode most d.hist d.rows deed = (s49, 0) := by rw [hD, if_pos hm]
    rcases hd with ⟨b, rfl⟩ | rfl
    · have h1 : fRewrite mode b f = _ := fr_49 hm
      simp only [fStep, dStep, h1, hs, dRes, dRows, dLast, if_neg n_49, true_and]
      exact inv_other I ⟨sRewrite, s49, 0⟩ w_r
    · have h1 : fDelete mode f = _ := fd_49 hm
      simp only [fStep, dStep, h1, hs, dRes, dRows, dLast, if_neg n_49, true_and]
      exact inv_other I ⟨sDelete, s49, 0⟩ w_d
theorem step_all {mode : Mode} {most : Int} {f : FSt} {d : DSt} (I : Inv mode f d) (deed : Deed) : (fStep mode most deed f).1 = (dStep mode most deed d).1 ∧ Inv mode (fStep mode most deed f).2 (dStep mode most deed d).2 := by
  cases deed with
  | read => exact step_read I
  | start op n => exact step_start I
  | write b => exact step_write I
  | rewrite b => exact step_other I (.inl ⟨b, rfl⟩)
  | delete => exact step_other I (.inr rfl)
theorem run_all {mode : Mode} {most : Int} : ∀ (l : List Deed) {f : FSt} {d : DSt}, Inv mode f d → (fRun mode most l f).1 = (dRun mode most l d).1 ∧ Inv mode (fRun mode most l f).2 (dRun mode most l d).2
  | [], _, _, I => ⟨rfl, I⟩
  | x :: l, f, d, I => by
    obtain ⟨h1, h2⟩ := step_all (most := most) I x
    obtain ⟨h3, h4⟩ := run_all (most := most) l h2
    exact ⟨by simp only [fRun, dRun, h1, h3], h4⟩
theorem words23 : True := by
  k_with "S roomL" => (first | walk_at "S room" | decide)
  k_with "call ref" => ((k_here; (with_reducible show wpAny _ _ (call (Value.ref 316) _ _) _ _ _); (k_dflt (show wpAny _ _ (call (Value.ref 316) _ _) _ _ _)); (k_dflt (first | ((with_reducible show wpAny _ _ (call _ [_, _, Value.ref 176, _, _, _, _] _) _ _ _); refine' sess1 (by walk_at "S here") (by walk_at "S roomL") (by walk_at "S roomL") ?_; k_whole) | ((with_reducible show wpAny _ _ (call _ [_, _, Value.ref 207, _, _, _, _] _) _ _ _); refine' sess2 (by walk_at "S here") (by walk_at "S roomL") (by walk_at "S roomL") ?_; k_whole) | ((with_reducible show wpAny _ _ (call _ [_, _, Value.ref 232, _, _, _, _] _) _ _ _); refine' sess3 (by walk_at "S here") (by walk_at "S roomL") (by walk_at "S roomL") ?_; k_whole) | ((with_reducible show wpAny _ _ (call _ [_, _, Value.ref 247, _, _, _, _] _) _ _ _); refine' sess4 (by walk_at "S here") (by walk_at "S roomL") (by walk_at "S roomL") ?_; k_whole) | ((with_reducible show wpAny _ _ (call _ [_, _, Value.ref 258, _, _, _, _] _) _ _ _); refine' sess5 (by walk_at "S here") (by walk_at "S roomL") (by walk_at "S roomL") ?_; k_whole))); (intro _ _ _ _); (try k_sweep)))
  trivial
inductive TakeDef : Obj → Str → Arguments → List Stmt → Scope → Prop
  | mk {oc : Value} {od : Option Addr} {osl : Array (Option Value)} {nm q : Str} {ps : Arguments} {s1 s2 s3 s5 : Stmt} {name : Str} {params : Arguments} {body : List Stmt} {decos : List Expr} {rets : Option Expr} {tps : List TypeParam} {scope : Scope} {tsc : Option Scope} {bd : Str} {pos : Pos}
      {scope0 : Scope} {dV kV doc pm cdv ct : Value} {an : Option Addr} :
      TakeDef ⟨oc, od, .func (fnOf nm q ps [s1, s2, s3, .FunctionDef name params body decos rets tps scope tsc bd pos, s5] scope0 dV kV doc pm an cdv ct), osl⟩ name params body scope
theorem same_lookup {K : Frag} {a : Addr} {o o' : Obj} (h : K.lookup a = some o) (h' : K.lookup a = some o') : o' = o := Option.some.inj (h'.symm.trans h)
theorem twoD {h₀ h : Heap} {L a b : Addr} {news : List (Addr × Obj)} {o o' : Obj} (N : News h₀ L h news) (h1 : (a, o) ∈ news) (h2 : (b, o') ∈ news) (hc : o.data ≠ o'.data) : @Ne Nat a b := fun e => by
  have e1 := (N _ h1).1
  have e2 := (N _ h2).1
  rw [show (a, o).1 = (b, o').1 from e, e2] at e1
  exact hc (congrArg Obj.data (Option.some.inj e1)).symm
theorem call_S2 {prog : Program} {w : World} {A : Around} {s : Shared} {g : Heap} {muts : List (Addr × Obj)}
    {R : Result → Shared → Prop} {name qual : Str} {params : Arguments} {body : List Stmt} {scope : Scope} {cl : List (Str × Addr)} {dV kV doc pm cdv ct : Value} {an : Option Addr} {fo : Obj} {f : Addr} {args : Args} {binds : List (Str × Value)}
    (C : Cut muts s.heap g) (hlim : g.NoLimit) (ho : s.heap.get? f = some fo) (hd : fo.data = .func (fnX name qual params body scope cl dV kV doc pm an cdv ct)) (hcd : s.heap.CodeRec cdv qual) (hroom : A.depth < recursionLimit)
    (hbind : BindsTo s (fnX name qual params body scope cl dV kV doc pm an cdv ct) args binds) (hloc : ∀ y ∈ binds, scope.names.lookup y.1 = some .local)
    (h : ∀ L' h₁ tk, Fr g L' h₁ (fun y => binds.reverse.lookup y) → News g L' h₁ muts → (∀ p ∈ muts, p.1 < L') →
      wpAny (model prog w) (A.deeper (envX qual scope L' f cdv cl)) (execs body (envX qual scope L' f cdv cl))
        (fun fl s' => R (.ok (.ret (match fl with | .ret v => v | _ => .none))) s')
        (fun e s' => wpAny (model prog w) (A.deeper (envX qual scope L' f cdv cl)) (leaving (envX qual scope L' f cdv cl) e) (fun _ s'' => R (.error e) s'') (fun e' s'' => R (.error e') s'') s')
        { s with heap := h₁, toks := tk })
    (hcell : ∀ x ∈ scope.names, x.2 ≠ .cell) (hco : scope.isCoroutine = false) (hgen : scope.isGenerator = false) (hk : scope.kind = .function) : codeAny (model prog w) A (.call (.ref f) args) R s := by
  refine codeAny_call_def (fd := fnX name qual params body scope cl dV kV doc pm an cdv ct) (body := body) (binds := binds) hroom ho hd (hlim.keeps C.stays) hcd rfl hbind hcell hloc (fun h₁ hns hk₁ => ?_) hco hgen hk
  exact h s.heap.objs.size h₁ _ ⟨hns, fun b o e => hk₁ b o (C.stays b o e), Nat.le_of_eq C.size⟩
    (fun p hp => ⟨hk₁ _ _ (C.here p hp).1, Nat.ne_of_lt (Heap.lt_size (C.here p hp).1), (C.here p hp).2⟩) (fun p hp => Heap.lt_size (C.here p hp).1)
theorem words24 : True := by
  k_with "S cell" => (first | exact List.Mem.head _ | (refine' List.Mem.tail _ ?_; walk_at "S cell"))
  trivial
theorem lev_ok {k n : Int} (hk : 0 ≤ k) (hk2 : k < 400) (hn : 0 < n) : 0 ≤ k.fdiv n ∧ k.fdiv n ≤ 1000000 := by
  rw [Int.fdiv_eq_ediv_of_nonneg _ (by omega)]
  have h1 := Int.ediv_nonneg hk (by omega : 0 ≤ n)
  have h2 := Int.ediv_le_self n hk
  omega
theorem lev_log {k n : Int} (hk : 0 ≤ k) (hk2 : k < 400) (hn : 0 < n) : ((720720 : Int) ^ (k.fdiv n).toNat).natAbs.log2 < 9000 := by
  have hj : (k.fdiv n).toNat ≤ 400 := by
    have h2 := Int.ediv_le_self n hk
    rw [Int.fdiv_eq_ediv_of_nonneg _ (by omega)]
    omega
  generalize (k.fdiv n).toNat = j at hj
  rw [Int.natAbs_pow]
  have h1 : (720720 : Int).natAbs = 720720 := rfl
  rw [h1, Nat.log2_lt (Nat.ne_of_gt (Nat.pow_pos (by decide)))]
  calc 720720 ^ j ≤ (2 ^ 20) ^ j := Nat.pow_le_pow_left (by decide) j
    _ = 2 ^ (20 * j) := (Nat.pow_mul 2 20 j).symm
    _ < 2 ^ 9000 := Nat.pow_lt_pow_right (by decide) (by omega)
theorem lev_ne {j : Nat} : (720720 : Int) ^ j ≠ 0 := by
  have : (0 : Int) < 720720 ^ j := Int.pow_pos (by decide)
  omega
theorem words25 : True := by
  k_with "binaryOp FloorDiv int int" => ((k_here; (with_reducible show wpAny _ _ (binaryOp _ (Value.int _ _) (Value.int (720720 ^ _) _)) _ _ _); k_dflt (refine' floordiv_int (by exact lev_ne) ?_ (Or.inl (PyProof.noPylong_of_log2 (by exact lev_log (by assumption) (by assumption) (by omega)))); k_whole)))
  k_with "binaryOp Pow int int" => ((k_here; k_dflt (refine' pow_int_small (by exact (lev_ok (by assumption) (by assumption) (by omega)).1) (by exact (lev_ok (by assumption) (by assumption) (by omega)).2) (by decide) ?_; k_whole)))
  trivial
section
set_option maxHeartbeats 8000000 in
noncomputable def take_spec_a_pre : (Pa : (World) → (ExcName → Option Value) → (Str → Option Value) → (Str → Option Value) → (Heap) → (Heap) → (List Env) → (Env) → (Addr) → (Str → Option Value) → (List (Addr × Obj)) → (Shared) → (Nat) → (Nat) → (Option (List Code)) → (Value → Shared → Prop) → (Value → Shared → Prop) → (Addr) → (Addr) → (Addr) → (Addr) → (Addr) → (Addr) → (Str) → (Value) → (Value) → (Value) → (Obj) → (Obj) → (List Value) → (Nat) → (Nat) → (List Int) → (Int) → (Int) → (Tok) → (Tok) → (Obj → List (Addr × Obj)) → (Heap) → (Addr) → (Heap) → (Nat) → Prop) ×' ((∀ w mean mg mb base h₀ outer env L m news s dp un gd Q E f c1 c2 lp lc c' qual dc md ct o1 o2 cs c cp zs k lim tk tl u g L' h1 tk1, Pa w mean mg mb base h₀ outer env L m news s dp un gd Q E f c1 c2 lp lc c' qual dc md ct o1 o2 cs c cp zs k lim tk tl u g L' h1 tk1) → (∀ (w : World) (mean : ExcName → Option Value) (mg mb : Str → Option Value) (A₀ : Around) (base h₀ : Heap) (outer : List Env) (env : Env) (L : Addr) (m : Str → Option Value) (news : List (Addr × Obj)) (s : Shared) (dp un : Nat) (gd : Option (List Code)) (Q E : Value → Shared → Prop) (H : Here w mean mg mb A₀ base h₀ outer env L m news s.heap) (hdp : dp + 20 < recursionLimit) (f c1 c2 lp lc c' : Addr) (name qual : Str) (params : Arguments) (body : List Stmt) (scope : Scope) (dc md ct : Value) (o275 o1 o2 : Obj) (ho : (hd.heap_39 w.params).lookup 275 = some o275) (hT : TakeDef o275 name params body scope) (hf : s.heap.get? f = some (fnMade name qual params body scope [(Str.ofString "place", c2), (Str.ofString "cells", c1)] dc md c' ct)) (hcr : s.heap.CodeRec (.ref c') qual) (h1 : (c1, o1) ∈ news) (d1 : o1.data = .cell (some (.ref lc))) (h2 : (c2, o2) ∈ news) (d2 : o2.data = .cell (some (.ref lp))) (cs : List Value) (c cp : Nat) (zs : List Int) (hlc : (lc, listOf cs.toArray c) ∈ news) (hi : IntsAre cs zs) (hn : 0 < zs.length) (hn2 : zs.length ≤ 63) (k lim : Int) (tk tl : Tok) (u : Obj → List (Addr × Obj)) (hlp : (lp, listOf #[.int k tk] cp) ∈ news) (U : UpdF lp (listOf #[.int k tk] cp) news u) (hll : @Ne Nat lp lc) (hk : 0 ≤ k) (hk2 : k < 400) (hlim : 0 < lim) (hlim2 : lim ≤ 1000) (ret : ∀ r t h' tk' t' cp', 0 ≤ r → r < lim → Fr h₀ L h' m → News h₀ L h' (u (listOf #[.int (k + 1) t'] cp')) → Q (.int r t) { s with heap := h', toks := tk' }), wpAny (model PySem.Challenge.rw_og0083_01.row.prog w) (aro dp un gd (env :: outer)) (call (.ref f) [.int lim tl]) Q E s)) := by
  refine' ⟨_, fun hPa => ?_⟩
  rotate_left 1
  · skip
    intro w mean mg mb A₀ base h₀ outer env L m news s dp un gd Q E H hdp f c1 c2 lp lc c' name qual params body scope dc md ct o275 o1 o2 ho hT hf hcr h1 d1 h2 d2 cs c cp zs hlc hi hn hn2 k lim tk tl u hlp U hll hk hk2 hlim hlim2 ret
    refine H.cutK (dp := dp) (un := un) (gd := gd) (muts := [(lp, listOf #[.int k tk] cp), (lc, listOf cs.toArray c), (c1, o1), (c2, o2)]) (by simp [hlp, hlc, h1, h2]) (fun g C st' B X T fr kp ns hN => ?_)
    have n1 : @Ne Nat c1 lp := twoD hN h1 hlp (by rw [d1]; intro h; cases h)
    have n2 : @Ne Nat c1 lc := twoD hN h1 hlc (by rw [d1]; intro h; cases h)
    have n3 : @Ne Nat c2 lp := twoD hN h2 hlp (by rw [d2]; intro h; cases h)
    have n4 : @Ne Nat c2 lc := twoD hN h2 hlc (by rw [d2]; intro h; cases h)
    have n5 : @Ne Nat c1 c2 := twoD hN h1 h2 (by rw [d1, d2]; intro h; cases h; exact hll rfl)
    have hcl := hi.length
    clear H
    (revert C T; revert X; k_fill; intro X C T)
    have e := same_lookup (by k_is) ho
    subst e
    cases hT
    (repeat (rename Flagged _ => mk0; clear mk0))
    k_with "eval Name" => ((rename Flagged 7 => mk7); ((k_here; k_dflt (refine' nameX_F ?N ?c ?m ?d ?_ ?a ?b; (case a => rfl); (case b => rfl); (case N => k_asm); (case c => rfl); (case m => walk_at "S cell"); (case d => k_asm); k_whole))))
    have mk7 : Flagged 7 := ⟨⟩
    refine wpAny_call ?_
    refine' call_S2 C T.nolimit hf rfl hcr ?k8 ?k9 ?kB ?_ ?c5 ?c2 ?c3 ?c4
    case k8 => k_room
    case k9 => exact BindsTo.of_eq rfl
    case kB => exact locs rfl
    case c5 => decide
    case c2 => rfl
    case c3 => rfl
    case c4 => rfl
    k_whole
    intro L' h1 tk1 F1 N1 l1
    k_lt l1
    dsimp only
    k_sweep
    rename_i za0
    revert l1; revert N1; revert F1; revert hf; revert ho; revert T; revert C; revert X; revert hcl; revert n5; revert n4; revert n3; revert n2; revert n1; revert hN; revert ns; revert kp; revert fr; revert B; revert st'; revert ret; revert hlim2; revert hlim; revert hk2; revert hk; revert hll; revert U; revert hlp; revert hn2; revert hn; revert hi; revert hlc; revert d2; revert h2; revert d1; revert za0; revert hcr; revert hdp
    exact hPa w mean mg mb base h₀ outer env L m news s dp un gd Q E f c1 c2 lp lc c' qual dc md ct o1 o2 cs c cp zs k lim tk tl u g L' h1 tk1
noncomputable def take_spec_a_v : (World) × (ExcName → Option Value) × (Str → Option Value) × (Str → Option Value) × (Heap) × (Heap) × (List Env) × (Env) × (Addr) × (Str → Option Value) × (List (Addr × Obj)) × (Shared) × (Nat) × (Nat) × (Option (List Code)) × (Value → Shared → Prop) × (Value → Shared → Prop) × (Addr) × (Addr) × (Addr) × (Addr) × (Addr) × (Addr) × (Str) × (Value) × (Value) × (Value) × (Obj) × (Obj) × (List Value) × (Nat) × (Nat) × (List Int) × (Int) × (Int) × (Tok) × (Tok) × (Obj → List (Addr × Obj)) × (Heap) × (Addr) × (Heap) × (Nat) := @Classical.epsilon _ ⟨(w0, (fun _ => none), (fun _ => none), (fun _ => none), {}, {}, [], default, 0, (fun _ => none), [], {}, 0, 0, none, (fun _ => (fun _ => True)), (fun _ => (fun _ => True)), 0, 0, 0, 0, 0, 0, default, default, default, default, default, default, [], 0, 0, [], 0, 0, 0, 0, (fun _ => []), {}, 0, {}, 0)⟩ fun v => ¬ take_spec_a_pre.1 v.1 v.2.1 v.2.2.1 v.2.2.2.1 v.2.2.2.2.1 v.2.2.2.2.2.1 v.2.2.2.2.2.2.1 v.2.2.2.2.2.2.2.1 v.2.2.2.2.2.2.2.2.1 v.2.2.2.2.2.2.2.2.2.1 v.2.2.2.2.2.2.2.2.2.2.1 v.2.2.2.2.2.2.2.2.2.2.2.1 v.2.2.2.2.2.2.2.2.2.2.2.2.1 v.2.2.2.2.2.2.2.2.2.2.2.2.2.1 v.2.2.2.2.2.2.2.2.2.2.2.2.2.2.1 v.2.2.2.2.2.2.2.2.2.2.2.2.2.2.2.1 v.2.2.2.2.2.2.2.2.2.2.2.2.2.2.2.2.1 v.2.2.2.2.2.2.2.2.2.2.2.2.2.2.2.2.2.1 v.2.2.2.2.2.2.2.2.2.2.2.2.2.2.2.2.2.2.1 v.2.2.2.2.2.2.2.2.2.2.2.2.2.2.2.2.2.2.2.1 v.2.2.2.2.2.2.2.2.2.2.2.2.2.2.2.2.2.2.2.2.1 v.2.2.2.2.2.2.2.2.2.2.2.2.2.2.2.2.2.2.2.2.2.1 v.2.2.2.2.2.2.2.2.2.2.2.2.2.2.2.2.2.2.2.2.2.2.1 v.2.2.2.2.2.2.2.2.2.2.2.2.2.2.2.2.2.2.2.2.2.2.2.1 v.2.2.2.2.2.2.2.2.2.2.2.2.2.2.2.2.2.2.2.2.2.2.2.2.1 v.2.2.2.2.2.2.2.2.2.2.2.2.2.2.2.2.2.2.2.2.2.2.2.2.2.1 v.2.2.2.2.2.2.2.2.2.2.2.2.2.2.2.2.2.2.2.2.2.2.2.2.2.2.1 v.2.2.2.2.2.2.2.2.2.2.2.2.2.2.2.2.2.2.2.2.2.2.2.2.2.2.2.1 v.2.2.2.2.2.2.2.2.2.2.2.2.2.2.2.2.2.2.2.2.2.2.2.2.2.2.2.2.1 v.2.2.2.2.2.2.2.2.2.2.2.2.2.2.2.2.2.2.2.2.2.2.2.2.2.2.2.2.2.1 v.2.2.2.2.2.2.2.2.2.2.2.2.2.2.2.2.2.2.2.2.2.2.2.2.2.2.2.2.2.2.1 v.2.2.2.2.2.2.2.2.2.2.2.2.2.2.2.2.2.2.2.2.2.2.2.2.2.2.2.2.2.2.2.1 v.2.2.2.2.2.2.2.2.2.2.2.2.2.2.2.2.2.2.2.2.2.2.2.2.2.2.2.2.2.2.2.2.1 v.2.2.2.2.2.2.2.2.2.2.2.2.2.2.2.2.2.2.2.2.2.2.2.2.2.2.2.2.2.2.2.2.2.1 v.2.2.2.2.2.2.2.2.2.2.2.2.2.2.2.2.2.2.2.2.2.2.2.2.2.2.2.2.2.2.2.2.2.2.1 v.2.2.2.2.2.2.2.2.2.2.2.2.2.2.2.2.2.2.2.2.2.2.2.2.2.2.2.2.2.2.2.2.2.2.2.1 v.2.2.2.2.2.2.2.2.2.2.2.2.2.2.2.2.2.2.2.2.2.2.2.2.2.2.2.2.2.2.2.2.2.2.2.2.1 v.2.2.2.2.2.2.2.2.2.2.2.2.2.2.2.2.2.2.2.2.2.2.2.2.2.2.2.2.2.2.2.2.2.2.2.2.2.1 v.2.2.2.2.2.2.2.2.2.2.2.2.2.2.2.2.2.2.2.2.2.2.2.2.2.2.2.2.2.2.2.2.2.2.2.2.2.2.1 v.2.2.2.2.2.2.2.2.2.2.2.2.2.2.2.2.2.2.2.2.2.2.2.2.2.2.2.2.2.2.2.2.2.2.2.2.2.2.2.1 v.2.2.2.2.2.2.2.2.2.2.2.2.2.2.2.2.2.2.2.2.2.2.2.2.2.2.2.2.2.2.2.2.2.2.2.2.2.2.2.2.1 v.2.2.2.2.2.2.2.2.2.2.2.2.2.2.2.2.2.2.2.2.2.2.2.2.2.2.2.2.2.2.2.2.2.2.2.2.2.2.2.2.2
namespace take_spec_a
noncomputable def w : World := take_spec_a_v.1
noncomputable def mean : ExcName → Option Value := take_spec_a_v.2.1
noncomputable def mg : Str → Option Value := take_spec_a_v.2.2.1
noncomputable def mb : Str → Option Value := take_spec_a_v.2.2.2.1
noncomputable def base : Heap := take_spec_a_v.2.2.2.2.1
noncomputable def h₀ : Heap := take_spec_a_v.2.2.2.2.2.1
noncomputable def outer : List Env := take_spec_a_v.2.2.2.2.2.2.1
noncomputable def env : Env := take_spec_a_v.2.2.2.2.2.2.2.1
noncomputable def L : Addr := take_spec_a_v.2.2.2.2.2.2.2.2.1
noncomputable def m : Str → Option Value := take_spec_a_v.2.2.2.2.2.2.2.2.2.1
noncomputable def news : List (Addr × Obj) := take_spec_a_v.2.2.2.2.2.2.2.2.2.2.1
noncomputable def s : Shared := take_spec_a_v.2.2.2.2.2.2.2.2.2.2.2.1
noncomputable def dp : Nat := take_spec_a_v.2.2.2.2.2.2.2.2.2.2.2.2.1
noncomputable def un : Nat := take_spec_a_v.2.2.2.2.2.2.2.2.2.2.2.2.2.1
noncomputable def gd : Option (List Code) := take_spec_a_v.2.2.2.2.2.2.2.2.2.2.2.2.2.2.1
noncomputable def Q : Value → Shared → Prop := take_spec_a_v.2.2.2.2.2.2.2.2.2.2.2.2.2.2.2.1
noncomputable def E : Value → Shared → Prop := take_spec_a_v.2.2.2.2.2.2.2.2.2.2.2.2.2.2.2.2.1
noncomputable def f : Addr := take_spec_a_v.2.2.2.2.2.2.2.2.2.2.2.2.2.2.2.2.2.1
noncomputable def c1 : Addr := take_spec_a_v.2.2.2.2.2.2.2.2.2.2.2.2.2.2.2.2.2.2.1
noncomputable def c2 : Addr := take_spec_a_v.2.2.2.2.2.2.2.2.2.2.2.2.2.2.2.2.2.2.2.1
noncomputable def lp : Addr := take_spec_a_v.2.2.2.2.2.2.2.2.2.2.2.2.2.2.2.2.2.2.2.2.1
noncomputable def lc : Addr := take_spec_a_v.2.2.2.2.2.2.2.2.2.2.2.2.2.2.2.2.2.2.2.2.2.1
noncomputable def c' : Addr := take_spec_a_v.2.2.2.2.2.2.2.2.2.2.2.2.2.2.2.2.2.2.2.2.2.2.1
noncomputable def qual : Str := take_spec_a_v.2.2.2.2.2.2.2.2.2.2.2.2.2.2.2.2.2.2.2.2.2.2.2.1
noncomputable def dc : Value := take_spec_a_v.2.2.2.2.2.2.2.2.2.2.2.2.2.2.2.2.2.2.2.2.2.2.2.2.1
noncomputable def md : Value := take_spec_a_v.2.2.2.2.2.2.2.2.2.2.2.2.2.2.2.2.2.2.2.2.2.2.2.2.2.1
noncomputable def ct : Value := take_spec_a_v.2.2.2.2.2.2.2.2.2.2.2.2.2.2.2.2.2.2.2.2.2.2.2.2.2.2.1
noncomputable def o1 : Obj := take_spec_a_v.2.2.2.2.2.2.2.2.2.2.2.2.2.2.2.2.2.2.2.2.2.2.2.2.2.2.2.1
noncomputable def o2 : Obj := take_spec_a_v.2.2.2.2.2.2.2.2.2.2.2.2.2.2.2.2.2.2.2.2.2.2.2.2.2.2.2.2.1
noncomputable def cs : List Value := take_spec_a_v.2.2.2.2.2.2.2.2.2.2.2.2.2.2.2.2.2.2.2.2.2.2.2.2.2.2.2.2.2.1
noncomputable def c : Nat := take_spec_a_v.2.2.2.2.2.2.2.2.2.2.2.2.2.2.2.2.2.2.2.2.2.2.2.2.2.2.2.2.2.2.1
noncomputable def cp : Nat := take_spec_a_v.2.2.2.2.2.2.2.2.2.2.2.2.2.2.2.2.2.2.2.2.2.2.2.2.2.2.2.2.2.2.2.1
noncomputable def zs : List Int := take_spec_a_v.2.2.2.2.2.2.2.2.2.2.2.2.2.2.2.2.2.2.2.2.2.2.2.2.2.2.2.2.2.2.2.2.1
noncomputable def k : Int := take_spec_a_v.2.2.2.2.2.2.2.2.2.2.2.2.2.2.2.2.2.2.2.2.2.2.2.2.2.2.2.2.2.2.2.2.2.1
noncomputable def lim : Int := take_spec_a_v.2.2.2.2.2.2.2.2.2.2.2.2.2.2.2.2.2.2.2.2.2.2.2.2.2.2.2.2.2.2.2.2.2.2.1
noncomputable def tk : Tok := take_spec_a_v.2.2.2.2.2.2.2.2.2.2.2.2.2.2.2.2.2.2.2.2.2.2.2.2.2.2.2.2.2.2.2.2.2.2.2.1
noncomputable def tl : Tok := take_spec_a_v.2.2.2.2.2.2.2.2.2.2.2.2.2.2.2.2.2.2.2.2.2.2.2.2.2.2.2.2.2.2.2.2.2.2.2.2.1
noncomputable def u : Obj → List (Addr × Obj) := take_spec_a_v.2.2.2.2.2.2.2.2.2.2.2.2.2.2.2.2.2.2.2.2.2.2.2.2.2.2.2.2.2.2.2.2.2.2.2.2.2.1
noncomputable def g : Heap := take_spec_a_v.2.2.2.2.2.2.2.2.2.2.2.2.2.2.2.2.2.2.2.2.2.2.2.2.2.2.2.2.2.2.2.2.2.2.2.2.2.2.1
noncomputable def L' : Addr := take_spec_a_v.2.2.2.2.2.2.2.2.2.2.2.2.2.2.2.2.2.2.2.2.2.2.2.2.2.2.2.2.2.2.2.2.2.2.2.2.2.2.2.1
noncomputable def h1 : Heap := take_spec_a_v.2.2.2.2.2.2.2.2.2.2.2.2.2.2.2.2.2.2.2.2.2.2.2.2.2.2.2.2.2.2.2.2.2.2.2.2.2.2.2.2.1
noncomputable def tk1 : Nat := take_spec_a_v.2.2.2.2.2.2.2.2.2.2.2.2.2.2.2.2.2.2.2.2.2.2.2.2.2.2.2.2.2.2.2.2.2.2.2.2.2.2.2.2.2
set_option maxHeartbeats 8000000 in
theorem walk : take_spec_a_pre.1 w mean mg mb base h₀ outer env L m news s dp un gd Q E f c1 c2 lp lc c' qual dc md ct o1 o2 cs c cp zs k lim tk tl u g L' h1 tk1 := by
  delta take_spec_a_pre
  dsimp only
  intro hdp hcr za0 d1 h2 d2 hlc hi hn hn2 hlp U hll hk hk2 hlim hlim2 ret st' B fr kp ns hN n1 n2 n3 n4 n5 hcl X C T ho hf F1 N1 l1
  have mk7 : Flagged 7 := ⟨⟩
  k_steps
  have fin : ∀ r t h' tk' L' m' led t' cp', 0 ≤ r → r < lim → Fr g L' h' m' → News g L' h' led → (lp, listOf #[.int (k + 1) t'] cp') ∈ led → (lc, listOf cs.toArray c) ∈ led → (c1, o1) ∈ led → (c2, o2) ∈ led → Q (.int r t) { s with heap := h', toks := tk' } := by
    intro r t h' tk' L' m' led t' cp' r0 r1 F' N' m1 m2 m3 m4
    have af : Aft g h' [(lp, listOf #[.int (k + 1) t'] cp'), (lc, listOf cs.toArray c), (c1, o1), (c2, o2)] := (aft_of F' N').sub (by simp [m1, m2, m3, m4])
    have nn := ns _ _ af
    exact ret r t h' tk' t' cp' r0 r1 (fr _ F'.keep) (news_turn C hN U af nn (fun p hp hq => kp _ p F'.keep hp hq) (by simp) (by simp))
  (repeat (rename Flagged _ => mk0; clear mk0))
  exact fin _ _ _ _ _ _ _ _ _ (Int.fmod_nonneg_of_pos _ hlim) (Int.fmod_lt_of_pos _ hlim) (by assumption) (by assumption) (by k_mem) (by k_mem) (by k_mem) (by k_mem)
end take_spec_a
theorem take_spec_a_all : ∀ (w' : World) (mean' : ExcName → Option Value) (mg' : Str → Option Value) (mb' : Str → Option Value) (base' : Heap) (h₀' : Heap) (outer' : List Env) (env' : Env) (L' : Addr) (m' : Str → Option Value) (news' : List (Addr × Obj)) (s' : Shared) (dp' : Nat) (un' : Nat) (gd' : Option (List Code)) (Q' : Value → Shared → Prop) (E' : Value → Shared → Prop) (f' : Addr) (c1' : Addr) (c2' : Addr) (lp' : Addr) (lc' : Addr) (c'' : Addr) (qual' : Str) (dc' : Value) (md' : Value) (ct' : Value) (o1' : Obj) (o2' : Obj) (cs' : List Value) (c' : Nat) (cp' : Nat) (zs' : List Int) (k' : Int) (lim' : Int) (tk' : Tok) (tl' : Tok) (u' : Obj → List (Addr × Obj)) (g' : Heap) (L'' : Addr) (h1' : Heap) (tk1' : Nat), take_spec_a_pre.1 w' mean' mg' mb' base' h₀' outer' env' L' m' news' s' dp' un' gd' Q' E' f' c1' c2' lp' lc' c'' qual' dc' md' ct' o1' o2' cs' c' cp' zs' k' lim' tk' tl' u' g' L'' h1' tk1' := by
  intro w' mean' mg' mb' base' h₀' outer' env' L' m' news' s' dp' un' gd' Q' E' f' c1' c2' lp' lc' c'' qual' dc' md' ct' o1' o2' cs' c' cp' zs' k' lim' tk' tl' u' g' L'' h1' tk1'
  have hw := take_spec_a.walk
  with_unfolding_all exact hk (α := (World) × (ExcName → Option Value) × (Str → Option Value) × (Str → Option Value) × (Heap) × (Heap) × (List Env) × (Env) × (Addr) × (Str → Option Value) × (List (Addr × Obj)) × (Shared) × (Nat) × (Nat) × (Option (List Code)) × (Value → Shared → Prop) × (Value → Shared → Prop) × (Addr) × (Addr) × (Addr) × (Addr) × (Addr) × (Addr) × (Str) × (Value) × (Value) × (Value) × (Obj) × (Obj) × (List Value) × (Nat) × (Nat) × (List Int) × (Int) × (Int) × (Tok) × (Tok) × (Obj → List (Addr × Obj)) × (Heap) × (Addr) × (Heap) × (Nat)) (p := fun v => take_spec_a_pre.1 v.1 v.2.1 v.2.2.1 v.2.2.2.1 v.2.2.2.2.1 v.2.2.2.2.2.1 v.2.2.2.2.2.2.1 v.2.2.2.2.2.2.2.1 v.2.2.2.2.2.2.2.2.1 v.2.2.2.2.2.2.2.2.2.1 v.2.2.2.2.2.2.2.2.2.2.1 v.2.2.2.2.2.2.2.2.2.2.2.1 v.2.2.2.2.2.2.2.2.2.2.2.2.1 v.2.2.2.2.2.2.2.2.2.2.2.2.2.1 v.2.2.2.2.2.2.2.2.2.2.2.2.2.2.1 v.2.2.2.2.2.2.2.2.2.2.2.2.2.2.2.1 v.2.2.2.2.2.2.2.2.2.2.2.2.2.2.2.2.1 v.2.2.2.2.2.2.2.2.2.2.2.2.2.2.2.2.2.1 v.2.2.2.2.2.2.2.2.2.2.2.2.2.2.2.2.2.2.1 v.2.2.2.2.2.2.2.2.2.2.2.2.2.2.2.2.2.2.2.1 v.2.2.2.2.2.2.2.2.2.2.2.2.2.2.2.2.2.2.2.2.1 v.2.2.2.2.2.2.2.2.2.2.2.2.2.2.2.2.2.2.2.2.2.1 v.2.2.2.2.2.2.2.2.2.2.2.2.2.2.2.2.2.2.2.2.2.2.1 v.2.2.2.2.2.2.2.2.2.2.2.2.2.2.2.2.2.2.2.2.2.2.2.1 v.2.2.2.2.2.2.2.2.2.2.2.2.2.2.2.2.2.2.2.2.2.2.2.2.1 v.2.2.2.2.2.2.2.2.2.2.2.2.2.2.2.2.2.2.2.2.2.2.2.2.2.1 v.2.2.2.2.2.2.2.2.2.2.2.2.2.2.2.2.2.2.2.2.2.2.2.2.2.2.1 v.2.2.2.2.2.2.2.2.2.2.2.2.2.2.2.2.2.2.2.2.2.2.2.2.2.2.2.1 v.2.2.2.2.2.2.2.2.2.2.2.2.2.2.2.2.2.2.2.2.2.2.2.2.2.2.2.2.1 v.2.2.2.2.2.2.2.2.2.2.2.2.2.2.2.2.2.2.2.2.2.2.2.2.2.2.2.2.2.1 v.2.2.2.2.2.2.2.2.2.2.2.2.2.2.2.2.2.2.2.2.2.2.2.2.2.2.2.2.2.2.1 v.2.2.2.2.2.2.2.2.2.2.2.2.2.2.2.2.2.2.2.2.2.2.2.2.2.2.2.2.2.2.2.1 v.2.2.2.2.2.2.2.2.2.2.2.2.2.2.2.2.2.2.2.2.2.2.2.2.2.2.2.2.2.2.2.2.1 v.2.2.2.2.2.2.2.2.2.2.2.2.2.2.2.2.2.2.2.2.2.2.2.2.2.2.2.2.2.2.2.2.2.1 v.2.2.2.2.2.2.2.2.2.2.2.2.2.2.2.2.2.2.2.2.2.2.2.2.2.2.2.2.2.2.2.2.2.2.1 v.2.2.2.2.2.2.2.2.2.2.2.2.2.2.2.2.2.2.2.2.2.2.2.2.2.2.2.2.2.2.2.2.2.2.2.1 v.2.2.2.2.2.2.2.2.2.2.2.2.2.2.2.2.2.2.2.2.2.2.2.2.2.2.2.2.2.2.2.2.2.2.2.2.1 v.2.2.2.2.2.2.2.2.2.2.2.2.2.2.2.2.2.2.2.2.2.2.2.2.2.2.2.2.2.2.2.2.2.2.2.2.2.1 v.2.2.2.2.2.2.2.2.2.2.2.2.2.2.2.2.2.2.2.2.2.2.2.2.2.2.2.2.2.2.2.2.2.2.2.2.2.2.1 v.2.2.2.2.2.2.2.2.2.2.2.2.2.2.2.2.2.2.2.2.2.2.2.2.2.2.2.2.2.2.2.2.2.2.2.2.2.2.2.1 v.2.2.2.2.2.2.2.2.2.2.2.2.2.2.2.2.2.2.2.2.2.2.2.2.2.2.2.2.2.2.2.2.2.2.2.2.2.2.2.2.1 v.2.2.2.2.2.2.2.2.2.2.2.2.2.2.2.2.2.2.2.2.2.2.2.2.2.2.2.2.2.2.2.2.2.2.2.2.2.2.2.2.2) hw (w', mean', mg', mb', base', h₀', outer', env', L', m', news', s', dp', un', gd', Q', E', f', c1', c2', lp', lc', c'', qual', dc', md', ct', o1', o2', cs', c', cp', zs', k', lim', tk', tl', u', g', L'', h1', tk1')
theorem take_spec {w : World} {mean : ExcName → Option Value} {mg mb : Str → Option Value} {A₀ : Around} {base h₀ : Heap} {outer : List Env} {env : Env} {L : Addr} {m : Str → Option Value} {news : List (Addr × Obj)} {s : Shared} {dp un : Nat} {gd : Option (List Code)} {Q E : Value → Shared → Prop} (H : Here w mean mg mb A₀ base h₀ outer env L m news s.heap) (hdp : dp + 20 < recursionLimit) {f c1 c2 lp lc c' : Addr} {name qual : Str} {params : Arguments} {body : List Stmt} {scope : Scope} {dc md ct : Value} {o275 o1 o2 : Obj}
    (ho : (hd.heap_39 w.params).lookup 275 = some o275) (hT : TakeDef o275 name params body scope)
    (hf : s.heap.get? f = some (fnMade name qual params body scope [(Str.ofString "place", c2), (Str.ofString "cells", c1)] dc md c' ct)) (hcr : s.heap.CodeRec (.ref c') qual)
    (h1 : (c1, o1) ∈ news) (d1 : o1.data = .cell (some (.ref lc))) (h2 : (c2, o2) ∈ news) (d2 : o2.data = .cell (some (.ref lp))) {cs : List Value} {c cp : Nat} {zs : List Int} (hlc : (lc, listOf cs.toArray c) ∈ news) (hi : IntsAre cs zs) (hn : 0 < zs.length) (hn2 : zs.length ≤ 63)
    {k lim : Int} {tk tl : Tok} {u : Obj → List (Addr × Obj)} (hlp : (lp, listOf #[.int k tk] cp) ∈ news) (U : UpdF lp (listOf #[.int k tk] cp) news u) (hll : @Ne Nat lp lc) (hk : 0 ≤ k) (hk2 : k < 400) (hlim : 0 < lim) (hlim2 : lim ≤ 1000)
    (ret : ∀ r t h' tk' t' cp', 0 ≤ r → r < lim → Fr h₀ L h' m → News h₀ L h' (u (listOf #[.int (k + 1) t'] cp')) → Q (.int r t) { s with heap := h', toks := tk' }) :
    wpAny (model PySem.Challenge.rw_og0083_01.row.prog w) (aro dp un gd (env :: outer)) (call (.ref f) [.int lim tl]) Q E s := by
  exact take_spec_a_pre.2 take_spec_a_all w mean mg mb A₀ base h₀ outer env L m news s dp un gd Q E H hdp f c1 c2 lp lc c' name qual params body scope dc md ct o275 o1 o2 ho hT hf hcr h1 d1 h2 d2 cs c cp zs hlc hi hn hn2 k lim tk tl u hlp U hll hk hk2 hlim hlim2 ret
end
noncomputable def HistAt (h : Heap) (v : Value) (e : HE) : Prop := ∃ a t u n, v = .ref a ∧ IsTup h a #[.str e.w t, .str e.s u, .int e.n n]
theorem HistAt.keeps {h h' : Heap} (k : ∀ b o, h.get? b = some o → h'.get? b = some o) {v : Value} {e : HE} (x : HistAt h v e) : HistAt h' v e := by
  obtain ⟨a, t, u, n, e, o, ho, r⟩ := x
  exact ⟨a, t, u, n, e, o, k _ _ ho, r⟩
theorem prev {α β : Type} {F : α → β → Prop} : ∀ {l₁ : List α} {l₂ : List β}, Paired F l₁ l₂ → Paired F l₁.reverse l₂.reverse
  | _, _, .nil => .nil
  | _, _, .cons a t => by rw [List.reverse_cons, List.reverse_cons]; exact psnoc (prev t) a
theorem words26 : True := by
  k_with "LpPost" => ((dsimp only [LpPost]))
  k_with "S list" => (first | exact News.isList (by k_asm) (by k_mem) | assumption | exact Heap.IsList.at (by assumption) (fun _ e => Fr.keep (by assumption) _ _ e))
  k_with "subscriptTail Name Slice ref ref" => ((k_here; (with_reducible show wpAny _ _ (subscriptTail _ (PySem.Expr.Slice none none (some _) _) (Value.ref _) (Value.ref _)) _ _ _); k_dflt (refine' krv_lit (by k_asm) (by k_asm) (by walk_at "S list") (by exact IsPart.int _ _) (by rfl) ?_ (by with_unfolding_all rfl) (by kmk_pure) (by (rw [sizeLine_eq]; simp only [List.size_toArray]; omega))); intro D' h' F' N' l1; (try k_lt l1); (revert D' h' F' N' l1; intro _ _ _ _ _); (try k_sweep)))
  trivial
section
variable {ew es : Str} {en : Int} {r : List HE}
theorem any_rs : ([Str.ofString "read", Str.ofString "start"].any fun x => x == ew) = decide (ew = sRead ∨ ew = sStart) := by
  rw [Bool.eq_iff_iff]
  simp only [List.any_cons, List.any_nil, Bool.or_false, Bool.or_eq_true, beq_iff_eq, decide_eq_true_eq]
  constructor <;> (rintro (h | h) <;> simp [h])
theorem low_1 (h1 : ([Str.ofString "read", Str.ofString "start"].any fun x => x == ew) = true) (h2 : (es != Str.ofString "00") = true) : lowR (⟨ew, es, en⟩ :: r) = none := by
  rw [any_rs] at h1
  unfold lowR
  rw [if_pos (of_decide_eq_true h1), if_pos (by simpa using h2)]
theorem low_2 (h1 : ([Str.ofString "read", Str.ofString "start"].any fun x => x == ew) = true) (h2 : (es != Str.ofString "00") = false) (h3 : (ew == Str.ofString "read") = true) : lowR (⟨ew, es, en⟩ :: r) = some (en + 1) := by
  rw [any_rs] at h1
  unfold lowR
  rw [if_pos (of_decide_eq_true h1), if_neg (by simpa using h2), if_pos (by simpa using h3)]
theorem low_3 (h1 : ([Str.ofString "read", Str.ofString "start"].any fun x => x == ew) = true) (h2 : (es != Str.ofString "00") = false) (h3 : (ew == Str.ofString "read") = false) : lowR (⟨ew, es, en⟩ :: r) = some en := by
  rw [any_rs] at h1
  unfold lowR
  rw [if_pos (of_decide_eq_true h1), if_neg (by simpa using h2), if_neg (by simpa using h3)]
theorem low_4 (h1 : ([Str.ofString "read", Str.ofString "start"].any fun x => x == ew) = false) : lowR (⟨ew, es, en⟩ :: r) = lowR r := by
  rw [any_rs] at h1
  conv => lhs; unfold lowR
  rw [if_neg (of_decide_eq_false h1)]
end
section
noncomputable def optV (o : Option Int) (t : Tok) : Value := match o with | none => .none | some n => .int n t
set_option maxHeartbeats 8000000 in
noncomputable def low_spec_a_pre : (Pa : (World) → (ExcName → Option Value) → (Str → Option Value) → (Str → Option Value) → (Heap) → (Heap) → (List Env) → (Env) → (Addr) → (Str → Option Value) → (List (Addr × Obj)) → (Shared) → (Nat) → (Nat) → (Option (List Code)) → (Value → Shared → Prop) → (Value → Shared → Prop) → (Addr) → (List Value) → (List HE) → (Heap) → (Addr) → (Heap) → (Nat) → Prop) ×' ((∀ w mean mg mb base h₀ outer env L m news s dp un gd Q E lh vs hist g za0 za1 za2, Pa w mean mg mb base h₀ outer env L m news s dp un gd Q E lh vs hist g za0 za1 za2) → (∀ (w : World) (mean : ExcName → Option Value) (mg mb : Str → Option Value) (A₀ : Around) (base h₀ : Heap) (outer : List Env) (env : Env) (L : Addr) (m : Str → Option Value) (news : List (Addr × Obj)) (s : Shared) (dp un : Nat) (gd : Option (List Code)) (Q E : Value → Shared → Prop) (H : Here w mean mg mb A₀ base h₀ outer env L m news s.heap) (hdp : dp + 20 < recursionLimit) (hu : un + 400 < cLine) (lh : Addr) (vs : List Value) (hist : List HE) (hl : s.heap.IsList lh vs.toArray) (hp : Paired (HistAt s.heap) vs hist) (hsz : hist.length ≤ 64) (ret : ∀ t h' tk', Fr h₀ L h' m → News h₀ L h' news → Q (optV (lowR hist.reverse) t) { s with heap := h', toks := tk' }), wpAny (model PySem.Challenge.rw_og0083_01.row.prog w) (aro dp un gd (env :: outer)) (call (.ref 289) [.ref lh]) Q E s)) := by
  refine' ⟨_, fun hPa => ?_⟩
  rotate_left 1
  · skip
    intro w mean mg mb A₀ base h₀ outer env L m news s dp un gd Q E H hdp hu lh vs hist hl hp hsz ret
    refine H.cutK (dp := dp) (un := un) (gd := gd) (muts := []) (by simp) (fun g C st' B X T fr kp ns hN => ?_)
    have up : ∀ b o, s.heap.get? b = some o → g.get? b = some o := fun b o e => C.rest b o e (by simp)
    replace hl := hl.at fun o e => up _ o e
    replace hp := pimp (fun _ _ x => HistAt.keeps up x) hp
    have hvl := hp.length
    clear H up
    (revert C T; revert X; k_fill; intro X C T)
    refine wpAny_call ?_
    walk_at "S enter"
    k_sweep
    rename_i za0 za1 za2 za3 za4 za5
    revert za5; revert za4; revert za3; revert T; revert C; revert X; revert hvl; revert hp; revert hl; revert hN; revert ns; revert kp; revert fr; revert B; revert st'; revert ret; revert hsz; revert hu; revert hdp
    exact hPa w mean mg mb base h₀ outer env L m news s dp un gd Q E lh vs hist g za0 za1 za2
noncomputable def low_spec_a_v : (World) × (ExcName → Option Value) × (Str → Option Value) × (Str → Option Value) × (Heap) × (Heap) × (List Env) × (Env) × (Addr) × (Str → Option Value) × (List (Addr × Obj)) × (Shared) × (Nat) × (Nat) × (Option (List Code)) × (Value → Shared → Prop) × (Value → Shared → Prop) × (Addr) × (List Value) × (List HE) × (Heap) × (Addr) × (Heap) × (Nat) := @Classical.epsilon _ ⟨(w0, (fun _ => none), (fun _ => none), (fun _ => none), {}, {}, [], default, 0, (fun _ => none), [], {}, 0, 0, none, (fun _ => (fun _ => True)), (fun _ => (fun _ => True)), 0, [], [], {}, 0, {}, 0)⟩ fun v => ¬ low_spec_a_pre.1 v.1 v.2.1 v.2.2.1 v.2.2.2.1 v.2.2.2.2.1 v.2.2.2.2.2.1 v.2.2.2.2.2.2.1 v.2.2.2.2.2.2.2.1 v.2.2.2.2.2.2.2.2.1 v.2.2.2.2.2.2.2.2.2.1 v.2.2.2.2.2.2.2.2.2.2.1 v.2.2.2.2.2.2.2.2.2.2.2.1 v.2.2.2.2.2.2.2.2.2.2.2.2.1 v.2.2.2.2.2.2.2.2.2.2.2.2.2.1 v.2.2.2.2.2.2.2.2.2.2.2.2.2.2.1 v.2.2.2.2.2.2.2.2.2.2.2.2.2.2.2.1 v.2.2.2.2.2.2.2.2.2.2.2.2.2.2.2.2.1 v.2.2.2.2.2.2.2.2.2.2.2.2.2.2.2.2.2.1 v.2.2.2.2.2.2.2.2.2.2.2.2.2.2.2.2.2.2.1 v.2.2.2.2.2.2.2.2.2.2.2.2.2.2.2.2.2.2.2.1 v.2.2.2.2.2.2.2.2.2.2.2.2.2.2.2.2.2.2.2.2.1 v.2.2.2.2.2.2.2.2.2.2.2.2.2.2.2.2.2.2.2.2.2.1 v.2.2.2.2.2.2.2.2.2.2.2.2.2.2.2.2.2.2.2.2.2.2.1 v.2.2.2.2.2.2.2.2.2.2.2.2.2.2.2.2.2.2.2.2.2.2.2
namespace low_spec_a
noncomputable def w : World := low_spec_a_v.1
noncomputable def mean : ExcName → Option Value := low_spec_a_v.2.1
noncomputable def mg : Str → Option Value := low_spec_a_v.2.2.1
noncomputable def mb : Str → Option Value := low_spec_a_v.2.2.2.1
noncomputable def base : Heap := low_spec_a_v.2.2.2.2.1
noncomputable def h₀ : Heap := low_spec_a_v.2.2.2.2.2.1
noncomputable def outer : List Env := low_spec_a_v.2.2.2.2.2.2.1
noncomputable def env : Env := low_spec_a_v.2.2.2.2.2.2.2.1
noncomputable def L : Addr := low_spec_a_v.2.2.2.2.2.2.2.2.1
noncomputable def m : Str → Option Value := low_spec_a_v.2.2.2.2.2.2.2.2.2.1
noncomputable def news : List (Addr × Obj) := low_spec_a_v.2.2.2.2.2.2.2.2.2.2.1
noncomputable def s : Shared := low_spec_a_v.2.2.2.2.2.2.2.2.2.2.2.1
noncomputable def dp : Nat := low_spec_a_v.2.2.2.2.2.2.2.2.2.2.2.2.1
noncomputable def un : Nat := low_spec_a_v.2.2.2.2.2.2.2.2.2.2.2.2.2.1
noncomputable def gd : Option (List Code) := low_spec_a_v.2.2.2.2.2.2.2.2.2.2.2.2.2.2.1
noncomputable def Q : Value → Shared → Prop := low_spec_a_v.2.2.2.2.2.2.2.2.2.2.2.2.2.2.2.1
noncomputable def E : Value → Shared → Prop := low_spec_a_v.2.2.2.2.2.2.2.2.2.2.2.2.2.2.2.2.1
noncomputable def lh : Addr := low_spec_a_v.2.2.2.2.2.2.2.2.2.2.2.2.2.2.2.2.2.1
noncomputable def vs : List Value := low_spec_a_v.2.2.2.2.2.2.2.2.2.2.2.2.2.2.2.2.2.2.1
noncomputable def hist : List HE := low_spec_a_v.2.2.2.2.2.2.2.2.2.2.2.2.2.2.2.2.2.2.2.1
noncomputable def g : Heap := low_spec_a_v.2.2.2.2.2.2.2.2.2.2.2.2.2.2.2.2.2.2.2.2.1
noncomputable def za0 : Addr := low_spec_a_v.2.2.2.2.2.2.2.2.2.2.2.2.2.2.2.2.2.2.2.2.2.1
noncomputable def za1 : Heap := low_spec_a_v.2.2.2.2.2.2.2.2.2.2.2.2.2.2.2.2.2.2.2.2.2.2.1
noncomputable def za2 : Nat := low_spec_a_v.2.2.2.2.2.2.2.2.2.2.2.2.2.2.2.2.2.2.2.2.2.2.2
set_option maxHeartbeats 8000000 in
theorem walk : low_spec_a_pre.1 w mean mg mb base h₀ outer env L m news s dp un gd Q E lh vs hist g za0 za1 za2 := by
  delta low_spec_a_pre
  dsimp only
  intro hdp hu hsz ret st' B fr kp ns hN hl hp hvl X C T za3 za4 za5
  k_steps
  walk_at "S for"
  repeat' (first | (k_unfold; (try dsimp only)) | (k_end; kc_close) | walk1 | (dsimp only; walk1) | fail "no step")
  rename_i D h1 F1 N1 l1
  have fin : ∀ o t h' tk' L' m', Fr g L' h' m' → lowR hist.reverse = o → Q (optV o t) { s with heap := h', toks := tk' } := by
    intro o t h' tk' L' m' F' e
    subst e
    exact ret t h' tk' (fr _ F'.keep) (fun p hp => kp _ p F'.keep hp (by simp))
  refine iter_list (items := vs.reverse.toArray) (news := []) rfl F1 (fun _ hp => nomatch hp) (N1.isList (.head _)) (N1 _ (.head _)).2.1 (fun _ hp => nomatch hp) (fun i _ nx => nx = [] ∧ lowR hist.reverse = lowR (hist.reverse.drop i)) ⟨rfl, rfl⟩ ?_ ?_
  · rintro i v m₁ _ h tk own hi ⟨rfl, hJ⟩ sep F N
    have hpr := prev hp
    have hiv : i < vs.reverse.length := by
      rw [List.getElem?_toArray] at hi
      exact (List.getElem?_eq_some_iff.mp hi).1
    have hih : i < hist.reverse.length := by rw [← hpr.length]; exact hiv
    have hvi : vs.reverse[i] = v := by
      rw [List.getElem?_toArray] at hi
      exact (List.getElem?_eq_some_iff.mp hi).2
    obtain ⟨a, t, u, n, ev, hta⟩ := pget hpr i hiv hih
    rw [hvi] at ev
    subst ev
    rw [List.drop_eq_getElem_cons hih] at hJ
    generalize hist.reverse[i] = e at hta hJ
    obtain ⟨ew, es, en⟩ := e
    k_steps
    · exact fin none 0 _ _ _ _ (by assumption) (hJ.trans (low_1 (by assumption) (by assumption)))
    · exact fin (some _) _ _ _ _ _ (by assumption) (hJ.trans (low_2 (by assumption) (by assumption) (by assumption)))
    · exact fin (some _) _ _ _ _ _ (by assumption) (hJ.trans (low_3 (by assumption) (by assumption) (by assumption)))
    · refine ⟨_, _, _, [], rfl, ‹Fr _ _ _ _›, fun p hp => ‹News _ _ _ (_ :: _)› p (.tail _ hp), ?_, rfl, hJ.trans (low_4 (by assumption))⟩
      intro p hp
      exact absurd hp (by simp)
  · rintro m₁ _ h tk ⟨rfl, hJ⟩ F N
    have hl2 : vs.reverse.toArray.size = hist.reverse.length := by simpa using hvl
    rw [hl2, List.drop_length] at hJ
    k_steps
    all_goals exact fin (some _) _ _ _ _ _ (by assumption) hJ
end low_spec_a
theorem low_spec_a_all : ∀ (w' : World) (mean' : ExcName → Option Value) (mg' : Str → Option Value) (mb' : Str → Option Value) (base' : Heap) (h₀' : Heap) (outer' : List Env) (env' : Env) (L' : Addr) (m' : Str → Option Value) (news' : List (Addr × Obj)) (s' : Shared) (dp' : Nat) (un' : Nat) (gd' : Option (List Code)) (Q' : Value → Shared → Prop) (E' : Value → Shared → Prop) (lh' : Addr) (vs' : List Value) (hist' : List HE) (g' : Heap) (za0' : Addr) (za1' : Heap) (za2' : Nat), low_spec_a_pre.1 w' mean' mg' mb' base' h₀' outer' env' L' m' news' s' dp' un' gd' Q' E' lh' vs' hist' g' za0' za1' za2' := by
  intro w' mean' mg' mb' base' h₀' outer' env' L' m' news' s' dp' un' gd' Q' E' lh' vs' hist' g' za0' za1' za2'
  have hw := low_spec_a.walk
  with_unfolding_all exact hk (α := (World) × (ExcName → Option Value) × (Str → Option Value) × (Str → Option Value) × (Heap) × (Heap) × (List Env) × (Env) × (Addr) × (Str → Option Value) × (List (Addr × Obj)) × (Shared) × (Nat) × (Nat) × (Option (List Code)) × (Value → Shared → Prop) × (Value → Shared → Prop) × (Addr) × (List Value) × (List HE) × (Heap) × (Addr) × (Heap) × (Nat)) (p := fun v => low_spec_a_pre.1 v.1 v.2.1 v.2.2.1 v.2.2.2.1 v.2.2.2.2.1 v.2.2.2.2.2.1 v.2.2.2.2.2.2.1 v.2.2.2.2.2.2.2.1 v.2.2.2.2.2.2.2.2.1 v.2.2.2.2.2.2.2.2.2.1 v.2.2.2.2.2.2.2.2.2.2.1 v.2.2.2.2.2.2.2.2.2.2.2.1 v.2.2.2.2.2.2.2.2.2.2.2.2.1 v.2.2.2.2.2.2.2.2.2.2.2.2.2.1 v.2.2.2.2.2.2.2.2.2.2.2.2.2.2.1 v.2.2.2.2.2.2.2.2.2.2.2.2.2.2.2.1 v.2.2.2.2.2.2.2.2.2.2.2.2.2.2.2.2.1 v.2.2.2.2.2.2.2.2.2.2.2.2.2.2.2.2.2.1 v.2.2.2.2.2.2.2.2.2.2.2.2.2.2.2.2.2.2.1 v.2.2.2.2.2.2.2.2.2.2.2.2.2.2.2.2.2.2.2.1 v.2.2.2.2.2.2.2.2.2.2.2.2.2.2.2.2.2.2.2.2.1 v.2.2.2.2.2.2.2.2.2.2.2.2.2.2.2.2.2.2.2.2.2.1 v.2.2.2.2.2.2.2.2.2.2.2.2.2.2.2.2.2.2.2.2.2.2.1 v.2.2.2.2.2.2.2.2.2.2.2.2.2.2.2.2.2.2.2.2.2.2.2) hw (w', mean', mg', mb', base', h₀', outer', env', L', m', news', s', dp', un', gd', Q', E', lh', vs', hist', g', za0', za1', za2')
theorem low_spec {w : World} {mean : ExcName → Option Value} {mg mb : Str → Option Value} {A₀ : Around} {base h₀ : Heap} {outer : List Env} {env : Env} {L : Addr} {m : Str → Option Value} {news : List (Addr × Obj)} {s : Shared} {dp un : Nat} {gd : Option (List Code)} {Q E : Value → Shared → Prop} (H : Here w mean mg mb A₀ base h₀ outer env L m news s.heap) (hdp : dp + 20 < recursionLimit) (hu : un + 400 < cLine) {lh : Addr} {vs : List Value} {hist : List HE} (hl : s.heap.IsList lh vs.toArray) (hp : Paired (HistAt s.heap) vs hist) (hsz : hist.length ≤ 64)
    (ret : ∀ t h' tk', Fr h₀ L h' m → News h₀ L h' news → Q (optV (lowR hist.reverse) t) { s with heap := h', toks := tk' }) :
    wpAny (model PySem.Challenge.rw_og0083_01.row.prog w) (aro dp un gd (env :: outer)) (call (.ref 289) [.ref lh]) Q E s := by
  exact low_spec_a_pre.2 low_spec_a_all w mean mg mb A₀ base h₀ outer env L m news s dp un gd Q E H hdp hu lh vs hist hl hp hsz ret
end
section
variable {w : World} {mean : ExcName → Option Value} {mg mb : Str → Option Value} {A₀ : Around} {base h₀ : Heap} {outer : List Env} {env : Env} {L : Addr} {m : Str → Option Value} {news : List (Addr × Obj)} {s : Shared}
  {dp un : Nat} {gd : Option (List Code)} {Q E : Value → Shared → Prop}
theorem low_as (H : Here w mean mg mb A₀ base h₀ outer env L m news s.heap) (hdp : dp + 20 < recursionLimit) (hu : un + 400 < cLine) {lh : Addr} {vs : List Value} {hist : List HE} {o : Option Int} (hl : s.heap.IsList lh vs.toArray) (hp : Paired (HistAt s.heap) vs hist) (hsz : hist.length ≤ 64) (ho : lowR hist.reverse = o)
    (ret : ∀ t h' tk', Fr h₀ L h' m → News h₀ L h' news → Q (optV o t) { s with heap := h', toks := tk' }) :
    wpAny (model PySem.Challenge.rw_og0083_01.row.prog w) (aro dp un gd (env :: outer)) (call (.ref 289) [.ref lh]) Q E s := by
  subst ho; exact low_spec H hdp hu hl hp hsz ret
end
theorem words27 : True := by
  k_with "S hist" => (first | assumption | exact pimp (fun _ _ x => HistAt.keeps (Fr.keep (by assumption)) x) (by assumption))
  k_with "call ref" => ((k_here; (with_reducible show wpAny _ _ (call (Value.ref 289) [Value.ref _] []) _ _ _); (k_dflt (refine' low_as (by walk_at "S here") (by walk_at "S room") (by walk_at "S room") (by walk_at "S list") (by walk_at "S hist") (by omega) (by assumption) ?_; k_whole)); (intro _ _ _ _ _); (try dsimp only [optV]); (try k_sweep)))
  k_with "exec Assign cons ListComp" => ((k_here; lct_look; k_dflt (refine as_T (F₀ := by k_asm) (by rfl) (by with_unfolding_all rfl) (by with_unfolding_all rfl) (by decide) (by rfl) (by decide) (by rfl) (by rfl) (by rfl) ?_)))
  k_with "eval ListComp" => ((k_here; lct_look; k_dflt (refine lc_T (F₀ := by k_asm) (by with_unfolding_all rfl) (by decide) (by rfl) (by decide) (by rfl) ?_)))
  trivial
theorem take_key {r : RowsT} {i : Nat} (hi : i < r.length) : (rkeys r).take (i + 1) = (rkeys r).take i ++ [(rkeys r).getD i 0] := by
  have h : i < (rkeys r).length := by rw [rkeys, List.length_map]; exact hi
  rw [List.take_add_one, List.getElem?_eq_getElem h]
  simp [List.getD, List.getElem?_eq_getElem h]
theorem flt_t {r : RowsT} {i : Nat} {p : Int → Bool} {ys : List Value} {t : Tok} (hi : i < r.length) (h : IntsAre ys (((rkeys r).take i).filter p)) (hp : p ((rkeys r).getD i 0) = true) : IntsAre (ys ++ [.int ((rkeys r).getD i 0) t]) (((rkeys r).take (i + 1)).filter p) := by
  rw [take_key hi, List.filter_append]
  refine h.append ?_
  rw [List.filter_cons_of_pos hp]
  exact .cons _ _ .nil
theorem flt_f {r : RowsT} {i : Nat} {p : Int → Bool} {ys : List Value} (hi : i < r.length) (h : IntsAre ys (((rkeys r).take i).filter p)) (hp : p ((rkeys r).getD i 0) = false) : IntsAre ys (((rkeys r).take (i + 1)).filter p) := by
  rw [take_key hi, List.filter_append, List.filter_cons_of_neg (by rw [hp]; decide)]
  simpa using h
theorem words28 : True := by
  k_with "S pos" => (exact List.length_pos_iff.mpr (of_decide_eq_false (by assumption)))
  k_with "call builtin:min" => ((k_here; (with_reducible show wpAny _ _ (call (Value.builtin _) [Value.ref _]) _ _ _); k_dflt (refine' min_list_N (by rfl) (by k_asm) (by k_asm) (by exact News.isList (by k_asm) (by k_mem)) (by assumption) (by walk_at "S pos") ?_; k_whole); (intro _ _ _ _ _ _ _ _); (try k_sweep)))
  trivial
section
variable {hist : List HE} {r : RowsT} {most low M M2 : Int}
theorem rd_46 (h : lowR hist.reverse = none) : dReading hist r most = (s46, 0) := by unfold dReading; rw [h]
theorem rd_10 (h : lowR hist.reverse = some low) (h1 : decide ((rkeys r).filter (fun k => decide (low ≤ k)) = []) = true) : dReading hist r most = (s10, 0) := by unfold dReading; rw [h]; simp only [of_decide_eq_true h1, if_true]
theorem rd_14 (h : lowR hist.reverse = some low) (h1 : decide ((rkeys r).filter (fun k => decide (low ≤ k)) = []) = false) (h2 : 0 < most) (h3 : M ∈ (rkeys r).filter (fun k => decide (low ≤ k))) (h4 : ∀ a, a ∈ (rkeys r).filter (fun k => decide (low ≤ k)) → M ≤ a) (h5 : most < M) : dReading hist r most = (s14, 0) := by
  have e : leastL (rkeys r) low = M := minL_eq h3 h4
  unfold dReading; rw [h]; simp only [if_neg (of_decide_eq_false h1), e, if_pos (And.intro h2 h5)]
theorem rd_00a (h : lowR hist.reverse = some low) (h1 : decide ((rkeys r).filter (fun k => decide (low ≤ k)) = []) = false) (h3 : M ∈ (rkeys r).filter (fun k => decide (low ≤ k))) (h4 : ∀ a, a ∈ (rkeys r).filter (fun k => decide (low ≤ k)) → M ≤ a) (h5 : ¬ 0 < most) : dReading hist r most = (s00, M) := by
  have e : leastL (rkeys r) low = M := minL_eq h3 h4
  unfold dReading; rw [h]; simp only [if_neg (of_decide_eq_false h1), e, if_neg (fun q : 0 < most ∧ most < M => h5 q.1)]
theorem rd_00b (h : lowR hist.reverse = some low) (h1 : decide ((rkeys r).filter (fun k => decide (low ≤ k)) = []) = false) (h3 : M ∈ (rkeys r).filter (fun k => decide (low ≤ k))) (h4 : ∀ a, a ∈ (rkeys r).filter (fun k => decide (low ≤ k)) → M ≤ a) (h5 : ¬ most < M2) (h6 : M2 ∈ (rkeys r).filter (fun k => decide (low ≤ k))) (h7 : ∀ a, a ∈ (rkeys r).filter (fun k => decide (low ≤ k)) → M2 ≤ a) : dReading hist r most = (s00, M) := by
  have e : leastL (rkeys r) low = M := minL_eq h3 h4
  have e2 : leastL (rkeys r) low = M2 := minL_eq h6 h7
  unfold dReading; rw [h]; simp only [if_neg (of_decide_eq_false h1), e, if_neg (fun q : 0 < most ∧ most < M => h5 (by rw [← e2, e]; exact q.2))]
end
section
set_option maxHeartbeats 8000000 in
noncomputable def reading_spec_a_pre : (Pa : (World) → (ExcName → Option Value) → (Str → Option Value) → (Str → Option Value) → (Heap) → (Heap) → (List Env) → (Env) → (Addr) → (Str → Option Value) → (List (Addr × Obj)) → (Shared) → (Nat) → (Nat) → (Option (List Code)) → (Value → Shared → Prop) → (Value → Shared → Prop) → (Addr) → (Addr) → (List Value) → (List HE) → (RowsT) → (Int) → (Tok) → (Heap) → (Addr) → (Heap) → (Nat) → (Obj) → Prop) ×' ((∀ w mean mg mb base h₀ outer env L m news s dp un gd Q E lh d vs hist r most tm g L8 h8 tk8 o8, Pa w mean mg mb base h₀ outer env L m news s dp un gd Q E lh d vs hist r most tm g L8 h8 tk8 o8) → (∀ (w : World) (mean : ExcName → Option Value) (mg mb : Str → Option Value) (A₀ : Around) (base h₀ : Heap) (outer : List Env) (env : Env) (L : Addr) (m : Str → Option Value) (news : List (Addr × Obj)) (s : Shared) (dp un : Nat) (gd : Option (List Code)) (Q E : Value → Shared → Prop) (H : Here w mean mg mb A₀ base h₀ outer env L m news s.heap) (hdp : dp + 40 < recursionLimit) (hu : un + 500 < cLine) (lh d : Addr) (vs : List Value) (hist : List HE) (r : RowsT) (most : Int) (tm : Tok) (hl : s.heap.IsList lh vs.toArray) (hp : Paired (HistAt s.heap) vs hist) (hsz : hist.length ≤ 64) (R : RowsAt w s.heap d r) (lo : (d == sysModules) = false) (hr : r.length < 64) (ret : ∀ a h' tk' t1 t2, Fr h₀ L h' m → News h₀ L h' ((a, tupO #[.str (dReading hist r most).1 t1, .int (dReading hist r most).2 t2]) :: news) → (∀ p ∈ news, p.1 ≠ a) → Q (.ref a) { s with heap := h', toks := tk' }), wpAny (model PySem.Challenge.rw_og0083_01.row.prog w) (aro dp un gd (env :: outer)) (call (.ref 294) [.ref lh, .ref d, .int most tm]) Q E s)) := by
  refine' ⟨_, fun hPa => ?_⟩
  rotate_left 1
  · skip
    intro w mean mg mb A₀ base h₀ outer env L m news s dp un gd Q E H hdp hu lh d vs hist r most tm hl hp hsz R lo hr ret
    refine H.cutK (dp := dp) (un := un) (gd := gd) (muts := []) (by simp) (fun g C st' B X T fr kp ns hN => ?_)
    have up : ∀ b o, s.heap.get? b = some o → g.get? b = some o := fun b o e => C.rest b o e (by simp)
    replace hl := hl.at fun o e => up _ o e
    replace hp := pimp (fun _ _ x => HistAt.keeps up x) hp
    replace R := R.keeps up
    have hvl := hp.length
    clear H up
    (revert C T; revert X; k_fill; intro X C T)
    refine wpAny_call ?_
    walk_at "S enterC"
    rename_i L8 h8 tk8 F8 l8 o8 d8 N8
    k_sweep
    revert N8; revert d8; revert l8; revert F8; revert T; revert C; revert X; revert hvl; revert R; revert hp; revert hl; revert hN; revert ns; revert kp; revert fr; revert B; revert st'; revert ret; revert hr; revert lo; revert hsz; revert hu; revert hdp
    exact hPa w mean mg mb base h₀ outer env L m news s dp un gd Q E lh d vs hist r most tm g L8 h8 tk8 o8
noncomputable def reading_spec_a_v : (World) × (ExcName → Option Value) × (Str → Option Value) × (Str → Option Value) × (Heap) × (Heap) × (List Env) × (Env) × (Addr) × (Str → Option Value) × (List (Addr × Obj)) × (Shared) × (Nat) × (Nat) × (Option (List Code)) × (Value → Shared → Prop) × (Value → Shared → Prop) × (Addr) × (Addr) × (List Value) × (List HE) × (RowsT) × (Int) × (Tok) × (Heap) × (Addr) × (Heap) × (Nat) × (Obj) := @Classical.epsilon _ ⟨(w0, (fun _ => none), (fun _ => none), (fun _ => none), {}, {}, [], default, 0, (fun _ => none), [], {}, 0, 0, none, (fun _ => (fun _ => True)), (fun _ => (fun _ => True)), 0, 0, [], [], [], 0, 0, {}, 0, {}, 0, default)⟩ fun v => ¬ reading_spec_a_pre.1 v.1 v.2.1 v.2.2.1 v.2.2.2.1 v.2.2.2.2.1 v.2.2.2.2.2.1 v.2.2.2.2.2.2.1 v.2.2.2.2.2.2.2.1 v.2.2.2.2.2.2.2.2.1 v.2.2.2.2.2.2.2.2.2.1 v.2.2.2.2.2.2.2.2.2.2.1 v.2.2.2.2.2.2.2.2.2.2.2.1 v.2.2.2.2.2.2.2.2.2.2.2.2.1 v.2.2.2.2.2.2.2.2.2.2.2.2.2.1 v.2.2.2.2.2.2.2.2.2.2.2.2.2.2.1 v.2.2.2.2.2.2.2.2.2.2.2.2.2.2.2.1 v.2.2.2.2.2.2.2.2.2.2.2.2.2.2.2.2.1 v.2.2.2.2.2.2.2.2.2.2.2.2.2.2.2.2.2.1 v.2.2.2.2.2.2.2.2.2.2.2.2.2.2.2.2.2.2.1 v.2.2.2.2.2.2.2.2.2.2.2.2.2.2.2.2.2.2.2.1 v.2.2.2.2.2.2.2.2.2.2.2.2.2.2.2.2.2.2.2.2.1 v.2.2.2.2.2.2.2.2.2.2.2.2.2.2.2.2.2.2.2.2.2.1 v.2.2.2.2.2.2.2.2.2.2.2.2.2.2.2.2.2.2.2.2.2.2.1 v.2.2.2.2.2.2.2.2.2.2.2.2.2.2.2.2.2.2.2.2.2.2.2.1 v.2.2.2.2.2.2.2.2.2.2.2.2.2.2.2.2.2.2.2.2.2.2.2.2.1 v.2.2.2.2.2.2.2.2.2.2.2.2.2.2.2.2.2.2.2.2.2.2.2.2.2.1 v.2.2.2.2.2.2.2.2.2.2.2.2.2.2.2.2.2.2.2.2.2.2.2.2.2.2.1 v.2.2.2.2.2.2.2.2.2.2.2.2.2.2.2.2.2.2.2.2.2.2.2.2.2.2.2.1 v.2.2.2.2.2.2.2.2.2.2.2.2.2.2.2.2.2.2.2.2.2.2.2.2.2.2.2.2
namespace reading_spec_a
noncomputable def w : World := reading_spec_a_v.1
noncomputable def mean : ExcName → Option Value := reading_spec_a_v.2.1
noncomputable def mg : Str → Option Value := reading_spec_a_v.2.2.1
noncomputable def mb : Str → Option Value := reading_spec_a_v.2.2.2.1
noncomputable def base : Heap := reading_spec_a_v.2.2.2.2.1
noncomputable def h₀ : Heap := reading_spec_a_v.2.2.2.2.2.1
noncomputable def outer : List Env := reading_spec_a_v.2.2.2.2.2.2.1
noncomputable def env : Env := reading_spec_a_v.2.2.2.2.2.2.2.1
noncomputable def L : Addr := reading_spec_a_v.2.2.2.2.2.2.2.2.1
noncomputable def m : Str → Option Value := reading_spec_a_v.2.2.2.2.2.2.2.2.2.1
noncomputable def news : List (Addr × Obj) := reading_spec_a_v.2.2.2.2.2.2.2.2.2.2.1
noncomputable def s : Shared := reading_spec_a_v.2.2.2.2.2.2.2.2.2.2.2.1
noncomputable def dp : Nat := reading_spec_a_v.2.2.2.2.2.2.2.2.2.2.2.2.1
noncomputable def un : Nat := reading_spec_a_v.2.2.2.2.2.2.2.2.2.2.2.2.2.1
noncomputable def gd : Option (List Code) := reading_spec_a_v.2.2.2.2.2.2.2.2.2.2.2.2.2.2.1
noncomputable def Q : Value → Shared → Prop := reading_spec_a_v.2.2.2.2.2.2.2.2.2.2.2.2.2.2.2.1
noncomputable def E : Value → Shared → Prop := reading_spec_a_v.2.2.2.2.2.2.2.2.2.2.2.2.2.2.2.2.1
noncomputable def lh : Addr := reading_spec_a_v.2.2.2.2.2.2.2.2.2.2.2.2.2.2.2.2.2.1
noncomputable def d : Addr := reading_spec_a_v.2.2.2.2.2.2.2.2.2.2.2.2.2.2.2.2.2.2.1
noncomputable def vs : List Value := reading_spec_a_v.2.2.2.2.2.2.2.2.2.2.2.2.2.2.2.2.2.2.2.1
noncomputable def hist : List HE := reading_spec_a_v.2.2.2.2.2.2.2.2.2.2.2.2.2.2.2.2.2.2.2.2.1
noncomputable def r : RowsT := reading_spec_a_v.2.2.2.2.2.2.2.2.2.2.2.2.2.2.2.2.2.2.2.2.2.1
noncomputable def most : Int := reading_spec_a_v.2.2.2.2.2.2.2.2.2.2.2.2.2.2.2.2.2.2.2.2.2.2.1
noncomputable def tm : Tok := reading_spec_a_v.2.2.2.2.2.2.2.2.2.2.2.2.2.2.2.2.2.2.2.2.2.2.2.1
noncomputable def g : Heap := reading_spec_a_v.2.2.2.2.2.2.2.2.2.2.2.2.2.2.2.2.2.2.2.2.2.2.2.2.1
noncomputable def L8 : Addr := reading_spec_a_v.2.2.2.2.2.2.2.2.2.2.2.2.2.2.2.2.2.2.2.2.2.2.2.2.2.1
noncomputable def h8 : Heap := reading_spec_a_v.2.2.2.2.2.2.2.2.2.2.2.2.2.2.2.2.2.2.2.2.2.2.2.2.2.2.1
noncomputable def tk8 : Nat := reading_spec_a_v.2.2.2.2.2.2.2.2.2.2.2.2.2.2.2.2.2.2.2.2.2.2.2.2.2.2.2.1
noncomputable def o8 : Obj := reading_spec_a_v.2.2.2.2.2.2.2.2.2.2.2.2.2.2.2.2.2.2.2.2.2.2.2.2.2.2.2.2
set_option maxHeartbeats 8000000 in
theorem walk : reading_spec_a_pre.1 w mean mg mb base h₀ outer env L m news s dp un gd Q E lh d vs hist r most tm g L8 h8 tk8 o8 := by
  delta reading_spec_a_pre
  dsimp only
  intro hdp hu hsz lo hr ret st' B fr kp ns hN hl hp R hvl X C T F8 l8 d8 N8
  have fin : ∀ a h' tk' L' m' led t1 t2 rs rn, Fr g L' h' m' → News g L' h' led → (a, tupO #[.str rs t1, .int rn t2]) ∈ led → dReading hist r most = (rs, rn) → Q (.ref a) { s with heap := h', toks := tk' } := by
    intro a h' tk' L' m' led t1 t2 rs rn F' N' m1 e
    have key := ret a h' tk' t1 t2 (fr _ F'.keep)
    rw [e] at key
    refine key (fun p hp => ?_) (cut_ne C hN (N' _ m1).2.2 (by simp))
    rcases List.mem_cons.mp hp with rfl | hp
    · exact ns _ _ ((aft_of F' N').sub (outs := [(a, tupO #[.str rs t1, .int rn t2])]) (by simp [m1])) _ (.head _)
    · exact kp _ p F'.keep hp (by simp)
  cases hlow : lowR hist.reverse with
  | none =>
    k_steps
    all_goals exact fin _ _ _ _ _ _ _ _ _ _ (by assumption) (by assumption) (by k_mem) (rd_46 hlow)
  | some low =>
    k_steps
    rename_i F1 N1 d1
    obtain ⟨oR, hgR, hRO⟩ := R
    refine cs_T (src_rows rfl (F1.keep _ _ hgR) hRO lo) F1 N1 (by rw [sizeLine_eq]; omega) (fun _ => .inl hgR) (fun i ys tail => tail = [] ∧ IntsAre ys (((rkeys r).take i).filter (fun k => decide (low ≤ k)))) ⟨rfl, .nil⟩ ?_ ?_
    · rintro i ys _ v I oI C' oC D m₂ h tk E' hi ⟨t, rfl⟩ ⟨rfl, hG⟩ hC hx F N off own ne
      simp only [List.cons_append, List.nil_append] at N
      simp only [Off3, and_true] at off
      k_steps
      · exact TEnd.intro [] ‹Fr _ _ _ _› N (fun _ hp => hp) own_nil ⟨rfl, flt_t hi hG (decide_eq_true (by assumption))⟩
      · exact TEnd.intro [] ‹Fr _ _ _ _› N (fun _ hp => hp) own_nil ⟨rfl, flt_f hi hG (decide_eq_false (by assumption))⟩
    · rintro g3 ys _ ⟨rfl, hG⟩ own
      rw [show r.length = (rkeys r).length by rw [rkeys, List.length_map], List.take_length] at hG
      have hyl := hG.length
      unfold FinA
      intro D3 h3 tk3 F3 N3 off3
      simp only [List.cons_append, List.nil_append] at N3
      simp only [List.cons_append, List.nil_append, Off1, and_true] at off3
      k_steps
      all_goals first
        | exact fin _ _ _ _ _ _ _ _ _ _ (by assumption) (by assumption) (by k_mem) (rd_10 hlow (by assumption))
        | exact fin _ _ _ _ _ _ _ _ _ _ (by assumption) (by assumption) (by k_mem) (rd_14 hlow (by assumption) (by assumption) (by assumption) (by assumption) (by assumption))
        | exact fin _ _ _ _ _ _ _ _ _ _ (by assumption) (by assumption) (by k_mem) (rd_00a hlow (by assumption) (by assumption) (by assumption) (by assumption))
        | exact fin _ _ _ _ _ _ _ _ _ _ (by assumption) (by assumption) (by k_mem) (rd_00b hlow (by assumption) (by assumption) (by assumption) (by assumption) (by assumption) (by assumption))
end reading_spec_a
theorem reading_spec_a_all : ∀ (w' : World) (mean' : ExcName → Option Value) (mg' : Str → Option Value) (mb' : Str → Option Value) (base' : Heap) (h₀' : Heap) (outer' : List Env) (env' : Env) (L' : Addr) (m' : Str → Option Value) (news' : List (Addr × Obj)) (s' : Shared) (dp' : Nat) (un' : Nat) (gd' : Option (List Code)) (Q' : Value → Shared → Prop) (E' : Value → Shared → Prop) (lh' : Addr) (d' : Addr) (vs' : List Value) (hist' : List HE) (r' : RowsT) (most' : Int) (tm' : Tok) (g' : Heap) (L8' : Addr) (h8' : Heap) (tk8' : Nat) (o8' : Obj), reading_spec_a_pre.1 w' mean' mg' mb' base' h₀' outer' env' L' m' news' s' dp' un' gd' Q' E' lh' d' vs' hist' r' most' tm' g' L8' h8' tk8' o8' := by
  intro w' mean' mg' mb' base' h₀' outer' env' L' m' news' s' dp' un' gd' Q' E' lh' d' vs' hist' r' most' tm' g' L8' h8' tk8' o8'
  have hw := reading_spec_a.walk
  with_unfolding_all exact hk (α := (World) × (ExcName → Option Value) × (Str → Option Value) × (Str → Option Value) × (Heap) × (Heap) × (List Env) × (Env) × (Addr) × (Str → Option Value) × (List (Addr × Obj)) × (Shared) × (Nat) × (Nat) × (Option (List Code)) × (Value → Shared → Prop) × (Value → Shared → Prop) × (Addr) × (Addr) × (List Value) × (List HE) × (RowsT) × (Int) × (Tok) × (Heap) × (Addr) × (Heap) × (Nat) × (Obj)) (p := fun v => reading_spec_a_pre.1 v.1 v.2.1 v.2.2.1 v.2.2.2.1 v.2.2.2.2.1 v.2.2.2.2.2.1 v.2.2.2.2.2.2.1 v.2.2.2.2.2.2.2.1 v.2.2.2.2.2.2.2.2.1 v.2.2.2.2.2.2.2.2.2.1 v.2.2.2.2.2.2.2.2.2.2.1 v.2.2.2.2.2.2.2.2.2.2.2.1 v.2.2.2.2.2.2.2.2.2.2.2.2.1 v.2.2.2.2.2.2.2.2.2.2.2.2.2.1 v.2.2.2.2.2.2.2.2.2.2.2.2.2.2.1 v.2.2.2.2.2.2.2.2.2.2.2.2.2.2.2.1 v.2.2.2.2.2.2.2.2.2.2.2.2.2.2.2.2.1 v.2.2.2.2.2.2.2.2.2.2.2.2.2.2.2.2.2.1 v.2.2.2.2.2.2.2.2.2.2.2.2.2.2.2.2.2.2.1 v.2.2.2.2.2.2.2.2.2.2.2.2.2.2.2.2.2.2.2.1 v.2.2.2.2.2.2.2.2.2.2.2.2.2.2.2.2.2.2.2.2.1 v.2.2.2.2.2.2.2.2.2.2.2.2.2.2.2.2.2.2.2.2.2.1 v.2.2.2.2.2.2.2.2.2.2.2.2.2.2.2.2.2.2.2.2.2.2.1 v.2.2.2.2.2.2.2.2.2.2.2.2.2.2.2.2.2.2.2.2.2.2.2.1 v.2.2.2.2.2.2.2.2.2.2.2.2.2.2.2.2.2.2.2.2.2.2.2.2.1 v.2.2.2.2.2.2.2.2.2.2.2.2.2.2.2.2.2.2.2.2.2.2.2.2.2.1 v.2.2.2.2.2.2.2.2.2.2.2.2.2.2.2.2.2.2.2.2.2.2.2.2.2.2.1 v.2.2.2.2.2.2.2.2.2.2.2.2.2.2.2.2.2.2.2.2.2.2.2.2.2.2.2.1 v.2.2.2.2.2.2.2.2.2.2.2.2.2.2.2.2.2.2.2.2.2.2.2.2.2.2.2.2) hw (w', mean', mg', mb', base', h₀', outer', env', L', m', news', s', dp', un', gd', Q', E', lh', d', vs', hist', r', most', tm', g', L8', h8', tk8', o8')
theorem reading_spec {w : World} {mean : ExcName → Option Value} {mg mb : Str → Option Value} {A₀ : Around} {base h₀ : Heap} {outer : List Env} {env : Env} {L : Addr} {m : Str → Option Value} {news : List (Addr × Obj)} {s : Shared} {dp un : Nat} {gd : Option (List Code)} {Q E : Value → Shared → Prop} (H : Here w mean mg mb A₀ base h₀ outer env L m news s.heap) (hdp : dp + 40 < recursionLimit) (hu : un + 500 < cLine) {lh d : Addr} {vs : List Value} {hist : List HE} {r : RowsT} {most : Int} {tm : Tok} (hl : s.heap.IsList lh vs.toArray) (hp : Paired (HistAt s.heap) vs hist) (hsz : hist.length ≤ 64)
    (R : RowsAt w s.heap d r) (lo : (d == sysModules) = false) (hr : r.length < 64)
    (ret : ∀ a h' tk' t1 t2, Fr h₀ L h' m → News h₀ L h' ((a, tupO #[.str (dReading hist r most).1 t1, .int (dReading hist r most).2 t2]) :: news) → (∀ p ∈ news, p.1 ≠ a) → Q (.ref a) { s with heap := h', toks := tk' }) :
    wpAny (model PySem.Challenge.rw_og0083_01.row.prog w) (aro dp un gd (env :: outer)) (call (.ref 294) [.ref lh, .ref d, .int most tm]) Q E s := by
  exact reading_spec_a_pre.2 reading_spec_a_all w mean mg mb A₀ base h₀ outer env L m news s dp un gd Q E H hdp hu lh d vs hist r most tm hl hp hsz R lo hr ret
end
theorem flt_gt {l : List Int} {n : Int} : (l.filter (opAt .ge n)).filter (fun k => decide (k ≠ n)) = l.filter (opAt .gt n) := by
  rw [List.filter_filter]
  congr 1
  funext k
  show (decide (k ≠ n) && decide (n ≤ k)) = decide (n < k)
  rw [← Bool.decide_and]
  exact decide_eq_decide.mpr (by omega)
theorem ne_t {ns : List Int} {i : Nat} {k n : Int} {t : Tok} {zs : List Value} (h : ns.take (i + 1) = ns.take i ++ [k]) (g : IntsAre zs ((ns.take i).filter (fun k => decide (k ≠ n)))) (p : k ≠ n) : IntsAre (zs ++ [.int k t]) ((ns.take (i + 1)).filter (fun k => decide (k ≠ n))) := by
  rw [h, List.filter_append]
  refine g.append ?_
  rw [List.filter_cons_of_pos (by simpa using p)]
  exact .cons _ _ .nil
theorem ne_f {ns : List Int} {i : Nat} {k n : Int} {zs : List Value} (h : ns.take (i + 1) = ns.take i ++ [k]) (g : IntsAre zs ((ns.take i).filter (fun k => decide (k ≠ n)))) (p : k = n) : IntsAre zs ((ns.take (i + 1)).filter (fun k => decide (k ≠ n))) := by
  rw [h, List.filter_append, List.filter_cons_of_neg (by rw [decide_eq_false (fun q => q p)]; decide)]
  simpa using g
theorem st_23 {r : RowsT} {op : Op} {n : Int} (h1 : decide ((rkeys r).filter (opAt op n) = []) = true) : dStarting r op n = (s23, 0) := by
  unfold dStarting; rw [if_pos (of_decide_eq_true h1)]
theorem st_00 {r : RowsT} {op : Op} {n M : Int} (h1 : decide ((rkeys r).filter (opAt op n) = []) = false) (h3 : M ∈ (rkeys r).filter (opAt op n)) (h4 : ∀ a, a ∈ (rkeys r).filter (opAt op n) → M ≤ a) : dStarting r op n = (s00, M) := by
  unfold dStarting; rw [if_neg (of_decide_eq_false h1), minL_eq h3 h4]
section
set_option maxHeartbeats 8000000 in
noncomputable def starting_spec_a_pre : (Pa : (World) → (ExcName → Option Value) → (Str → Option Value) → (Str → Option Value) → (Heap) → (Heap) → (List Env) → (Env) → (Addr) → (Str → Option Value) → (List (Addr × Obj)) → (Shared) → (Nat) → (Nat) → (Option (List Code)) → (Value → Shared → Prop) → (Value → Shared → Prop) → (Addr) → (RowsT) → (Int) → (Tok) → (Tok) → (Heap) → (Addr) → (Heap) → (Nat) → (Obj) → (Obj) → Prop) ×' ((∀ w mean mg mb base h₀ outer env L m news s dp un gd Q E d r n to tn g za0 za1 L8 F8 l8, Pa w mean mg mb base h₀ outer env L m news s dp un gd Q E d r n to tn g za0 za1 L8 F8 l8) → (∀ (w : World) (mean : ExcName → Option Value) (mg mb : Str → Option Value) (A₀ : Around) (base h₀ : Heap) (outer : List Env) (env : Env) (L : Addr) (m : Str → Option Value) (news : List (Addr × Obj)) (s : Shared) (dp un : Nat) (gd : Option (List Code)) (Q E : Value → Shared → Prop) (H : Here w mean mg mb A₀ base h₀ outer env L m news s.heap) (hdp : dp + 40 < recursionLimit) (hu : un + 500 < cLine) (d : Addr) (r : RowsT) (op : Op) (n : Int) (to tn : Tok) (R : RowsAt w s.heap d r) (lo : (d == sysModules) = false) (hr : r.length < 64) (ret : ∀ a h' tk' t1 t2, Fr h₀ L h' m → News h₀ L h' ((a, tupO #[.str (dStarting r op n).1 t1, .int (dStarting r op n).2 t2]) :: news) → (∀ p ∈ news, p.1 ≠ a) → Q (.ref a) { s with heap := h', toks := tk' }), wpAny (model PySem.Challenge.rw_og0083_01.row.prog w) (aro dp un gd (env :: outer)) (call (.ref 299) [.ref d, .str op.s to, .int n tn]) Q E s)) := by
  refine' ⟨_, fun hPa => ?_⟩
  rotate_left 1
  · skip
    intro w mean mg mb A₀ base h₀ outer env L m news s dp un gd Q E H hdp hu d r op n to tn R lo hr ret
    refine H.cutK (dp := dp) (un := un) (gd := gd) (muts := []) (by simp) (fun g C st' B X T fr kp ns hN => ?_)
    have up : ∀ b o, s.heap.get? b = some o → g.get? b = some o := fun b o e => C.rest b o e (by simp)
    replace R := R.keeps up
    clear H up
    (revert C T; revert X; k_fill; intro X C T)
    refine wpAny_call ?_
    walk_at "S enterC"
    rename_i L8 h8 tk8 F8 l8 o8 d8 N8
    k_sweep
    rename_i za0 za1
    revert N8; revert d8; revert o8; revert tk8; revert h8; revert T; revert C; revert X; revert R; revert hN; revert ns; revert kp; revert fr; revert B; revert st'; revert ret; revert hr; revert lo; revert op; revert hu; revert hdp
    exact hPa w mean mg mb base h₀ outer env L m news s dp un gd Q E d r n to tn g za0 za1 L8 F8 l8
noncomputable def starting_spec_a_v : (World) × (ExcName → Option Value) × (Str → Option Value) × (Str → Option Value) × (Heap) × (Heap) × (List Env) × (Env) × (Addr) × (Str → Option Value) × (List (Addr × Obj)) × (Shared) × (Nat) × (Nat) × (Option (List Code)) × (Value → Shared → Prop) × (Value → Shared → Prop) × (Addr) × (RowsT) × (Int) × (Tok) × (Tok) × (Heap) × (Addr) × (Heap) × (Nat) × (Obj) × (Obj) := @Classical.epsilon _ ⟨(w0, (fun _ => none), (fun _ => none), (fun _ => none), {}, {}, [], default, 0, (fun _ => none), [], {}, 0, 0, none, (fun _ => (fun _ => True)), (fun _ => (fun _ => True)), 0, [], 0, 0, 0, {}, 0, {}, 0, default, default)⟩ fun v => ¬ starting_spec_a_pre.1 v.1 v.2.1 v.2.2.1 v.2.2.2.1 v.2.2.2.2.1 v.2.2.2.2.2.1 v.2.2.2.2.2.2.1 v.2.2.2.2.2.2.2.1 v.2.2.2.2.2.2.2.2.1 v.2.2.2.2.2.2.2.2.2.1 v.2.2.2.2.2.2.2.2.2.2.1 v.2.2.2.2.2.2.2.2.2.2.2.1 v.2.2.2.2.2.2.2.2.2.2.2.2.1 v.2.2.2.2.2.2.2.2.2.2.2.2.2.1 v.2.2.2.2.2.2.2.2.2.2.2.2.2.2.1 v.2.2.2.2.2.2.2.2.2.2.2.2.2.2.2.1 v.2.2.2.2.2.2.2.2.2.2.2.2.2.2.2.2.1 v.2.2.2.2.2.2.2.2.2.2.2.2.2.2.2.2.2.1 v.2.2.2.2.2.2.2.2.2.2.2.2.2.2.2.2.2.2.1 v.2.2.2.2.2.2.2.2.2.2.2.2.2.2.2.2.2.2.2.1 v.2.2.2.2.2.2.2.2.2.2.2.2.2.2.2.2.2.2.2.2.1 v.2.2.2.2.2.2.2.2.2.2.2.2.2.2.2.2.2.2.2.2.2.1 v.2.2.2.2.2.2.2.2.2.2.2.2.2.2.2.2.2.2.2.2.2.2.1 v.2.2.2.2.2.2.2.2.2.2.2.2.2.2.2.2.2.2.2.2.2.2.2.1 v.2.2.2.2.2.2.2.2.2.2.2.2.2.2.2.2.2.2.2.2.2.2.2.2.1 v.2.2.2.2.2.2.2.2.2.2.2.2.2.2.2.2.2.2.2.2.2.2.2.2.2.1 v.2.2.2.2.2.2.2.2.2.2.2.2.2.2.2.2.2.2.2.2.2.2.2.2.2.2.1 v.2.2.2.2.2.2.2.2.2.2.2.2.2.2.2.2.2.2.2.2.2.2.2.2.2.2.2
namespace starting_spec_a
noncomputable def w : World := starting_spec_a_v.1
noncomputable def mean : ExcName → Option Value := starting_spec_a_v.2.1
noncomputable def mg : Str → Option Value := starting_spec_a_v.2.2.1
noncomputable def mb : Str → Option Value := starting_spec_a_v.2.2.2.1
noncomputable def base : Heap := starting_spec_a_v.2.2.2.2.1
noncomputable def h₀ : Heap := starting_spec_a_v.2.2.2.2.2.1
noncomputable def outer : List Env := starting_spec_a_v.2.2.2.2.2.2.1
noncomputable def env : Env := starting_spec_a_v.2.2.2.2.2.2.2.1
noncomputable def L : Addr := starting_spec_a_v.2.2.2.2.2.2.2.2.1
noncomputable def m : Str → Option Value := starting_spec_a_v.2.2.2.2.2.2.2.2.2.1
noncomputable def news : List (Addr × Obj) := starting_spec_a_v.2.2.2.2.2.2.2.2.2.2.1
noncomputable def s : Shared := starting_spec_a_v.2.2.2.2.2.2.2.2.2.2.2.1
noncomputable def dp : Nat := starting_spec_a_v.2.2.2.2.2.2.2.2.2.2.2.2.1
noncomputable def un : Nat := starting_spec_a_v.2.2.2.2.2.2.2.2.2.2.2.2.2.1
noncomputable def gd : Option (List Code) := starting_spec_a_v.2.2.2.2.2.2.2.2.2.2.2.2.2.2.1
noncomputable def Q : Value → Shared → Prop := starting_spec_a_v.2.2.2.2.2.2.2.2.2.2.2.2.2.2.2.1
noncomputable def E : Value → Shared → Prop := starting_spec_a_v.2.2.2.2.2.2.2.2.2.2.2.2.2.2.2.2.1
noncomputable def d : Addr := starting_spec_a_v.2.2.2.2.2.2.2.2.2.2.2.2.2.2.2.2.2.1
noncomputable def r : RowsT := starting_spec_a_v.2.2.2.2.2.2.2.2.2.2.2.2.2.2.2.2.2.2.1
noncomputable def n : Int := starting_spec_a_v.2.2.2.2.2.2.2.2.2.2.2.2.2.2.2.2.2.2.2.1
noncomputable def to : Tok := starting_spec_a_v.2.2.2.2.2.2.2.2.2.2.2.2.2.2.2.2.2.2.2.2.1
noncomputable def tn : Tok := starting_spec_a_v.2.2.2.2.2.2.2.2.2.2.2.2.2.2.2.2.2.2.2.2.2.1
noncomputable def g : Heap := starting_spec_a_v.2.2.2.2.2.2.2.2.2.2.2.2.2.2.2.2.2.2.2.2.2.2.1
noncomputable def za0 : Addr := starting_spec_a_v.2.2.2.2.2.2.2.2.2.2.2.2.2.2.2.2.2.2.2.2.2.2.2.1
noncomputable def za1 : Heap := starting_spec_a_v.2.2.2.2.2.2.2.2.2.2.2.2.2.2.2.2.2.2.2.2.2.2.2.2.1
noncomputable def L8 : Nat := starting_spec_a_v.2.2.2.2.2.2.2.2.2.2.2.2.2.2.2.2.2.2.2.2.2.2.2.2.2.1
noncomputable def F8 : Obj := starting_spec_a_v.2.2.2.2.2.2.2.2.2.2.2.2.2.2.2.2.2.2.2.2.2.2.2.2.2.2.1
noncomputable def l8 : Obj := starting_spec_a_v.2.2.2.2.2.2.2.2.2.2.2.2.2.2.2.2.2.2.2.2.2.2.2.2.2.2.2
set_option maxHeartbeats 8000000 in
theorem walk : starting_spec_a_pre.1 w mean mg mb base h₀ outer env L m news s dp un gd Q E d r n to tn g za0 za1 L8 F8 l8 := by
  delta starting_spec_a_pre
  dsimp only
  intro hdp hu op lo hr ret st' B fr kp ns hN R X C T h8 tk8 o8 d8 N8
  have fin : ∀ a h' tk' L' m' led t1 t2 rs rn, Fr g L' h' m' → News g L' h' led → (a, tupO #[.str rs t1, .int rn t2]) ∈ led → dStarting r op n = (rs, rn) → Q (.ref a) { s with heap := h', toks := tk' } := by
    intro a h' tk' L' m' led t1 t2 rs rn F' N' m1 e
    have key := ret a h' tk' t1 t2 (fr _ F'.keep)
    rw [e] at key
    refine key (fun p hp => ?_) (cut_ne C hN (N' _ m1).2.2 (by simp))
    rcases List.mem_cons.mp hp with rfl | hp
    · exact ns _ _ ((aft_of F' N').sub (outs := [(a, tupO #[.str rs t1, .int rn t2])]) (by simp [m1])) _ (.head _)
    · exact kp _ p F'.keep hp (by simp)
  obtain ⟨oR, hgR, hRO⟩ := R
  cases op with
  | eq =>
    k_steps
    refine cs_T (src_rows rfl (Fr.keep (by assumption) _ _ hgR) hRO lo) (by assumption) (by assumption) (by rw [sizeLine_eq]; omega) (fun _ => .inl hgR) (fun i ys tail => tail = [] ∧ IntsAre ys (((rkeys r).take i).filter (opAt .eq n))) ⟨rfl, .nil⟩ ?_ ?_
    · rintro i ys _ v I oI C' oC D m₂ h tk E' hi ⟨t, rfl⟩ ⟨rfl, hG⟩ hC hx F N off own ne
      simp only [List.cons_append, List.nil_append] at N
      simp only [Off3, and_true] at off
      k_steps
      all_goals first
        | exact TEnd.intro [] (by assumption) (by assumption) (fun _ hp => hp) own_nil ⟨rfl, flt_t hi hG (decide_eq_true (by omega))⟩
        | exact TEnd.intro [] (by assumption) (by assumption) (fun _ hp => hp) own_nil ⟨rfl, flt_f hi hG (decide_eq_false (by omega))⟩
    · rintro g3 ys _ ⟨rfl, hG⟩ own
      rw [show r.length = (rkeys r).length by rw [rkeys, List.length_map], List.take_length] at hG
      have hyl := hG.length
      have hyl2 : ys.length ≤ (rkeys r).length := by rw [hyl]; exact List.length_filter_le _ _
      rw [rkeys, List.length_map] at hyl2
      unfold FinA
      intro D3 h3 tk3 F3 N3 off3
      simp only [List.cons_append, List.nil_append] at N3
      simp only [List.cons_append, List.nil_append, Off1, and_true] at off3
      k_steps
      all_goals first
        | exact fin _ _ _ _ _ _ _ _ _ _ (by assumption) (by assumption) (by k_mem) (st_23 (by assumption))
        | exact fin _ _ _ _ _ _ _ _ _ _ (by assumption) (by assumption) (by k_mem) (st_00 (by assumption) (by assumption) (by assumption))
  | ge =>
    k_steps
    refine cs_T (src_rows rfl (Fr.keep (by assumption) _ _ hgR) hRO lo) (by assumption) (by assumption) (by rw [sizeLine_eq]; omega) (fun _ => .inl hgR) (fun i ys tail => tail = [] ∧ IntsAre ys (((rkeys r).take i).filter (opAt .ge n))) ⟨rfl, .nil⟩ ?_ ?_
    · rintro i ys _ v I oI C' oC D m₂ h tk E' hi ⟨t, rfl⟩ ⟨rfl, hG⟩ hC hx F N off own ne
      simp only [List.cons_append, List.nil_append] at N
      simp only [Off3, and_true] at off
      k_steps
      all_goals first
        | exact TEnd.intro [] (by assumption) (by assumption) (fun _ hp => hp) own_nil ⟨rfl, flt_t hi hG (decide_eq_true (by omega))⟩
        | exact TEnd.intro [] (by assumption) (by assumption) (fun _ hp => hp) own_nil ⟨rfl, flt_f hi hG (decide_eq_false (by omega))⟩
    · rintro g3 ys _ ⟨rfl, hG⟩ own
      rw [show r.length = (rkeys r).length by rw [rkeys, List.length_map], List.take_length] at hG
      have hyl := hG.length
      have hyl2 : ys.length ≤ (rkeys r).length := by rw [hyl]; exact List.length_filter_le _ _
      rw [rkeys, List.length_map] at hyl2
      unfold FinA
      intro D3 h3 tk3 F3 N3 off3
      simp only [List.cons_append, List.nil_append] at N3
      simp only [List.cons_append, List.nil_append, Off1, and_true] at off3
      k_steps
      all_goals first
        | exact fin _ _ _ _ _ _ _ _ _ _ (by assumption) (by assumption) (by k_mem) (st_23 (by assumption))
        | exact fin _ _ _ _ _ _ _ _ _ _ (by assumption) (by assumption) (by k_mem) (st_00 (by assumption) (by assumption) (by assumption))
  | gt =>
    k_steps
    refine cs_T (src_rows rfl (Fr.keep (by assumption) _ _ hgR) hRO lo) (by assumption) (by assumption) (by rw [sizeLine_eq]; omega) (fun _ => .inl hgR) (fun i ys tail => tail = [] ∧ IntsAre ys (((rkeys r).take i).filter (opAt .ge n))) ⟨rfl, .nil⟩ ?_ ?_
    · rintro i ys _ v I oI C' oC D m₂ h tk E' hi ⟨t, rfl⟩ ⟨rfl, hG⟩ hC hx F N off own ne
      simp only [List.cons_append, List.nil_append] at N
      simp only [Off3, and_true] at off
      k_steps
      all_goals first
        | exact TEnd.intro [] (by assumption) (by assumption) (fun _ hp => hp) own_nil ⟨rfl, flt_t hi hG (decide_eq_true (by omega))⟩
        | exact TEnd.intro [] (by assumption) (by assumption) (fun _ hp => hp) own_nil ⟨rfl, flt_f hi hG (decide_eq_false (by omega))⟩
    · rintro g3 ys _ ⟨rfl, hG⟩ own
      rw [show r.length = (rkeys r).length by rw [rkeys, List.length_map], List.take_length] at hG
      have hyl := hG.length
      have hyl2 : ys.length ≤ (rkeys r).length := by rw [hyl]; exact List.length_filter_le _ _
      rw [rkeys, List.length_map] at hyl2
      unfold FinA
      intro D3 h3 tk3 F3 N3 off3
      simp only [List.cons_append, List.nil_append] at N3
      simp only [List.cons_append, List.nil_append, Off1, and_true] at off3
      k_steps
      refine cs_T (src_list rfl ⟨_, (N3 _ (.head _)).1, rfl, _, rfl⟩) F3 N3 (by rw [sizeLine_eq]; simp only [List.size_toArray]; omega) (fun t => .inr ⟨_, .head _, rfl, _, rfl⟩) (fun i zs tail => tail = [] ∧ IntsAre zs ((((rkeys r).filter (opAt .ge n)).take i).filter (fun k => decide (k ≠ n)))) ⟨rfl, .nil⟩ ?_ ?_
      · intro i zs tail v I oI C' oC D m₂ h tk E' hi hP hQ hC hx F N off own ne
        obtain ⟨rfl, hG2⟩ := hQ
        obtain ⟨k, t, rfl, hsp, htk⟩ := ints_split hG hP
        simp only [List.cons_append, List.nil_append] at N
        simp only [Off3, and_true] at off
        k_steps
        all_goals first
          | exact TEnd.intro [] (by assumption) (by assumption) (fun _ hp => hp) own_nil ⟨rfl, ne_t htk hG2 (by assumption)⟩
          | exact TEnd.intro [] (by assumption) (by assumption) (fun _ hp => hp) own_nil ⟨rfl, ne_f htk hG2 (by omega)⟩
      · rintro g4 zs _ ⟨rfl, hG2⟩ own2
        rw [List.size_toArray, hyl, List.take_length, flt_gt] at hG2
        have hzl := hG2.length
        unfold FinA
        intro D4 h4 tk4 F4 N4 off4
        simp only [List.cons_append, List.nil_append] at N4
        simp only [List.cons_append, List.nil_append, Off1, and_true] at off4
        k_steps
        all_goals first
          | exact fin _ _ _ _ _ _ _ _ _ _ (by assumption) (by assumption) (by k_mem) (st_23 (by assumption))
          | exact fin _ _ _ _ _ _ _ _ _ _ (by assumption) (by assumption) (by k_mem) (st_00 (by assumption) (by assumption) (by assumption))
end starting_spec_a
theorem starting_spec_a_all : ∀ (w' : World) (mean' : ExcName → Option Value) (mg' : Str → Option Value) (mb' : Str → Option Value) (base' : Heap) (h₀' : Heap) (outer' : List Env) (env' : Env) (L' : Addr) (m' : Str → Option Value) (news' : List (Addr × Obj)) (s' : Shared) (dp' : Nat) (un' : Nat) (gd' : Option (List Code)) (Q' : Value → Shared → Prop) (E' : Value → Shared → Prop) (d' : Addr) (r' : RowsT) (n' : Int) (to' : Tok) (tn' : Tok) (g' : Heap) (za0' : Addr) (za1' : Heap) (L8' : Nat) (F8' : Obj) (l8' : Obj), starting_spec_a_pre.1 w' mean' mg' mb' base' h₀' outer' env' L' m' news' s' dp' un' gd' Q' E' d' r' n' to' tn' g' za0' za1' L8' F8' l8' := by
  intro w' mean' mg' mb' base' h₀' outer' env' L' m' news' s' dp' un' gd' Q' E' d' r' n' to' tn' g' za0' za1' L8' F8' l8'
  have hw := starting_spec_a.walk
  with_unfolding_all exact hk (α := (World) × (ExcName → Option Value) × (Str → Option Value) × (Str → Option Value) × (Heap) × (Heap) × (List Env) × (Env) × (Addr) × (Str → Option Value) × (List (Addr × Obj)) × (Shared) × (Nat) × (Nat) × (Option (List Code)) × (Value → Shared → Prop) × (Value → Shared → Prop) × (Addr) × (RowsT) × (Int) × (Tok) × (Tok) × (Heap) × (Addr) × (Heap) × (Nat) × (Obj) × (Obj)) (p := fun v => starting_spec_a_pre.1 v.1 v.2.1 v.2.2.1 v.2.2.2.1 v.2.2.2.2.1 v.2.2.2.2.2.1 v.2.2.2.2.2.2.1 v.2.2.2.2.2.2.2.1 v.2.2.2.2.2.2.2.2.1 v.2.2.2.2.2.2.2.2.2.1 v.2.2.2.2.2.2.2.2.2.2.1 v.2.2.2.2.2.2.2.2.2.2.2.1 v.2.2.2.2.2.2.2.2.2.2.2.2.1 v.2.2.2.2.2.2.2.2.2.2.2.2.2.1 v.2.2.2.2.2.2.2.2.2.2.2.2.2.2.1 v.2.2.2.2.2.2.2.2.2.2.2.2.2.2.2.1 v.2.2.2.2.2.2.2.2.2.2.2.2.2.2.2.2.1 v.2.2.2.2.2.2.2.2.2.2.2.2.2.2.2.2.2.1 v.2.2.2.2.2.2.2.2.2.2.2.2.2.2.2.2.2.2.1 v.2.2.2.2.2.2.2.2.2.2.2.2.2.2.2.2.2.2.2.1 v.2.2.2.2.2.2.2.2.2.2.2.2.2.2.2.2.2.2.2.2.1 v.2.2.2.2.2.2.2.2.2.2.2.2.2.2.2.2.2.2.2.2.2.1 v.2.2.2.2.2.2.2.2.2.2.2.2.2.2.2.2.2.2.2.2.2.2.1 v.2.2.2.2.2.2.2.2.2.2.2.2.2.2.2.2.2.2.2.2.2.2.2.1 v.2.2.2.2.2.2.2.2.2.2.2.2.2.2.2.2.2.2.2.2.2.2.2.2.1 v.2.2.2.2.2.2.2.2.2.2.2.2.2.2.2.2.2.2.2.2.2.2.2.2.2.1 v.2.2.2.2.2.2.2.2.2.2.2.2.2.2.2.2.2.2.2.2.2.2.2.2.2.2.1 v.2.2.2.2.2.2.2.2.2.2.2.2.2.2.2.2.2.2.2.2.2.2.2.2.2.2.2) hw (w', mean', mg', mb', base', h₀', outer', env', L', m', news', s', dp', un', gd', Q', E', d', r', n', to', tn', g', za0', za1', L8', F8', l8')
theorem starting_spec {w : World} {mean : ExcName → Option Value} {mg mb : Str → Option Value} {A₀ : Around} {base h₀ : Heap} {outer : List Env} {env : Env} {L : Addr} {m : Str → Option Value} {news : List (Addr × Obj)} {s : Shared} {dp un : Nat} {gd : Option (List Code)} {Q E : Value → Shared → Prop} (H : Here w mean mg mb A₀ base h₀ outer env L m news s.heap) (hdp : dp + 40 < recursionLimit) (hu : un + 500 < cLine) {d : Addr} {r : RowsT} {op : Op} {n : Int} {to tn : Tok}
    (R : RowsAt w s.heap d r) (lo : (d == sysModules) = false) (hr : r.length < 64)
    (ret : ∀ a h' tk' t1 t2, Fr h₀ L h' m → News h₀ L h' ((a, tupO #[.str (dStarting r op n).1 t1, .int (dStarting r op n).2 t2]) :: news) → (∀ p ∈ news, p.1 ≠ a) → Q (.ref a) { s with heap := h', toks := tk' }) :
    wpAny (model PySem.Challenge.rw_og0083_01.row.prog w) (aro dp un gd (env :: outer)) (call (.ref 299) [.ref d, .str op.s to, .int n tn]) Q E s := by
  exact starting_spec_a_pre.2 starting_spec_a_all w mean mg mb A₀ base h₀ outer env L m news s dp un gd Q E H hdp hu d r op n to tn R lo hr ret
end
section
variable {prog : Program} {w : World} {A : Around} {E : Value → Shared → Prop} {s : Shared} {h₀ : Heap} {L : Addr} {m : Str → Option Value} {news : List (Addr × Obj)} {Q : Value → Shared → Prop}
theorem list_eq_nil {a b : Addr} {vs : List Value} (ha : s.heap.IsList a vs.toArray) (hb : s.heap.IsList b #[]) (hu : A.units < cLine) (h : Q (.bool (decide (vs = []))) s) : wpAny (model prog w) A (compareOp .Eq (.ref a) (.ref b)) Q E s := by
  cases vs with
  | nil => exact SeqAt.RcAt.lists (e := fun _ => true) ha hb rfl hu (fun j h1 => absurd h1 (by simp)) prog w E Q (by simpa using h)
  | cons v r => exact SeqAt.RcAt.lists_lengths ha hb (by simp) hu prog w E Q (by simpa using h)
theorem list_ne_nil {a b : Addr} {vs : List Value} (ha : s.heap.IsList a vs.toArray) (hb : s.heap.IsList b #[]) (hu : A.units < cLine) (h : Q (.bool (decide (vs ≠ []))) s) : wpAny (model prog w) A (compareOp .NotEq (.ref a) (.ref b)) Q E s := by
  cases vs with
  | nil => exact SeqAt.RcNeAt.lists (e := fun _ => true) ha hb rfl hu (fun j h1 => absurd h1 (by simp)) prog w E Q (by simpa using h)
  | cons v r => exact SeqAt.RcNeAt.lists_lengths ha hb (by simp) hu prog w E Q (by simpa using h)
theorem item_last {value slice : PySem.Expr} {l : Addr} {vs : List Value} {v : Value} {u : Tok} (hl : s.heap.IsList l (vs ++ [v]).toArray) (hz : vs.length ≤ 1000) (h : Q v s)
    (hs : subscripted slice false (.ref l) (.int (-1) u) = operate [.ref l, .int (-1) u] (getItem (.ref l) (.int (-1) u))) : wpAny (model prog w) A (subscriptTail value slice (.ref l) (.int (-1) u)) Q E s :=
  tail_any hl.typeIs slot_list_getitem.lookup (wpAny_getItem_list_neg hl (by decide) (by simp only [List.size_toArray, List.length_append, List.length_cons, List.length_nil]; omega) (by decide) (by rw [List.size_toArray, List.getElem?_toArray, show ((-1 : Int) + ((vs ++ [v]).length : Int)).toNat = vs.length by simp only [List.length_append, List.length_cons, List.length_nil]; omega]; simp) h) hs
theorem ne_pair {a b : Addr} {x y x' y' : Str} {t1 t2 t3 t4 : Tok} (ha : IsTup s.heap a #[.str x t1, .str y t2]) (hb : IsTup s.heap b #[.str x' t3, .str y' t4]) (hu : A.units < cLine) (h : Q (.bool (!((x == x') && (y == y')))) s) : wpAny (model prog w) A (compareOp .NotEq (.ref a) (.ref b)) Q E s := by
  have key := SeqAt.RcNeAt.tuples (A := A) (e := fun j => if j = 0 then (x == x') else (y == y')) ha hb hu (fun j h1 h2 => by
    match j, h1, h2 with
    | 0, _, _ => exact SeqAt.EqAt.str_str _ _ _ _
    | 1, _, _ => exact SeqAt.EqAt.str_str _ _ _ _)
  refine key prog w E Q ?_
  have e : (List.range (min 2 2)).all (fun j => if j = 0 then (x == x') else (y == y')) = ((x == x') && (y == y')) := by
    show ((x == x') && ((y == y') && true)) = _
    rw [Bool.and_true]
  show Q (.bool (!((List.range (min 2 2)).all (fun j => if j = 0 then (x == x') else (y == y')) && (2 == 2)))) s
  rw [e]; simpa using h
theorem sliceApplied_2 {sl : Addr} {u : Tok} {Q : Int × Int × Nat → Shared → Prop} (hs : s.heap.IsSliceOf sl .none (.int 2 u) .none) (h : Q (0, 1, 2) s) :
    wpAny (model prog w) A (Builtin.Slice.sliceApplied (.ref sl) (pure 3)) Q E s := by
  obtain ⟨os, hos, hcs, hds⟩ := id hs
  unfold Builtin.Slice.sliceApplied Builtin.Slice.sliceFields
  refine wpAny_bind (wpAny_bind (wpAny_field hos hds (x := .none) rfl (wpAny_bind (wpAny_field hos hds (x := .int 2 u) rfl (wpAny_bind (wpAny_field hos hds (x := .none) rfl (wpAny_pure ?_)))))))
  refine wpAny_bind (slicePart_none ?_)
  show wpAny _ _ (if ((1 : Int) == 0) = true then _ else _) _ _ s
  rw [if_neg (by decide)]
  refine wpAny_bind (slicePart_none (wpAny_bind (slicePart_int (wpAny_bind (wpAny_pure ?_)))))
  exact wpAny_pure h
theorem slice_pair {value slice : PySem.Expr} {t : Addr} {x y z : Value} {u : Tok} (F : Fr h₀ L s.heap m) (N : News h₀ L s.heap news) (ht : IsTup s.heap t #[x, y, z])
    (h : ∀ D h', Fr h₀ L h' m → News h₀ L h' ((D, tupO #[x, y]) :: news) → (∀ p ∈ news, p.1 < D) → Q (.ref D) { s with heap := h' })
    (hs : subscripted slice false (.ref t) (.ref s.heap.objs.size) = operate [.ref s.heap.objs.size, .ref t] (getItem (.ref t) (.ref s.heap.objs.size))) :
    wpAny (model prog w) A (subscriptTail value slice (.ref t) (.ref s.heap.objs.size)) Q E { s with heap := s.heap.push { cls := .type "slice", data := .fields #[.none, .int 2 u, .none] } } := by
  have ht' : IsTup (s.heap.push { cls := .type "slice", data := .fields #[.none, .int 2 u, .none] }) t #[x, y, z] := ht.keeps fun _ _ e => Heap.get?_push_of_some _ e
  have hsl : (s.heap.push { cls := .type "slice", data := .fields #[.none, .int 2 u, .none] }).IsSliceOf s.heap.objs.size .none (.int 2 u) .none := Heap.IsSliceOf.new ..
  refine tail_any (s := { s with heap := s.heap.push { cls := .type "slice", data := .fields #[.none, .int 2 u, .none] } }) ht'.typeIs slot_tuple_getitem.lookup ?_ hs
  obtain ⟨os, hos, hcs, hds⟩ := id hsl
  have hTs : Shared.TypeIs { s with heap := s.heap.push { cls := .type "slice", data := .fields #[.none, .int 2 u, .none] } } (.ref s.heap.objs.size) "slice" := ⟨os, hos, hcs⟩
  unfold getItem
  try with_reducible refine wpAny_holding ?_
  first | refine wpAny_bind (wpAny_pure ?_) | skip
  refine wpAny_bind (wpAny_sequenceKey ht'.typeIs (by decide) ?_)
  have fin : Q (.ref (s.heap.push { cls := .type "slice", data := .fields #[.none, .int 2 u, .none] }).objs.size) { s with heap := (s.heap.push { cls := .type "slice", data := .fields #[.none, .int 2 u, .none] }).push (tupO #[x, y]) } := by
    refine h _ _ ((F.push _).push _) (News.push (F.push _) (N.grown fun _ _ e => Heap.get?_push_of_some _ e) _) fun p hp => ?_
    rw [Heap.size_push]
    exact Nat.lt_succ_of_lt (Heap.lt_size (N p hp).1)
  refine wpAny_bind (wpAny_callSpecial?_slot (name := Str.ofString "__getitem__") ht'.typeIs slot_tuple_getitem
    (wpAny_call_entry slot_tuple_getitem ht'.typeIs entry_tuple_getitem ?_ (args_tuple_getitem _ _)))
  show wpAny _ _ (Builtin.Tuple.tupleItemsOf (.ref t) >>= _) _ _ _
  refine wpAny_bind (tupleItemsOf_ ht' ?_)
  refine wpAny_bind (wpAny_typeOf hTs ?_)
  rw [if_pos (by decide)]
  refine wpAny_bind (sliceApplied_2 hsl ?_)
  have hdrop : sizeOk (.seq #[x, y]) := by show 2 ≤ sizeLine; rw [sizeLine_eq]; omega
  first
    | exact wpAny_bind (m := Builtin.Tuple.tupleExact _) (wpAny_newObj_type (wpAny_pure ⟨_, rfl, wpAny_pure fin⟩) hdrop)
    | exact wpAny_bind (m := Builtin.Tuple.tupleExact _) (wpAny_newObj_type (wpAny_bind (wpAny_pure (wpAny_pure ⟨_, rfl, wpAny_pure fin⟩))) hdrop)
    | exact wpAny_bind (wpAny_bind (m := Builtin.Tuple.tupleExact _) (wpAny_newObj_type (wpAny_pure (wpAny_pure ⟨_, rfl, wpAny_pure fin⟩)) hdrop))
    | exact wpAny_bind (wpAny_bind (m := Builtin.Tuple.tupleExact _) (wpAny_newObj_type (wpAny_pure ⟨_, rfl, wpAny_pure fin⟩) hdrop))
end
theorem words29 : True := by
  k_with "call type:list" => ((k_here; (with_reducible show wpAny _ _ (call (Value.type _) [Value.ref _]) _ _ _); (k_dflt (refine' rows_list (by rfl) (by k_asm) (by k_asm) (by walk_at "S rows") (by assumption) (by omega) ?_; k_whole)); (intro D' c' h' tk' vs' F' N' l1 i'); (try k_lt l1); (revert D' c' h' tk' vs' F' N' l1 i'; intro _ _ _ _ _ _ _ _ _); (try k_sweep)))
  k_with "S pos" => ((simp only [List.length_append, List.length_cons, List.length_nil]; omega))
  k_with "call builtin:max" => ((k_here; (with_reducible show wpAny _ _ (call (Value.builtin _) [Value.ref _]) _ _ _); k_dflt (refine' max_list_N (by rfl) (by k_asm) (by k_asm) (by exact News.isList (by k_asm) (by k_mem)) (by assumption) (by walk_at "S pos") ?_; k_whole); (intro _ _ _ _ _ _ _ _); (try k_sweep)))
  k_with "subscriptTail Name UnaryOp ref int" => ((k_here; (with_reducible show wpAny _ _ (subscriptTail _ _ (Value.ref _) (Value.int (-1) _)) _ _ _); (k_dflt (refine' item_last (by walk_at "S list") (by omega) ?_ (by with_unfolding_all rfl); k_whole)); (try k_sweep)))
  k_with "subscriptTail Subscript" => ((k_here; (with_reducible show wpAny _ _ (subscriptTail _ (PySem.Expr.Slice none (some _) none _) (Value.ref _) (Value.ref _)) _ _ _); (k_dflt (refine' slice_pair (by k_asm) (by k_asm) (by walk_at "S tup") ?_ (by with_unfolding_all rfl); k_whole)); (intro D' h' F' N' l1); (try k_lt l1); (revert D' h' F' N' l1; intro _ _ _ _ _); (try k_sweep)))
  k_with "compareOp Eq ref ref" => ((k_here; (k_dflt (refine' list_eq_nil (by walk_at "S list") (by exact News.isList (by k_asm) (by k_mem)) (by walk_at "S room") ?_; k_whole)); (try k_sweep)))
  k_with "compareOp NotEq ref ref" => ((k_here; (k_dflt (refine' ne_pair (by exact News.isTup (by k_asm) (by k_mem)) (by exact News.isTup (by k_asm) (by k_mem)) (by walk_at "S room") ?_; k_whole)); (try k_sweep)))
  k_with "call ref" => ((k_here; (with_reducible show wpAny _ _ (call (Value.ref 294) [Value.ref _, Value.ref _, Value.int _ _] []) _ _ _); (k_dflt (refine' reading_spec (by walk_at "S here") (by walk_at "S room") (by walk_at "S room") (by walk_at "S list") (by walk_at "S hist") (by assumption) (by walk_at "S rows") (by assumption) (by walk_at "S len") ?_; k_whole)); (intro _ _ _ _ _ _ _ _); (try k_sweep)))
  k_with "call ref" => ((k_here; (with_reducible show wpAny _ _ (call (Value.ref 299) [Value.ref _, Value.str (Op.s _) _, Value.int _ _] []) _ _ _); (k_dflt (refine' starting_spec (by walk_at "S here") (by walk_at "S room") (by walk_at "S room") (by walk_at "S rows") (by assumption) (by walk_at "S len") ?_; k_whole)); (intro _ _ _ _ _ _ _ _); (try k_sweep)))
  k_with "S sumlen" => ((rw [sizeLine_eq]; simp only [rkeys, List.length_map, List.length_cons, List.length_nil]; omega))
  k_with "binaryOp Add ref ref" => ((k_here; (with_reducible show wpAny _ _ (binaryOp _ (Value.ref _) (Value.ref _)) _ _ _); k_dflt (refine' kmk_add_ints (by k_asm) (by k_asm) (by exact News.isList (by k_asm) (by k_mem)) (by exact News.isList (by k_asm) (by k_mem)) (by first | assumption | exact .cons _ _ .nil) (by first | assumption | exact .cons _ _ .nil) ?_ (by walk_at "S sumlen"); k_whole); intro D' ws' h' F' N' l1 hI'; (try k_lt l1); (revert D' ws' h' F' N' l1 hI'; intro _ _ _ _ _ _ _); (try k_sweep)))
  k_with "STEPS0" => (repeat' (first | (k_unfold; (try dsimp only)) | (k_end; kc_close) | walk1 | (dsimp only; walk1) | (leave1; walk_say "STEP leave1"; try dsimp only) | fail "no step"))
  trivial
theorem psplit {α β : Type} {F : α → β → Prop} {l : List α} {m : List β} {b : β} (h : Paired F l (m ++ [b])) : ∃ l' a, l = l' ++ [a] ∧ Paired F l' m ∧ F a b := by
  induction m generalizing l with
  | nil => cases h with | cons a t => cases t; exact ⟨[], _, rfl, .nil, a⟩
  | cons c m ih =>
    cases h with
    | cons a t =>
      obtain ⟨l', x, rfl, p, q⟩ := ih t
      exact ⟨_ :: l', x, rfl, .cons a p, q⟩
section
variable {most M : Int} {hist : List HE} {r : RowsT} {b : Bts} {mode : Mode}
theorem wr_max (h1 : M ∈ [0] ++ rkeys r) (h2 : ∀ a, a ∈ [0] ++ rkeys r → a ≤ M) : max0 r = M := maxL_eq h1 h2
theorem m_reads : ([Str.ofString "input", Str.ofString "i-o"].any fun x => x == mode.s) = mode.reads := by cases mode <;> decide
theorem m_writes : ([Str.ofString "output", Str.ofString "extend"].any fun x => x == mode.s) = mode.writes := by cases mode <;> decide
theorem m_io : (mode.s == Str.ofString "i-o") = decide (mode = .io) := by cases mode <;> decide
theorem cons_ne (a : List Value) (x : Value) : ¬ a ++ [x] = [] := by simp
theorem rd_47 (h : ([Str.ofString "input", Str.ofString "i-o"].any fun x => x == mode.s) = false) : dStatus mode most hist r .read = (s47, 0) := by
  rw [m_reads] at h; simp only [dStatus, h, if_true]
theorem rd_ok (h : ([Str.ofString "input", Str.ofString "i-o"].any fun x => x == mode.s) = true) : dStatus mode most hist r .read = dReading hist r most := by
  rw [m_reads] at h; simp only [dStatus, h, Bool.true_eq_false, if_false]
theorem sta_47 {op : Op} {n : Int} (h : ([Str.ofString "input", Str.ofString "i-o"].any fun x => x == mode.s) = false) : dStatus mode most hist r (.start op n) = (s47, 0) := by
  rw [m_reads] at h; simp only [dStatus, h, if_true]
theorem sta_ok {op : Op} {n : Int} (h : ([Str.ofString "input", Str.ofString "i-o"].any fun x => x == mode.s) = true) : dStatus mode most hist r (.start op n) = dStarting r op n := by
  rw [m_reads] at h; simp only [dStatus, h, Bool.true_eq_false, if_false]
theorem wr_48 (h : ([Str.ofString "output", Str.ofString "extend"].any fun x => x == mode.s) = false) : dStatus mode most hist r (.write b) = (s48, 0) := by
  rw [m_writes] at h; simp only [dStatus, h, if_true]
theorem wr_24 (hm : ([Str.ofString "output", Str.ofString "extend"].any fun x => x == mode.s) = true) (h1 : M ∈ [0] ++ rkeys r) (h2 : ∀ a, a ∈ [0] ++ rkeys r → a ≤ M) (h3 : 0 < most) (h4 : most < M + 1) : dStatus mode most hist r (.write b) = (s24, 0) := by
  rw [m_writes] at hm; simp only [dStatus, hm, wr_max h1 h2, h3, h4, and_self, if_true, Bool.true_eq_false, if_false]
theorem wr_00a (hm : ([Str.ofString "output", Str.ofString "extend"].any fun x => x == mode.s) = true) (h1 : M ∈ [0] ++ rkeys r) (h2 : ∀ a, a ∈ [0] ++ rkeys r → a ≤ M) (h3 : ¬ 0 < most) : dStatus mode most hist r (.write b) = (s00, M + 1) := by
  rw [m_writes] at hm; simp only [dStatus, hm, wr_max h1 h2, h3, false_and, Bool.true_eq_false, if_false]
theorem wr_00b (hm : ([Str.ofString "output", Str.ofString "extend"].any fun x => x == mode.s) = true) (h1 : M ∈ [0] ++ rkeys r) (h2 : ∀ a, a ∈ [0] ++ rkeys r → a ≤ M) (h3 : ¬ most < M + 1) : dStatus mode most hist r (.write b) = (s00, M + 1) := by
  rw [m_writes] at hm; simp only [dStatus, hm, wr_max h1 h2, h3, and_false, Bool.true_eq_false, if_false]
theorem rw_49 (h : (mode.s != Str.ofString "i-o") = true) : dStatus mode most hist r (.rewrite b) = (s49, 0) := by
  have h' : ¬ mode = .io := by intro e; subst e; exact absurd h (by decide)
  simp only [dStatus, ne_eq, h', not_false_eq_true, if_true]
theorem rw_43n (h : (mode.s != Str.ofString "i-o") = false) : dStatus mode most [] r (.rewrite b) = (s43, 0) := by
  have h' : mode = .io := by cases mode <;> first | rfl | exact absurd h (by decide)
  subst h'; rfl
theorem rw_43 {e : HE} (h : (mode.s != Str.ofString "i-o") = false) (g : ((e.w == Str.ofString "read") && (e.s == Str.ofString "00")) = false) : dStatus mode most (hist ++ [e]) r (.rewrite b) = (s43, 0) := by
  have h' : mode = .io := by cases mode <;> first | rfl | exact absurd h (by decide)
  subst h'
  have g' : ¬ (e.w = sRead ∧ e.s = s00) := by rintro ⟨a, c⟩; rw [a, c] at g; exact absurd g (by decide)
  simp only [dStatus, ne_eq, not_true_eq_false, if_false, List.getLast?_append, List.getLast?_singleton, Option.some_or, g']
theorem rw_00 {e : HE} (h : (mode.s != Str.ofString "i-o") = false) (g : ((e.w == Str.ofString "read") && (e.s == Str.ofString "00")) = true) : dStatus mode most (hist ++ [e]) r (.rewrite b) = (s00, e.n) := by
  have h' : mode = .io := by cases mode <;> first | rfl | exact absurd h (by decide)
  subst h'
  have g' : e.w = sRead ∧ e.s = s00 := by simpa using g
  simp only [dStatus, ne_eq, not_true_eq_false, if_false, List.getLast?_append, List.getLast?_singleton, Option.some_or, g', and_self, if_true]
theorem de_49 (h : (mode.s != Str.ofString "i-o") = true) : dStatus mode most hist r .delete = (s49, 0) := by
  have h' : ¬ mode = .io := by intro e; subst e; exact absurd h (by decide)
  simp only [dStatus, ne_eq, h', not_false_eq_true, if_true]
theorem de_43n (h : (mode.s != Str.ofString "i-o") = false) : dStatus mode most [] r .delete = (s43, 0) := by
  have h' : mode = .io := by cases mode <;> first | rfl | exact absurd h (by decide)
  subst h'; rfl
theorem de_43 {e : HE} (h : (mode.s != Str.ofString "i-o") = false) (g : ((e.w == Str.ofString "read") && (e.s == Str.ofString "00")) = false) : dStatus mode most (hist ++ [e]) r .delete = (s43, 0) := by
  have h' : mode = .io := by cases mode <;> first | rfl | exact absurd h (by decide)
  subst h'
  have g' : ¬ (e.w = sRead ∧ e.s = s00) := by rintro ⟨a, c⟩; rw [a, c] at g; exact absurd g (by decide)
  simp only [dStatus, ne_eq, not_true_eq_false, if_false, List.getLast?_append, List.getLast?_singleton, Option.some_or, g']
theorem de_00 {e : HE} (h : (mode.s != Str.ofString "i-o") = false) (g : ((e.w == Str.ofString "read") && (e.s == Str.ofString "00")) = true) : dStatus mode most (hist ++ [e]) r .delete = (s00, e.n) := by
  have h' : mode = .io := by cases mode <;> first | rfl | exact absurd h (by decide)
  subst h'
  have g' : e.w = sRead ∧ e.s = s00 := by simpa using g
  simp only [dStatus, ne_eq, not_true_eq_false, if_false, List.getLast?_append, List.getLast?_singleton, Option.some_or, g', and_self, if_true]
end
section
set_option maxHeartbeats 8000000 in
noncomputable def status_spec_a_pre : (Pa : (World) → (ExcName → Option Value) → (Str → Option Value) → (Str → Option Value) → (Heap) → (Heap) → (List Env) → (Env) → (Addr) → (Str → Option Value) → (List (Addr × Obj)) → (Shared) → (Nat) → (Nat) → (Option (List Code)) → (Value → Shared → Prop) → (Value → Shared → Prop) → (Mode) → (Addr) → (Addr) → (Addr) → (RowsT) → (Int) → (Tok) → (Tok) → (Heap) → (Addr) → (Heap) → (Nat) → Prop) ×' ((∀ w mean mg mb base h₀ outer env L m news s dp un gd Q E mode lh d td r most tmo tm g L9 h9 tk9, Pa w mean mg mb base h₀ outer env L m news s dp un gd Q E mode lh d td r most tmo tm g L9 h9 tk9) → (∀ (w : World) (mean : ExcName → Option Value) (mg mb : Str → Option Value) (A₀ : Around) (base h₀ : Heap) (outer : List Env) (env : Env) (L : Addr) (m : Str → Option Value) (news : List (Addr × Obj)) (s : Shared) (dp un : Nat) (gd : Option (List Code)) (Q E : Value → Shared → Prop) (H : Here w mean mg mb A₀ base h₀ outer env L m news s.heap) (hdp : dp + 60 < recursionLimit) (hu : un + 700 < cLine) (mode : Mode) (lh d td : Addr) (vs dvs : List Value) (hist : List HE) (r : RowsT) (most : Int) (deed : Deed) (tmo tm : Tok) (hl : s.heap.IsList lh vs.toArray) (hp : Paired (HistAt s.heap) vs hist) (hsz : hist.length ≤ 64) (R : RowsAt w s.heap d r) (lo : (d == sysModules) = false) (hr : r.length < 64) (ht : IsTup s.heap td dvs.toArray) (hv : DeedI deed dvs) (ret : ∀ a h' tk' t1 t2, Fr h₀ L h' m → News h₀ L h' ((a, tupO #[.str (dStatus mode most hist r deed).1 t1, .int (dStatus mode most hist r deed).2 t2]) :: news) → (∀ p ∈ news, p.1 ≠ a) → Q (.ref a) { s with heap := h', toks := tk' }), wpAny (model PySem.Challenge.rw_og0083_01.row.prog w) (aro dp un gd (env :: outer)) (call (.ref 306) [.str mode.s tmo, .int most tm, .ref lh, .ref d, .ref td]) Q E s)) := by
  refine' ⟨_, fun hPa => ?_⟩
  rotate_left 1
  · skip
    intro w mean mg mb A₀ base h₀ outer env L m news s dp un gd Q E H hdp hu mode lh d td vs dvs hist r most deed tmo tm hl hp hsz R lo hr ht hv ret
    refine H.cutK (dp := dp) (un := un) (gd := gd) (muts := []) (by simp) (fun g C st' B X T fr kp ns hN => ?_)
    have up : ∀ b o, s.heap.get? b = some o → g.get? b = some o := fun b o e => C.rest b o e (by simp)
    replace hl := hl.at fun o e => up _ o e
    replace hp := pimp (fun _ _ x => HistAt.keeps up x) hp
    replace R := R.keeps up
    have hg : IsTup g td dvs.toArray := by obtain ⟨o, ho, r⟩ := ht; exact ⟨o, up _ _ ho, r⟩
    have hvl := hp.length
    clear H up ht
    (revert C T; revert X; k_fill; intro X C T)
    refine wpAny_call ?_
    walk_at "S enter"
    rename_i L9 h9 tk9 F9 N9 l9
    k_sweep
    revert l9; revert N9; revert F9; revert T; revert C; revert X; revert hvl; revert hg; revert R; revert hp; revert hl; revert hN; revert ns; revert kp; revert fr; revert B; revert st'; revert ret; revert hv; revert hr; revert lo; revert hsz; revert deed; revert hist; revert dvs; revert vs; revert hu; revert hdp
    exact hPa w mean mg mb base h₀ outer env L m news s dp un gd Q E mode lh d td r most tmo tm g L9 h9 tk9
noncomputable def status_spec_a_v : (World) × (ExcName → Option Value) × (Str → Option Value) × (Str → Option Value) × (Heap) × (Heap) × (List Env) × (Env) × (Addr) × (Str → Option Value) × (List (Addr × Obj)) × (Shared) × (Nat) × (Nat) × (Option (List Code)) × (Value → Shared → Prop) × (Value → Shared → Prop) × (Mode) × (Addr) × (Addr) × (Addr) × (RowsT) × (Int) × (Tok) × (Tok) × (Heap) × (Addr) × (Heap) × (Nat) := @Classical.epsilon _ ⟨(w0, (fun _ => none), (fun _ => none), (fun _ => none), {}, {}, [], default, 0, (fun _ => none), [], {}, 0, 0, none, (fun _ => (fun _ => True)), (fun _ => (fun _ => True)), .inp, 0, 0, 0, [], 0, 0, 0, {}, 0, {}, 0)⟩ fun v => ¬ status_spec_a_pre.1 v.1 v.2.1 v.2.2.1 v.2.2.2.1 v.2.2.2.2.1 v.2.2.2.2.2.1 v.2.2.2.2.2.2.1 v.2.2.2.2.2.2.2.1 v.2.2.2.2.2.2.2.2.1 v.2.2.2.2.2.2.2.2.2.1 v.2.2.2.2.2.2.2.2.2.2.1 v.2.2.2.2.2.2.2.2.2.2.2.1 v.2.2.2.2.2.2.2.2.2.2.2.2.1 v.2.2.2.2.2.2.2.2.2.2.2.2.2.1 v.2.2.2.2.2.2.2.2.2.2.2.2.2.2.1 v.2.2.2.2.2.2.2.2.2.2.2.2.2.2.2.1 v.2.2.2.2.2.2.2.2.2.2.2.2.2.2.2.2.1 v.2.2.2.2.2.2.2.2.2.2.2.2.2.2.2.2.2.1 v.2.2.2.2.2.2.2.2.2.2.2.2.2.2.2.2.2.2.1 v.2.2.2.2.2.2.2.2.2.2.2.2.2.2.2.2.2.2.2.1 v.2.2.2.2.2.2.2.2.2.2.2.2.2.2.2.2.2.2.2.2.1 v.2.2.2.2.2.2.2.2.2.2.2.2.2.2.2.2.2.2.2.2.2.1 v.2.2.2.2.2.2.2.2.2.2.2.2.2.2.2.2.2.2.2.2.2.2.1 v.2.2.2.2.2.2.2.2.2.2.2.2.2.2.2.2.2.2.2.2.2.2.2.1 v.2.2.2.2.2.2.2.2.2.2.2.2.2.2.2.2.2.2.2.2.2.2.2.2.1 v.2.2.2.2.2.2.2.2.2.2.2.2.2.2.2.2.2.2.2.2.2.2.2.2.2.1 v.2.2.2.2.2.2.2.2.2.2.2.2.2.2.2.2.2.2.2.2.2.2.2.2.2.2.1 v.2.2.2.2.2.2.2.2.2.2.2.2.2.2.2.2.2.2.2.2.2.2.2.2.2.2.2.1 v.2.2.2.2.2.2.2.2.2.2.2.2.2.2.2.2.2.2.2.2.2.2.2.2.2.2.2.2
namespace status_spec_a
noncomputable def w : World := status_spec_a_v.1
noncomputable def mean : ExcName → Option Value := status_spec_a_v.2.1
noncomputable def mg : Str → Option Value := status_spec_a_v.2.2.1
noncomputable def mb : Str → Option Value := status_spec_a_v.2.2.2.1
noncomputable def base : Heap := status_spec_a_v.2.2.2.2.1
noncomputable def h₀ : Heap := status_spec_a_v.2.2.2.2.2.1
noncomputable def outer : List Env := status_spec_a_v.2.2.2.2.2.2.1
noncomputable def env : Env := status_spec_a_v.2.2.2.2.2.2.2.1
noncomputable def L : Addr := status_spec_a_v.2.2.2.2.2.2.2.2.1
noncomputable def m : Str → Option Value := status_spec_a_v.2.2.2.2.2.2.2.2.2.1
noncomputable def news : List (Addr × Obj) := status_spec_a_v.2.2.2.2.2.2.2.2.2.2.1
noncomputable def s : Shared := status_spec_a_v.2.2.2.2.2.2.2.2.2.2.2.1
noncomputable def dp : Nat := status_spec_a_v.2.2.2.2.2.2.2.2.2.2.2.2.1
noncomputable def un : Nat := status_spec_a_v.2.2.2.2.2.2.2.2.2.2.2.2.2.1
noncomputable def gd : Option (List Code) := status_spec_a_v.2.2.2.2.2.2.2.2.2.2.2.2.2.2.1
noncomputable def Q : Value → Shared → Prop := status_spec_a_v.2.2.2.2.2.2.2.2.2.2.2.2.2.2.2.1
noncomputable def E : Value → Shared → Prop := status_spec_a_v.2.2.2.2.2.2.2.2.2.2.2.2.2.2.2.2.1
noncomputable def mode : Mode := status_spec_a_v.2.2.2.2.2.2.2.2.2.2.2.2.2.2.2.2.2.1
noncomputable def lh : Addr := status_spec_a_v.2.2.2.2.2.2.2.2.2.2.2.2.2.2.2.2.2.2.1
noncomputable def d : Addr := status_spec_a_v.2.2.2.2.2.2.2.2.2.2.2.2.2.2.2.2.2.2.2.1
noncomputable def td : Addr := status_spec_a_v.2.2.2.2.2.2.2.2.2.2.2.2.2.2.2.2.2.2.2.2.1
noncomputable def r : RowsT := status_spec_a_v.2.2.2.2.2.2.2.2.2.2.2.2.2.2.2.2.2.2.2.2.2.1
noncomputable def most : Int := status_spec_a_v.2.2.2.2.2.2.2.2.2.2.2.2.2.2.2.2.2.2.2.2.2.2.1
noncomputable def tmo : Tok := status_spec_a_v.2.2.2.2.2.2.2.2.2.2.2.2.2.2.2.2.2.2.2.2.2.2.2.1
noncomputable def tm : Tok := status_spec_a_v.2.2.2.2.2.2.2.2.2.2.2.2.2.2.2.2.2.2.2.2.2.2.2.2.1
noncomputable def g : Heap := status_spec_a_v.2.2.2.2.2.2.2.2.2.2.2.2.2.2.2.2.2.2.2.2.2.2.2.2.2.1
noncomputable def L9 : Addr := status_spec_a_v.2.2.2.2.2.2.2.2.2.2.2.2.2.2.2.2.2.2.2.2.2.2.2.2.2.2.1
noncomputable def h9 : Heap := status_spec_a_v.2.2.2.2.2.2.2.2.2.2.2.2.2.2.2.2.2.2.2.2.2.2.2.2.2.2.2.1
noncomputable def tk9 : Nat := status_spec_a_v.2.2.2.2.2.2.2.2.2.2.2.2.2.2.2.2.2.2.2.2.2.2.2.2.2.2.2.2
set_option maxHeartbeats 8000000 in
theorem walk : status_spec_a_pre.1 w mean mg mb base h₀ outer env L m news s dp un gd Q E mode lh d td r most tmo tm g L9 h9 tk9 := by
  delta status_spec_a_pre
  dsimp only
  intro hdp hu vs dvs hist deed hsz lo hr hv ret st' B fr kp ns hN hl hp R hg hvl X C T F9 N9 l9
  have fin : ∀ a h' tk' L' m' led t1 t2 rs rn, Fr g L' h' m' → News g L' h' led → (a, tupO #[.str rs t1, .int rn t2]) ∈ led → dStatus mode most hist r deed = (rs, rn) → Q (.ref a) { s with heap := h', toks := tk' } := by
    intro a h' tk' L' m' led t1 t2 rs rn F' N' m1 e
    have key := ret a h' tk' t1 t2 (fr _ F'.keep)
    rw [e] at key
    refine key (fun p hp => ?_) (cut_ne C hN (N' _ m1).2.2 (by simp))
    rcases List.mem_cons.mp hp with rfl | hp
    · exact ns _ _ ((aft_of F' N').sub (outs := [(a, tupO #[.str rs t1, .int rn t2])]) (by simp [m1])) _ (.head _)
    · exact kp _ p F'.keep hp (by simp)
  cases hv
  · walk_at "STEPS0"
    all_goals first
      | exact fin _ _ _ _ _ _ _ _ _ _ (by assumption) (by assumption) (by k_mem) (rd_ok (by assumption))
      | exact fin _ _ _ _ _ _ _ _ _ _ (by assumption) (by assumption) (by k_mem) (rd_47 (by assumption))
  · walk_at "STEPS0"
    all_goals first
      | exact fin _ _ _ _ _ _ _ _ _ _ (by assumption) (by assumption) (by k_mem) (sta_ok (by assumption))
      | exact fin _ _ _ _ _ _ _ _ _ _ (by assumption) (by assumption) (by k_mem) (sta_47 (by assumption))
  · walk_at "STEPS0"
    all_goals first
      | exact fin _ _ _ _ _ _ _ _ _ _ (by assumption) (by assumption) (by k_mem) (wr_48 (by assumption))
      | exact fin _ _ _ _ _ _ _ _ _ _ (by assumption) (by assumption) (by k_mem) (wr_24 (by assumption) (by assumption) (by assumption) (by assumption) (by assumption))
      | exact fin _ _ _ _ _ _ _ _ _ _ (by assumption) (by assumption) (by k_mem) (wr_00a (by assumption) (by assumption) (by assumption) (by assumption))
      | exact fin _ _ _ _ _ _ _ _ _ _ (by assumption) (by assumption) (by k_mem) (wr_00b (by assumption) (by assumption) (by assumption) (by assumption))
  · rcases hist.eq_nil_or_concat with rfl | ⟨h1, e, rfl⟩
    · cases hp
      walk_at "STEPS0"
      all_goals first
        | exact fin _ _ _ _ _ _ _ _ _ _ (by assumption) (by assumption) (by k_mem) (rw_49 (by assumption))
        | exact fin _ _ _ _ _ _ _ _ _ _ (by assumption) (by assumption) (by k_mem) (rw_43n (by assumption))
        | exact absurd rfl (by assumption)
    · rw [List.concat_eq_append] at *
      simp only [List.length_append, List.length_cons, List.length_nil] at hsz
      obtain ⟨vs1, v, rfl, hp1, hv1⟩ := psplit hp
      obtain ⟨ta, t1, u1, n1, rfl, hta⟩ := hv1
      have hvl1 := hp1.length
      walk_at "STEPS0"
      all_goals first
        | exact absurd (by assumption) (cons_ne _ _)
        | exact fin _ _ _ _ _ _ _ _ _ _ (by assumption) (by assumption) (by k_mem) (rw_49 (by assumption))
        | exact fin _ _ _ _ _ _ _ _ _ _ (by assumption) (by assumption) (by k_mem) (rw_43 (by assumption) (by assumption))
        | exact fin _ _ _ _ _ _ _ _ _ _ (by assumption) (by assumption) (by k_mem) (rw_00 (by assumption) (by assumption))
  · rcases hist.eq_nil_or_concat with rfl | ⟨h1, e, rfl⟩
    · cases hp
      walk_at "STEPS0"
      all_goals first
        | exact fin _ _ _ _ _ _ _ _ _ _ (by assumption) (by assumption) (by k_mem) (de_49 (by assumption))
        | exact fin _ _ _ _ _ _ _ _ _ _ (by assumption) (by assumption) (by k_mem) (de_43n (by assumption))
        | exact absurd rfl (by assumption)
    · rw [List.concat_eq_append] at *
      simp only [List.length_append, List.length_cons, List.length_nil] at hsz
      obtain ⟨vs1, v, rfl, hp1, hv1⟩ := psplit hp
      obtain ⟨ta, t1, u1, n1, rfl, hta⟩ := hv1
      have hvl1 := hp1.length
      walk_at "STEPS0"
      all_goals first
        | exact absurd (by assumption) (cons_ne _ _)
        | exact fin _ _ _ _ _ _ _ _ _ _ (by assumption) (by assumption) (by k_mem) (de_49 (by assumption))
        | exact fin _ _ _ _ _ _ _ _ _ _ (by assumption) (by assumption) (by k_mem) (de_43 (by assumption) (by assumption))
        | exact fin _ _ _ _ _ _ _ _ _ _ (by assumption) (by assumption) (by k_mem) (de_00 (by assumption) (by assumption))
  · rcases hist.eq_nil_or_concat with rfl | ⟨h1, e, rfl⟩
    · cases hp
      walk_at "STEPS0"
      all_goals first
        | exact fin _ _ _ _ _ _ _ _ _ _ (by assumption) (by assumption) (by k_mem) (de_49 (by assumption))
        | exact fin _ _ _ _ _ _ _ _ _ _ (by assumption) (by assumption) (by k_mem) (de_43n (by assumption))
        | exact absurd rfl (by assumption)
    · rw [List.concat_eq_append] at *
      simp only [List.length_append, List.length_cons, List.length_nil] at hsz
      obtain ⟨vs1, v, rfl, hp1, hv1⟩ := psplit hp
      obtain ⟨ta, t1, u1, n1, rfl, hta⟩ := hv1
      have hvl1 := hp1.length
      walk_at "STEPS0"
      all_goals first
        | exact absurd (by assumption) (cons_ne _ _)
        | exact fin _ _ _ _ _ _ _ _ _ _ (by assumption) (by assumption) (by k_mem) (de_49 (by assumption))
        | exact fin _ _ _ _ _ _ _ _ _ _ (by assumption) (by assumption) (by k_mem) (de_43 (by assumption) (by assumption))
        | exact fin _ _ _ _ _ _ _ _ _ _ (by assumption) (by assumption) (by k_mem) (de_00 (by assumption) (by assumption))
end status_spec_a
theorem status_spec_a_all : ∀ (w' : World) (mean' : ExcName → Option Value) (mg' : Str → Option Value) (mb' : Str → Option Value) (base' : Heap) (h₀' : Heap) (outer' : List Env) (env' : Env) (L' : Addr) (m' : Str → Option Value) (news' : List (Addr × Obj)) (s' : Shared) (dp' : Nat) (un' : Nat) (gd' : Option (List Code)) (Q' : Value → Shared → Prop) (E' : Value → Shared → Prop) (mode' : Mode) (lh' : Addr) (d' : Addr) (td' : Addr) (r' : RowsT) (most' : Int) (tmo' : Tok) (tm' : Tok) (g' : Heap) (L9' : Addr) (h9' : Heap) (tk9' : Nat), status_spec_a_pre.1 w' mean' mg' mb' base' h₀' outer' env' L' m' news' s' dp' un' gd' Q' E' mode' lh' d' td' r' most' tmo' tm' g' L9' h9' tk9' := by
  intro w' mean' mg' mb' base' h₀' outer' env' L' m' news' s' dp' un' gd' Q' E' mode' lh' d' td' r' most' tmo' tm' g' L9' h9' tk9'
  have hw := status_spec_a.walk
  with_unfolding_all exact hk (α := (World) × (ExcName → Option Value) × (Str → Option Value) × (Str → Option Value) × (Heap) × (Heap) × (List Env) × (Env) × (Addr) × (Str → Option Value) × (List (Addr × Obj)) × (Shared) × (Nat) × (Nat) × (Option (List Code)) × (Value → Shared → Prop) × (Value → Shared → Prop) × (Mode) × (Addr) × (Addr) × (Addr) × (RowsT) × (Int) × (Tok) × (Tok) × (Heap) × (Addr) × (Heap) × (Nat)) (p := fun v => status_spec_a_pre.1 v.1 v.2.1 v.2.2.1 v.2.2.2.1 v.2.2.2.2.1 v.2.2.2.2.2.1 v.2.2.2.2.2.2.1 v.2.2.2.2.2.2.2.1 v.2.2.2.2.2.2.2.2.1 v.2.2.2.2.2.2.2.2.2.1 v.2.2.2.2.2.2.2.2.2.2.1 v.2.2.2.2.2.2.2.2.2.2.2.1 v.2.2.2.2.2.2.2.2.2.2.2.2.1 v.2.2.2.2.2.2.2.2.2.2.2.2.2.1 v.2.2.2.2.2.2.2.2.2.2.2.2.2.2.1 v.2.2.2.2.2.2.2.2.2.2.2.2.2.2.2.1 v.2.2.2.2.2.2.2.2.2.2.2.2.2.2.2.2.1 v.2.2.2.2.2.2.2.2.2.2.2.2.2.2.2.2.2.1 v.2.2.2.2.2.2.2.2.2.2.2.2.2.2.2.2.2.2.1 v.2.2.2.2.2.2.2.2.2.2.2.2.2.2.2.2.2.2.2.1 v.2.2.2.2.2.2.2.2.2.2.2.2.2.2.2.2.2.2.2.2.1 v.2.2.2.2.2.2.2.2.2.2.2.2.2.2.2.2.2.2.2.2.2.1 v.2.2.2.2.2.2.2.2.2.2.2.2.2.2.2.2.2.2.2.2.2.2.1 v.2.2.2.2.2.2.2.2.2.2.2.2.2.2.2.2.2.2.2.2.2.2.2.1 v.2.2.2.2.2.2.2.2.2.2.2.2.2.2.2.2.2.2.2.2.2.2.2.2.1 v.2.2.2.2.2.2.2.2.2.2.2.2.2.2.2.2.2.2.2.2.2.2.2.2.2.1 v.2.2.2.2.2.2.2.2.2.2.2.2.2.2.2.2.2.2.2.2.2.2.2.2.2.2.1 v.2.2.2.2.2.2.2.2.2.2.2.2.2.2.2.2.2.2.2.2.2.2.2.2.2.2.2.1 v.2.2.2.2.2.2.2.2.2.2.2.2.2.2.2.2.2.2.2.2.2.2.2.2.2.2.2.2) hw (w', mean', mg', mb', base', h₀', outer', env', L', m', news', s', dp', un', gd', Q', E', mode', lh', d', td', r', most', tmo', tm', g', L9', h9', tk9')
theorem status_spec {w : World} {mean : ExcName → Option Value} {mg mb : Str → Option Value} {A₀ : Around} {base h₀ : Heap} {outer : List Env} {env : Env} {L : Addr} {m : Str → Option Value} {news : List (Addr × Obj)} {s : Shared} {dp un : Nat} {gd : Option (List Code)} {Q E : Value → Shared → Prop} (H : Here w mean mg mb A₀ base h₀ outer env L m news s.heap) (hdp : dp + 60 < recursionLimit) (hu : un + 700 < cLine) {mode : Mode} {lh d td : Addr} {vs dvs : List Value} {hist : List HE} {r : RowsT} {most : Int} {deed : Deed} {tmo tm : Tok} (hl : s.heap.IsList lh vs.toArray) (hp : Paired (HistAt s.heap) vs hist) (hsz : hist.length ≤ 64)
    (R : RowsAt w s.heap d r) (lo : (d == sysModules) = false) (hr : r.length < 64) (ht : IsTup s.heap td dvs.toArray) (hv : DeedI deed dvs)
    (ret : ∀ a h' tk' t1 t2, Fr h₀ L h' m → News h₀ L h' ((a, tupO #[.str (dStatus mode most hist r deed).1 t1, .int (dStatus mode most hist r deed).2 t2]) :: news) → (∀ p ∈ news, p.1 ≠ a) → Q (.ref a) { s with heap := h', toks := tk' }) :
    wpAny (model PySem.Challenge.rw_og0083_01.row.prog w) (aro dp un gd (env :: outer)) (call (.ref 306) [.str mode.s tmo, .int most tm, .ref lh, .ref d, .ref td]) Q E s := by
  exact status_spec_a_pre.2 status_spec_a_all w mean mg mb A₀ base h₀ outer env L m news s dp un gd Q E H hdp hu mode lh d td vs dvs hist r most deed tmo tm hl hp hsz R lo hr ht hv ret
end
/-- a turn's end of a loop that turns the ledger's first part -/
noncomputable def FEnd {σ : Type} (h₀ : Heap) (L : Addr) (I : Addr) (oI : Obj) (nw : σ → List (Addr × Obj)) (adr : List Addr) (tail : List (Addr × Obj)) (R : (Str → Option Value) → σ → List (Addr × Obj) → Prop) (s₁ s₂ : Shared) : Prop :=
  ∃ h' tk' m' t' c', s₂ = { s₁ with heap := h', toks := tk' } ∧ Fr h₀ L h' m' ∧ News h₀ L h' (t' ++ ((I, oI) :: (nw c' ++ tail))) ∧ OwnOff t' (I :: adr) ∧ R m' c' (t' ++ tail)
noncomputable def FPost {σ : Type} (h₀ : Heap) (L : Addr) (I : Addr) (oI : Obj) (nw : σ → List (Addr × Obj)) (adr : List Addr) (tail : List (Addr × Obj)) (R : (Str → Option Value) → σ → List (Addr × Obj) → Prop) (s₁ : Shared) (Q : Flow → Shared → Prop) (f : Flow) (s₂ : Shared) : Prop :=
  match f with
  | .ret v => Q (.ret v) s₂
  | .brk => Q .next s₂
  | _ => FEnd h₀ L I oI nw adr tail R s₁ s₂
theorem FEnd.intro {σ : Type} {h₀ : Heap} {L : Addr} {I : Addr} {oI : Obj} {nw : σ → List (Addr × Obj)} {adr : List Addr} {tail : List (Addr × Obj)} {R : (Str → Option Value) → σ → List (Addr × Obj) → Prop} {s₁ : Shared} {h' : Heap} {tk : Nat} {m' : Str → Option Value} {all : List (Addr × Obj)} (t' : List (Addr × Obj)) (c' : σ)
    (F : Fr h₀ L h' m') (N : News h₀ L h' all) (sub : ∀ p ∈ t' ++ ((I, oI) :: (nw c' ++ tail)), p ∈ all) (o : OwnOff t' (I :: adr)) (r : R m' c' (t' ++ tail)) : FEnd h₀ L I oI nw adr tail R s₁ { s₁ with heap := h', toks := tk } :=
  ⟨h', tk, m', t', c', rfl, F, fun p hp => N p (sub p hp), o, r⟩
section
variable {prog : Program} {w : World} {A : Around} {E : Value → Shared → Prop} {s : Shared} {env : Env} {h₀ : Heap} {target : Expr} {body : List Stmt} {Q : Flow → Shared → Prop} {m : Str → Option Value}

theorem turns_SS {σ : Type} {I : Addr} {fp : List Addr} {n : Nat} {P : Nat → Value → Prop} {St : Nat → Heap → Prop} (nw : σ → List (Addr × Obj)) (adr : List Addr) (c₀ : σ) (hadr : ∀ c, (nw c).map (·.1) = adr)
    (W : Walks prog w A I fp [I] n P St) (hgo : ∀ i v (s : Shared) (Q : Unit → Shared → Prop) (E : Value → Shared → Prop), St i s.heap → Q () s → wpAny (model prog w) A (letOwnedTupleGo target (.ref I) v) Q E s)
    (hLf : env.locals ∉ fp) (hI : h₀.get? I = none) (hfp : ∀ b ∈ fp, b = I ∨ ∃ o, h₀.get? b = some o) (hlive : ∀ i h, St i h → ∃ o, h.get? I = some o)
    (hst : St 0 s.heap) (F : Fr h₀ env.locals s.heap m) (N : News h₀ env.locals s.heap (nw c₀)) (hoff : ∀ p ∈ nw c₀, p.1 ≠ I)
    (G : Nat → (Str → Option Value) → σ → List (Addr × Obj) → Prop) (g0 : G 0 m c₀ [])
    (turn : ∀ i v m₁ c tail oI h tk, i < n → P i v → G i m₁ c tail → Fr h₀ env.locals h m₁ → News h₀ env.locals h ((I, oI) :: (nw c ++ tail)) → Off1 I (nw c) → OwnOff tail (I :: adr) →
      wpAny (model prog w) A (assign target env v) (fun _ s₃ => wpAny (model prog w) A (execs body env) (FPost h₀ env.locals I oI nw adr tail (G (i + 1)) { s with heap := h, toks := tk } Q) E s₃) E { s with heap := h, toks := tk })
    (done : ∀ m₁ c tail h tk, G n m₁ c tail → OwnOff tail adr → Fr h₀ env.locals h m₁ → News h₀ env.locals h (nw c ++ tail) → Q .next { s with heap := h, toks := tk }) :
    TurnsAt prog w A h₀ env target body Q E (.ref I) s := by
  have hIf : I ∈ fp := W.sub I (.head _)
  have hadI : I ∉ adr := fun h => by
    rw [← hadr c₀] at h
    obtain ⟨p, hp, e⟩ := List.mem_map.mp h
    exact hoff p hp e
  refine ⟨I, fp, [I], n, _, _, St, m, nw c₀, fun i m nx => ∃ c tail, nx = nw c ++ tail ∧ OwnOff tail (I :: adr) ∧ G i m c tail, rfl, KTurns.ofWalks W hgo, hLf, (fun b hb => by rw [List.mem_singleton.mp hb]; exact hI), (fun p hp hq => hoff p hp (List.mem_singleton.mp hq)), hst, F, N, ⟨c₀, [], by simp, own_nil, g0⟩, ?_, ?_⟩
  · rintro i v m₁ _ h tk own hin hP ⟨c, tail, rfl, o, hG⟩ hnw hof2 hget hall hst' F₁ N₁
    obtain ⟨oI, hoI⟩ := hlive _ _ hst'
    have mI : (I, oI) ∈ own := hall I hIf hI oI hoI
    have isI : ∀ p ∈ own, p = (I, oI) := fun p hp => by
      have e : p.1 = I := by
        rcases hfp _ (hof2 p hp) with e | ⟨o', ho'⟩
        · exact e
        · have := (N₁ p (List.mem_append_left _ hp)).2.2; rw [ho'] at this; cases this
      have e2 := hget p hp
      rw [e, hoI] at e2
      exact Prod.ext e (Option.some.inj e2).symm
    have ofc : ∀ c, ∀ p ∈ nw c, p.1 ≠ I := fun c p hp e => hadI (by rw [← hadr c]; exact e ▸ List.mem_map_of_mem hp)
    refine wpAny_mono (turn i v m₁ c tail oI h tk hin hP hG F₁ (fun p hp => ?_) (off1_of (ofc c)) o) (fun _ s₃ h₃ => wpAny_mono h₃ (fun f s₄ h₄ => ?_) fun _ _ e => e) fun _ _ e => e
    · rcases List.mem_cons.mp hp with rfl | hp
      · exact N₁ _ (List.mem_append_left _ mI)
      · exact N₁ _ (List.mem_append_right _ hp)
    have fin : FEnd h₀ env.locals I oI nw adr tail (G (i + 1)) { s with heap := h, toks := tk } s₄ → LoopStepU h₀ env.locals [I] own (fun m nx => ∃ c tail, nx = nw c ++ tail ∧ OwnOff tail (I :: adr) ∧ G (i + 1) m c tail) { s with heap := h, toks := tk } .next s₄ := by
      rintro ⟨h', tk', m', t', c', e, F', N', o', hG'⟩
      refine ⟨rfl, h', tk', m', nw c' ++ (t' ++ tail), e, F', fun p hp => ?_, fun p hp hq => ?_, c', t' ++ tail, rfl, own_app o' o, hG'⟩
      · refine N' p ?_
        rcases List.mem_append.mp hp with hp | hp
        · rw [isI p hp]; simp
        · simp only [List.mem_append, List.mem_cons] at hp ⊢
          grind
      · have hq := List.mem_singleton.mp hq
        rcases List.mem_append.mp hp with hp | hp
        · exact ofc c' p hp hq
        rcases List.mem_append.mp hp with hp | hp
        · exact o' p hp I (.head _) hq
        · exact o p hp I (.head _) hq
    cases f with
    | ret v => exact .ret h₄
    | brk => exact .brk h₄
    | next => exact .next (fin h₄)
    | cont => exact .cont (fin h₄)
  · rintro h' tk m' _ F' N' _ ⟨c, tail, rfl, o, hG⟩
    exact done m' c tail h' tk hG (own_sub o fun b hb => List.mem_cons_of_mem _ hb) F' N'

/-- for over a list or tuple of the base -/
theorem for_list {σ : Type} {l : Addr} {items : Array Value} (nw : σ → List (Addr × Obj)) (adr : List Addr) (c₀ : σ) (hadr : ∀ c, (nw c).map (·.1) = adr) (hh : A.handled = none) (hl : h₀.IsList l items ∨ h₀.IsTuple l items)
    (F : Fr h₀ env.locals s.heap m) (N : News h₀ env.locals s.heap (nw c₀)) (G : Nat → (Str → Option Value) → σ → List (Addr × Obj) → Prop) (g0 : G 0 m c₀ [])
    (turn : ∀ i v m₁ c tail I oI h tk, items[i]? = some v → G i m₁ c tail → Fr h₀ env.locals h m₁ → News h₀ env.locals h ((I, oI) :: (nw c ++ tail)) → Off1 I (nw c) → OwnOff tail (I :: adr) →
      wpAny (model prog w) A (assign target env v) (fun _ s₃ => wpAny (model prog w) A (execs body env) (FPost h₀ env.locals I oI nw adr tail (G (i + 1)) { s with heap := h, toks := tk } Q) E s₃) E { s with heap := h, toks := tk })
    (done : ∀ m₁ c tail h tk, G items.size m₁ c tail → OwnOff tail adr → Fr h₀ env.locals h m₁ → News h₀ env.locals h (nw c ++ tail) → Q .next { s with heap := h, toks := tk }) :
    wpAny (model prog w) A (pyIter (.ref l)) (fun it s₂ => TurnsAt prog w A h₀ env target body Q E it s₂) E s := by
  have hL₀ : h₀.get? env.locals = none := Heap.get?_none_of_le F.above
  rcases hl with hl | hl
  · have hls : s.heap.IsList l items := hl.at fun o e => F.keep _ _ e
    obtain ⟨ol, hol, _⟩ := id hl
    have hlt : l < s.heap.objs.size := Heap.lt_size (F.keep _ _ hol)
    refine wpAny_pyIter_list hls ?_
    refine turns_SS (s := { s with heap := s.heap.push _ }) nw adr c₀ hadr (Walks.list hh s.heap.objs.size l (Nat.ne_of_lt hlt) items) (fun i v s' Q' E' st hQ' => letGo_listiter st.1 hQ') ?_ (next_is_new F) (fun b hb => ?_) (fun i h st => ?_)
      ⟨⟨_, Heap.get?_push_size _ rfl, rfl, rfl⟩, hls.push _⟩ (F.push _) (fun p hp => ⟨Heap.get?_push_of_some _ (N p hp).1, (N p hp).2⟩) (fun p hp e => absurd (Heap.lt_size (N p hp).1) (by rw [e]; exact Nat.lt_irrefl _)) G g0 (fun i v m₁ c tail oI h tk _ hP hJ F₁ N₁ o1 o2 => turn i v m₁ c tail _ oI h tk hP hJ F₁ N₁ o1 o2) done
    · intro hm
      rcases List.mem_cons.mp hm with e | hm
      · exact absurd F.ns.lt (by rw [e]; exact Nat.lt_irrefl _)
      · rw [List.mem_singleton.mp hm, hol] at hL₀; cases hL₀
    · rcases List.mem_cons.mp hb with rfl | hb
      · exact .inl rfl
      · rw [List.mem_singleton.mp hb]; exact .inr ⟨_, hol⟩
    · obtain ⟨o, e, _⟩ := st.1; exact ⟨o, e⟩
  · have hls : s.heap.IsTuple l items := hl.at fun o e => F.keep _ _ e
    obtain ⟨ol, hol, _⟩ := id hl
    have hlt : l < s.heap.objs.size := Heap.lt_size (F.keep _ _ hol)
    refine wpAny_pyIter_tuple hls ?_
    refine turns_SS (s := { s with heap := s.heap.push _ }) nw adr c₀ hadr (Walks.tuple hh s.heap.objs.size l (Nat.ne_of_lt hlt) items) (fun i v s' Q' E' st hQ' => letGo_tupleiter st.1 hQ') ?_ (next_is_new F) (fun b hb => ?_) (fun i h st => ?_)
      ⟨⟨_, Heap.get?_push_size _ rfl, rfl, rfl⟩, hls.push _⟩ (F.push _) (fun p hp => ⟨Heap.get?_push_of_some _ (N p hp).1, (N p hp).2⟩) (fun p hp e => absurd (Heap.lt_size (N p hp).1) (by rw [e]; exact Nat.lt_irrefl _)) G g0 (fun i v m₁ c tail oI h tk _ hP hJ F₁ N₁ o1 o2 => turn i v m₁ c tail _ oI h tk hP hJ F₁ N₁ o1 o2) done
    · intro hm
      rcases List.mem_cons.mp hm with e | hm
      · exact absurd F.ns.lt (by rw [e]; exact Nat.lt_irrefl _)
      · rw [List.mem_singleton.mp hm, hol] at hL₀; cases hL₀
    · rcases List.mem_cons.mp hb with rfl | hb
      · exact .inl rfl
      · rw [List.mem_singleton.mp hb]; exact .inr ⟨_, hol⟩
    · obtain ⟨o, e, _⟩ := st.1; exact ⟨o, e⟩
/-- for over a range -/
theorem for_range {σ : Type} {r : Addr} {a b : Int} {t u v : Tok} {n : Nat} (nw : σ → List (Addr × Obj)) (adr : List Addr) (c₀ : σ) (hadr : ∀ c, (nw c).map (·.1) = adr) (hh : A.handled = none) (hr : IsRange s.heap r a b 1 t u v) (hsm : Builtin.Range.small a b 1 = true) (hn : Builtin.Range.rangeSize a b 1 = ((n : Nat) : Int))
    (hgo : ∀ it v, letOwnedTupleGo target it v = pure ())
    (F : Fr h₀ env.locals s.heap m) (N : News h₀ env.locals s.heap (nw c₀)) (G : Nat → (Str → Option Value) → σ → List (Addr × Obj) → Prop) (g0 : G 0 m c₀ [])
    (turn : ∀ i t m₁ c tail I oI h tk, i < n → G i m₁ c tail → Fr h₀ env.locals h m₁ → News h₀ env.locals h ((I, oI) :: (nw c ++ tail)) → Off1 I (nw c) → OwnOff tail (I :: adr) →
      wpAny (model prog w) A (assign target env (.int (a + (i : Int)) t)) (fun _ s₃ => wpAny (model prog w) A (execs body env) (FPost h₀ env.locals I oI nw adr tail (G (i + 1)) { s with heap := h, toks := tk } Q) E s₃) E { s with heap := h, toks := tk })
    (done : ∀ m₁ c tail h tk, G n m₁ c tail → OwnOff tail adr → Fr h₀ env.locals h m₁ → News h₀ env.locals h (nw c ++ tail) → Q .next { s with heap := h, toks := tk }) :
    wpAny (model prog w) A (pyIter (.ref r)) (fun it s₂ => TurnsAt prog w A h₀ env target body Q E it s₂) E s := by
  refine wpAny_pyIter_range hr hsm ?_
  refine turns_SS (s := { s with heap := s.heap.push _ }) nw adr c₀ hadr (range_walks hh a n) (fun i v s' Q' E' st hQ' => wpAny_of_eq (hgo _ _) hQ') ?_ (next_is_new F) (fun b hb => .inl (List.mem_singleton.mp hb)) (fun i h st => ⟨_, st⟩)
    (by show IsRangeIter _ _ _ _ _; rw [hn]; simpa using Heap.get?_push_size _ rfl) (F.push _) (fun p hp => ⟨Heap.get?_push_of_some _ (N p hp).1, (N p hp).2⟩) (fun p hp e => absurd (Heap.lt_size (N p hp).1) (by rw [e]; exact Nat.lt_irrefl _)) G g0 (fun i v m₁ c tail oI h tk hi hP hJ F₁ N₁ o1 o2 => by
      obtain ⟨t, rfl⟩ := hP
      exact turn i t m₁ c tail _ oI h tk hi hJ F₁ N₁ o1 o2) done
  intro hm
  have e := List.mem_singleton.mp hm
  exact absurd F.ns.lt (by rw [e]; exact Nat.lt_irrefl _)
end
theorem words30 : True := by
  k_with "S ifz" => (first | with_reducible exact rfl | (refine Eq.trans (if_neg (by assumption)) ?_; walk_at "S ifz") | (dsimp only [mapOf]; walk_at "S ifz"))
  k_with "FPost" => ((dsimp only [FPost]))
  trivial
/-- data of the history over a ledger -/
noncomputable def HN (l : List (Addr × Obj)) (v : Value) (e : HE) : Prop := ∀ h : Heap, (∀ p ∈ l, h.get? p.1 = some p.2) → HistAt h v e
theorem HN.mono {l l' : List (Addr × Obj)} {v : Value} {e : HE} (x : HN l v e) (s : ∀ p ∈ l, p ∈ l') : HN l' v e := fun h k => x h fun p hp => k p (s p hp)
theorem HN.at {l news : List (Addr × Obj)} {v : Value} {e : HE} {h₀ h : Heap} {L : Addr} (x : HN l v e) (N : News h₀ L h news) (s : ∀ p ∈ l, p ∈ news) : HistAt h v e := x h fun p hp => (N p (s p hp)).1
theorem HN.new {a : Addr} {w s : Str} {n : Int} {t u v : Tok} {l : List (Addr × Obj)} {k : Nat} (hm : (a, ({ cls := .type "tuple", data := .seq #[.str w t, .str s u, .int n v] k } : Obj)) ∈ l) : HN l (.ref a) ⟨w, s, n⟩ :=
  fun h hk => ⟨a, t, u, v, rfl, ⟨_, hk _ hm, rfl, k, rfl⟩⟩
theorem hists_at {l news : List (Addr × Obj)} {vs : List Value} {es : List HE} {h₀ h : Heap} {L : Addr} (x : Paired (HN l) vs es) (N : News h₀ L h news) (s : ∀ p ∈ l, p ∈ news) : Paired (HistAt h) vs es := pimp (fun _ _ x => x.at N s) x
section
variable {prog : Program} {w : World} {A : Around} {E : Value → Shared → Prop} {s : Shared} {h₀ : Heap} {L : Addr} {m : Str → Option Value} {news : List (Addr × Obj)}
theorem rows_join {e : Expr} {env : Env} {Q : Value → Shared → Prop} {r : RowsT} (_F : Fr h₀ L s.heap m) (_N : News h₀ L s.heap news)
    (h : ∀ Q' : Value → Shared → Prop, (∀ h' o D tk, Fr h₀ L h' m → News h₀ L h' ((D, o) :: news) → AllNe D news → (D == sysModules) = false → RowsO w o r → Q' (.ref D) { s with heap := h', toks := tk }) → wpAny (model prog w) A (eval e env) Q' E s)
    (k : ∀ h' o D tk, Fr h₀ L h' m → News h₀ L h' ((D, o) :: news) → AllNe D news → (D == sysModules) = false → RowsO w o r → Q (.ref D) { s with heap := h', toks := tk }) : wpAny (model prog w) A (eval e env) Q E s := h Q k
end
section
variable {w : World} {mean : ExcName → Option Value} {mg mb : Str → Option Value} {A₀ : Around} {base h₀ : Heap} {outer : List Env} {env : Env} {L : Addr} {m : Str → Option Value} {news : List (Addr × Obj)} {s : Shared}
  {dp un : Nat} {gd : Option (List Code)} {Q E : Value → Shared → Prop}
theorem status_as (H : Here w mean mg mb A₀ base h₀ outer env L m news s.heap) (hdp : dp + 60 < recursionLimit) (hu : un + 700 < cLine) {mode : Mode} {lh d td : Addr} {vs dvs : List Value} {hist : List HE} {r : RowsT} {most : Int} {deed : Deed} {tmo tm : Tok} (hl : s.heap.IsList lh vs.toArray) (hp : Paired (HistAt s.heap) vs hist) (hsz : hist.length ≤ 64)
    (R : RowsAt w s.heap d r) (lo : (d == sysModules) = false) (hr : r.length < 64) (ht : IsTup s.heap td dvs.toArray) (hv : DeedI deed dvs) {ss : Str} {sn : Int} (e : dStatus mode most hist r deed = (ss, sn))
    (ret : ∀ a h' tk' t1 t2, Fr h₀ L h' m → News h₀ L h' ((a, tupO #[.str ss t1, .int sn t2]) :: news) → (∀ p ∈ news, p.1 ≠ a) → Q (.ref a) { s with heap := h', toks := tk' }) :
    wpAny (model PySem.Challenge.rw_og0083_01.row.prog w) (aro dp un gd (env :: outer)) (call (.ref 306) [.str mode.s tmo, .int most tm, .ref lh, .ref d, .ref td]) Q E s := by
  refine status_spec H hdp hu (mode := mode) (most := most) hl hp hsz R lo hr ht hv ?_
  rw [e]; exact ret
end
theorem dRun_snoc (mode : Mode) (most : Int) (d : Deed) : ∀ (l : List Deed) (st : DSt), dRun mode most (l ++ [d]) st =
    ((dRun mode most l st).1 ++ [(dStep mode most d (dRun mode most l st).2).1], (dStep mode most d (dRun mode most l st).2).2)
  | [], st => rfl
  | x :: l, st => by
    show dRun mode most (x :: (l ++ [d])) st = _
    rw [dRun, dRun_snoc mode most d l]
    rfl
theorem hist_len (mode : Mode) (most : Int) : ∀ (l : List Deed) (st : DSt), (dRun mode most l st).2.hist.length = st.hist.length + l.length
  | [], st => rfl
  | x :: l, st => by
    show (dRun mode most l (dStep mode most x st).2).2.hist.length = _
    rw [hist_len mode most l]
    simp [dStep]; omega
theorem fr_norm {m' m0 : Str → Option Value} {a b c d : Str} {v : Option Value} (h : ∀ z, z ≠ a → z ≠ b → z ≠ c → z ≠ d → m' z = m0 z) (hd : m' d = v) : m' = fun z => if z = a then m' a else if z = b then m' b else if z = c then m' c else if z = d then v else m0 z := by
  funext z
  by_cases h1 : z = a
  · rw [if_pos h1, h1]
  rw [if_neg h1]
  by_cases h2 : z = b
  · rw [if_pos h2, h2]
  rw [if_neg h2]
  by_cases h3 : z = c
  · rw [if_pos h3, h3]
  rw [if_neg h3]
  by_cases h4 : z = d
  · rw [if_pos h4, h4, hd]
  · rw [if_neg h4]; exact h z h1 h2 h3 h4
theorem status_has {mode : Mode} {most : Int} {f : FSt} {rows : RowsT} {hist : List HE} {last : Int} {deed : Deed} {ss : Str} {sn : Int} (I : Inv mode f ⟨rows, hist, last⟩) (ok : FOk f) (hd : deed = .read ∨ deed = .delete ∨ ∃ b, deed = .rewrite b) (h : dStatus mode most hist rows deed = (ss, sn)) (hs : (ss == Str.ofString "00") = true) : rhas rows sn = true := by
  have hs : ss = s00 := by simpa using hs
  subst hs
  have other : (if mode ≠ .io then ((s49, 0) : Str × Int) else match hist.getLast? with
      | none => (s43, 0)
      | some e => if e.w = sRead ∧ e.s = s00 then (s00, e.n) else (s43, 0)) = (s00, sn) → rhas rows sn = true := by
    intro h
    by_cases hm : mode = .io
    · rw [if_neg (fun q => q hm)] at h
      cases e : hist.getLast? with
      | none => rw [e] at h; exact absurd (congrArg Prod.fst h) n_43
      | some x =>
        rw [e] at h
        dsimp only at h
        split at h
        · rename_i hx
          have hn : x.n = sn := congrArg Prod.snd h
          have h1 := I.last hm
          have h2 := I.lpos hm x e hx.1 hx.2
          have h3 : lastOf hist = x.n := by unfold lastOf; rw [e]; exact if_pos hx
          have h4 : f.last = x.n := h1.trans h3
          have h5 := ok (by rw [h4]; exact h2)
          rw [h4, I.rows, hn] at h5
          exact h5
        · exact absurd (congrArg Prod.fst h) n_43
    · rw [if_pos hm] at h; exact absurd (congrArg Prod.fst h) n_49
  rcases hd with rfl | rfl | ⟨b, rfl⟩
  · simp only [dStatus] at h
    split at h
    · exact absurd (congrArg Prod.fst h) n_47
    · unfold dReading at h
      split at h
      · exact absurd (congrArg Prod.fst h) n_46
      · split at h
        · exact absurd (congrArg Prod.fst h) n_10
        · rename_i hne
          split at h
          · exact absurd (congrArg Prod.fst h) n_14
          · have hn := congrArg Prod.snd h
            dsimp only at hn
            subst hn
            exact rhas_iff.mpr (List.mem_filter.mp (minL_mem hne)).1
  · exact other h
  · exact other h
theorem dRun_len1 (mode : Mode) (most : Int) : ∀ (l : List Deed) (st : DSt), (dRun mode most l st).1.length = l.length
  | [], st => rfl
  | d :: l, st => by simp [dRun, dRun_len1 mode most l]
theorem dRun_length (mode : Mode) (most : Int) : ∀ (l : List Deed) (st : DSt), (dRun mode most l st).2.rows.length ≤ st.rows.length + l.length
  | [], st => by simp [dRun]
  | d :: l, st => by
    have h1 := dRun_length mode most l (dStep mode most d st).2
    have h2 : (dStep mode most d st).2.rows.length ≤ st.rows.length + 1 := by
      show (dRows st.rows d _).length ≤ _
      unfold dRows
      split <;> (try split) <;> first | exact rput_length _ _ _ | exact Nat.le_succ_of_le (rdel_length _ _) | exact Nat.le_succ _
    simp only [dRun, List.length_cons]; omega
noncomputable abbrev mapOf {h₀ h : Heap} {L : Addr} {m : Str → Option Value} (_F : Fr h₀ L h m) : Str → Option Value := m
noncomputable def DueG (w : World) (mode : Mode) (most : Int) (r0 : RowsT) (deeds : List Deed) (m0 : Str → Option Value) (i : Nat) (m : Str → Option Value) (c : Obj × List Value × Nat × List Value × Nat) (tail : List (Addr × Obj)) : Prop :=
  RowsO w c.1 (dRun mode most (deeds.take i) (dInit mode r0)).2.rows ∧ Paired (HN tail) c.2.1 (dRun mode most (deeds.take i) (dInit mode r0)).2.hist ∧ Paired (DN tail 1) c.2.2.2.1 ((dRun mode most (deeds.take i) (dInit mode r0)).1.map Res.d) ∧
    ∃ u1 u2 u3 t, m = fun z => if z = Str.ofString "deed" then u1 else if z = Str.ofString "status" then u2 else if z = Str.ofString "number" then u3 else if z = Str.ofString "last" then some (.int (dRun mode most (deeds.take i) (dInit mode r0)).2.last t) else m0 z
theorem m_out {mode : Mode} : (mode.s == Str.ofString "output") = decide (mode = .out) := by cases mode <;> decide
theorem m_ext {mode : Mode} : (mode.s == Str.ofString "extend") = decide (mode = .ext) := by cases mode <;> decide
theorem out_t {mode : Mode} {w : World} {o : Obj} {r : RowsT} (h : (mode.s == Str.ofString "output") = true) (hi : o.IsDictOf (PySem.intKind PySem.Challenge.rw_og0083_01.row.prog w) []) : RowsO w o (if mode = .out then [] else r) := by
  rw [m_out] at h; rw [if_pos (of_decide_eq_true h)]; exact ⟨[], hi, .nil⟩
theorem out_f {mode : Mode} {w : World} {o : Obj} {r : RowsT} (h : (mode.s == Str.ofString "output") = false) (R : RowsO w o r) : RowsO w o (if mode = .out then [] else r) := by
  rw [m_out] at h; rw [if_neg (of_decide_eq_false h)]; exact R
theorem ext_t {mode : Mode} {r : RowsT} {M : Int} (h : (mode.s == Str.ofString "extend") = true) (h1 : M ∈ rkeys (if mode = .out then [] else r) ++ [0]) (h2 : ∀ a, a ∈ rkeys (if mode = .out then [] else r) ++ [0] → a ≤ M) : (if mode = .ext then maxL (rkeys r ++ [0]) else 0) = M := by
  rw [m_ext] at h
  have h := of_decide_eq_true h
  subst h
  exact maxL_eq h1 h2
theorem ext_f {mode : Mode} {r : RowsT} (h : (mode.s == Str.ofString "extend") = false) : (if mode = .ext then maxL (rkeys r ++ [0]) else 0) = 0 := by
  rw [m_ext] at h; rw [if_neg (of_decide_eq_false h)]
theorem words31 : True := by
  k_with "S news" => (first | assumption | (intro p hp; refine (by assumption : News _ _ _ _) p ?_; first | exact List.mem_of_mem_tail hp | (simp only [List.mem_cons, List.mem_append] at hp ⊢; grind)))
  trivial
section
variable {prog : Program} {w : World} {A : Around} {E : Value → Shared → Prop} {s : Shared} {h₀ : Heap} {L D : Addr} {m : Str → Option Value} {news : List (Addr × Obj)}
theorem append_V {vs : List Value} {n : Nat} {x : Value} {u : Obj → List (Addr × Obj)} {Q : Value → Shared → Prop} (F : Fr h₀ L s.heap m) (N : News h₀ L s.heap news) (U : UpdF D (listOf vs.toArray n) news u) (hz : vs.length ≤ 1000)
    (h : ∀ h', Fr h₀ L h' m → News h₀ L h' (u (listOf (vs ++ [x]).toArray (n + 1))) → Q .none { s with heap := h' }) : wpAny (model prog w) A (call (.builtin "list.append") [.ref D, x]) Q E s := by
  obtain ⟨pre, post, rfl, hu, a, b⟩ := U.split
  have z := N (D, listOf vs.toArray n) (List.mem_append.mpr (.inr (.head _)))
  refine append_at (hsz := by rw [sizeLine_eq, List.size_toArray]; omega) z.1 fun h' hs ho' => h h' (F.change hs z.2.1 z.2.2) ?_
  rw [hu]
  refine news_set N a b hs ?_
  rw [ho', List.push_toArray]
end
theorem words32 : True := by
  k_with "call builtin:list.append" => ((k_here; k_dflt (refine' append_V (by k_asm) (by k_asm) (by k_updF) (by omega) ?_; k_whole); intro h' F' N'; (try dsimp only at N'); (revert h' F' N'; intro _ _ _); (try k_sweep)))
  trivial
inductive Split : List (Addr × Obj) → List (Addr × Obj) → List (Addr × Obj) → Prop
  | here (r : List (Addr × Obj)) : Split r r []
  | there (p : Addr × Obj) {a r t : List (Addr × Obj)} : Split a r t → Split (p :: a) r (p :: t)
theorem Split.eq {a r t : List (Addr × Obj)} (x : Split a r t) : a = t ++ r := by
  induction x with
  | here => rfl
  | there p _ ih => rw [ih]; rfl
theorem FEnd.intro2 {σ : Type} {h₀ : Heap} {L : Addr} {I : Addr} {oI : Obj} {nw : σ → List (Addr × Obj)} {adr : List Addr} {tail : List (Addr × Obj)} {R : (Str → Option Value) → σ → List (Addr × Obj) → Prop} {s₁ : Shared} {h' : Heap} {tk : Nat} {m' : Str → Option Value} {all t' : List (Addr × Obj)} {c' : σ}
    (F : Fr h₀ L h' m') (N : News h₀ L h' all) (sp : Split all ((I, oI) :: (nw c' ++ tail)) t') (o : OwnOff t' (I :: adr)) (r : R m' c' (t' ++ tail)) : FEnd h₀ L I oI nw adr tail R s₁ { s₁ with heap := h', toks := tk } :=
  FEnd.intro t' c' F N (by rw [sp.eq]; exact fun _ hp => hp) o r
theorem due_hist {t tail : List (Addr × Obj)} {hv : List Value} {hist : List HE} {a : Addr} {w s : Str} {n : Int} {t1 t2 t3 : Tok} {k : Nat} (h : Paired (HN tail) hv hist) (hm : (a, ({ cls := .type "tuple", data := .seq #[.str w t1, .str s t2, .int n t3] k } : Obj)) ∈ t) :
    Paired (HN (t ++ tail)) (hv ++ [.ref a]) (hist ++ [⟨w, s, n⟩]) := psnoc (pimp (fun _ _ x => x.mono fun _ hp => List.mem_append_right _ hp) h) (HN.new (List.mem_append_left _ hm))
theorem due_str {t tail : List (Addr × Obj)} {fv : List Value} {rs : List Res} {s : Str} {t1 : Tok} (h : Paired (DN tail 1) fv (rs.map Res.d)) :
    Paired (DN (t ++ tail) 1) (fv ++ [.str s t1]) ((rs ++ [Res.st s]).map Res.d) := by
  rw [List.map_append]
  exact psnoc (pimp (fun _ _ x => x.mono fun _ hp => List.mem_append_right _ hp) h) (.flat (.str _ _))
theorem due_row {t tail : List (Addr × Obj)} {fv : List Value} {rs : List Res} {a : Addr} {s : Str} {b : Bts} {t1 t2 : Tok} {k : Nat} (h : Paired (DN tail 1) fv (rs.map Res.d)) (hm : (a, ({ cls := .type "tuple", data := .seq #[.str s t1, .bytes b t2] k } : Obj)) ∈ t) :
    Paired (DN (t ++ tail) 1) (fv ++ [.ref a]) ((rs ++ [Res.row s b]).map Res.d) := by
  rw [List.map_append]
  exact psnoc (pimp (fun _ _ x => x.mono fun _ hp => List.mem_append_right _ hp) h) (.tuple (vs := [.str s t1, .bytes b t2]) (List.mem_append_left _ hm) (.cons (.flat (.str _ _)) (.cons (.flat (.bytes _ _)) .nil)))
theorem ss_t {ss : Str} (h : (ss == Str.ofString "00") = true) : ss = s00 := by simpa using h
theorem ss_f {ss : Str} (h : (ss == Str.ofString "00") = false) : ¬ ss = s00 := by simpa using h
theorem words33 : True := by
  k_with "S split" => (first | exact Split.here _ | (refine' Split.there _ (by walk_at "S split")))
  k_with "S owns" => (first | exact own_nil | (refine own_cons (by walk_at "S ones") ?_; walk_at "S owns"))
  k_with "S frn" => ((refine' ⟨_, _, _, _, fr_norm (by (intro z h1 h2 h3 h4; walk_at "S ifz")) (by exact rfl)⟩))
  trivial
theorem DeedI.cls {d : Deed} {vs : List Value} (h : DeedI d vs) : d = .read ∨ (d.word == Str.ofString "read") = false ∧ (d = .delete ∨ (∃ op n, d = .start op n) ∨ ∃ b, d = .write b ∨ d = .rewrite b) := by
  cases h
  · exact .inl rfl
  · exact .inr ⟨(by decide : (sStart == Str.ofString "read") = false), .inr (.inl ⟨_, _, rfl⟩)⟩
  · exact .inr ⟨(by decide : (sWrite == Str.ofString "read") = false), .inr (.inr ⟨_, .inl rfl⟩)⟩
  · exact .inr ⟨(by decide : (sRewrite == Str.ofString "read") = false), .inr (.inr ⟨_, .inr rfl⟩)⟩
  · exact .inr ⟨by decide, .inl rfl⟩
  · exact .inr ⟨by decide, .inl rfl⟩
theorem any_w {d : Deed} {b : Bts} {t u : Tok} (h : d = .write b ∨ d = .rewrite b) : [Value.str (Str.ofString "write") t, Value.str (Str.ofString "rewrite") u].any (isTheStr d.word) = true := by rcases h with rfl | rfl <;> (simp only [List.any_cons, isTheStr, List.any_nil, Deed.word]; decide)
theorem any_rw {d : Deed} {b : Bts} {t u v : Tok} (h : d = .write b ∨ d = .rewrite b) : [Value.str (Str.ofString "read") v, Value.str (Str.ofString "write") t, Value.str (Str.ofString "rewrite") u].any (isTheStr d.word) = true := by rcases h with rfl | rfl <;> (simp only [List.any_cons, isTheStr, List.any_nil, Deed.word]; decide)
theorem w_nd {d : Deed} {b : Bts} (h : d = .write b ∨ d = .rewrite b) : (d.word == Str.ofString "delete") = false := by rcases h with rfl | rfl <;> (simp only [Deed.word]; decide)
theorem s_nd (op : Op) (n : Int) : ((Deed.start op n).word == Str.ofString "delete") = false := (by decide : (sStart == Str.ofString "delete") = false)
theorem w_res {d : Deed} {b : Bts} {r : RowsT} {sn : Str × Int} (h : d = .write b ∨ d = .rewrite b) : dRes r d sn = .st sn.1 := by rcases h with rfl | rfl <;> rfl
theorem w_rows {d : Deed} {b : Bts} {r : RowsT} {ss : Str} {n : Int} (h : d = .write b ∨ d = .rewrite b) (e : ss = s00) : dRows r d (ss, n) = rput r n b := by rcases h with rfl | rfl <;> exact if_pos e
theorem w_last {d : Deed} {b : Bts} {l : Int} {ss : Str} {n : Int} (h : d = .write b ∨ d = .rewrite b) (e : ss = s00) : dLast l d (ss, n) = n := by rcases h with rfl | rfl <;> exact if_pos e
theorem o_res {d : Deed} {r : RowsT} {sn : Str × Int} (h : (d.word == Str.ofString "read") = false) : dRes r d sn = .st sn.1 := by
  cases d with
  | read => exact absurd h (by decide)
  | _ => rfl
theorem o_rows {d : Deed} {r : RowsT} {ss : Str} {n : Int} (e : ¬ ss = s00) : dRows r d (ss, n) = r := by
  cases d <;> first | rfl | exact if_neg e
theorem o_last {d : Deed} {l : Int} {ss : Str} {n : Int} (e : ¬ ss = s00) : dLast l d (ss, n) = l := by
  cases d <;> first | rfl | exact if_neg e
section
variable {prog : Program} {w : World} {A : Around} {E : Value → Shared → Prop} {s : Shared}
theorem item_deed {value slice : Expr} {t : Addr} {d : Deed} {vs : List Value} {u : Tok} {Q : Value → Shared → Prop} (ht : IsTup s.heap t vs.toArray) (hd : DeedI d vs) (h : ∀ tw, Q (.str d.word tw) s)
    (hs : subscripted slice false (.ref t) (.int 0 u) = operate [.ref t, .int 0 u] (getItem (.ref t) (.int 0 u)) := by with_unfolding_all rfl) (hg : ∀ r, letTemporaryGo value (.ref t) r = pure () := by intro _; with_unfolding_all rfl) :
    wpAny (model prog w) A (subscriptTail value slice (.ref t) (.int 0 u)) Q E s := by
  cases hd <;> exact item_tupleL ht (by decide) (by decide) rfl rfl (h _) hs hg
theorem item_deed1 {value slice : Expr} {t : Addr} {d : Deed} {b : Bts} {vs : List Value} {u : Tok} {Q : Value → Shared → Prop} (ht : IsTup s.heap t vs.toArray) (hd : DeedI d vs) (hw : d = .write b ∨ d = .rewrite b) (h : ∀ tb, Q (.bytes b tb) s)
    (hs : subscripted slice false (.ref t) (.int 1 u) = operate [.ref t, .int 1 u] (getItem (.ref t) (.int 1 u)) := by with_unfolding_all rfl) (hg : ∀ r, letTemporaryGo value (.ref t) r = pure () := by intro _; with_unfolding_all rfl) :
    wpAny (model prog w) A (subscriptTail value slice (.ref t) (.int 1 u)) Q E s := by
  rcases hw with rfl | rfl <;> (cases hd; exact item_tupleL ht (by decide) (by decide) rfl rfl (h _) hs hg)
end
theorem words34 : True := by
  k_with "S deq" => (first | k_extra "S deqw" | simp only [dRes, dRows, dLast, if_pos (ss_t (by assumption))] | simp only [dRes, dRows, dLast, if_neg (ss_f (by assumption))])
  k_with "S dend" => ((refine FEnd.intro2 (c' := (_, _, _, _, _)) (by assumption) (by assumption) (by walk_at "S split") ?_ ?_; (walk_at "S owns"); (walk_at "S deq"); refine ⟨by assumption, due_hist (by assumption) (by k_mem), ?_, ?_⟩; (first | exact due_str (by assumption) | exact due_row (by assumption) (by k_mem)); walk_at "S frn"))
  trivial
/-- a pair of a number and bytes over a ledger -/
noncomputable def RN (l : List (Addr × Obj)) (v : Value) (kb : Int × Bts) : Prop := ∃ a t u k, v = .ref a ∧ (a, ({ cls := .type "tuple", data := .seq #[.int kb.1 t, .bytes kb.2 u] k } : Obj)) ∈ l
theorem RN.mono {l l' : List (Addr × Obj)} {v : Value} {kb : Int × Bts} (x : RN l v kb) (s : ∀ p ∈ l, p ∈ l') : RN l' v kb := let ⟨a, t, u, k, e, hm⟩ := x; ⟨a, t, u, k, e, s _ hm⟩
theorem RN.at {l news : List (Addr × Obj)} {vs : List Value} {r : RowsT} {h₀ h : Heap} {L : Addr} (x : Paired (RN l) vs r) (N : News h₀ L h news) (s : ∀ p ∈ l, p ∈ news) : PairsIn h vs r := pimp (fun _ _ x => let ⟨a, t, u, k, e, hm⟩ := x; ⟨a, t, u, e, ⟨_, (N _ (s _ hm)).1, rfl, k, rfl⟩⟩) x
noncomputable def rowsOf (rows : RowsT) (ns : List Int) : RowsT := ns.map fun n => (n, rget rows n)
theorem ne_tail {T : Addr} {l r : List (Addr × Obj)} (x : AllLt T (l ++ r)) : ∀ b ∈ l.map (·.1), @Ne Nat T b := fun b hb => by
  obtain ⟨p, hp, rfl⟩ := List.mem_map.mp hb
  exact Nat.ne_of_gt (allLt_mem x p (List.mem_append_left _ hp))
theorem rowsOf_take {rows : RowsT} {ns : List Int} {i : Nat} {n : Int} (h : ns.take (i + 1) = ns.take i ++ [n]) : rowsOf rows (ns.take (i + 1)) = rowsOf rows (ns.take i) ++ [(n, rget rows n)] := by
  rw [h]; unfold rowsOf; rw [List.map_append]; rfl
theorem rowsOf_keys {rows : RowsT} : ∀ {l : RowsT}, (∀ k b, (k, b) ∈ l → rget rows k = b) → rowsOf rows (rkeys l) = l
  | [], _ => rfl
  | p :: l, h => by
    show (p.1, rget rows p.1) :: rowsOf rows (rkeys l) = _
    rw [rowsOf_keys fun k b hm => h k b (.tail _ hm), h p.1 p.2 (.head _)]
theorem sorted_of {rows : RowsT} {ns : List Int} (nd : (rkeys rows).Nodup) (p : ns.Perm (rkeys rows)) (o : ns.Pairwise (· ≤ ·)) : Sorted rows (rowsOf rows ns) := by
  have e : rkeys (rowsOf rows ns) = ns := by unfold rkeys rowsOf; rw [List.map_map]; exact (List.map_congr_left fun _ _ => rfl).trans (List.map_id _)
  refine ⟨?_, ?_⟩
  · have h1 : (rowsOf rows ns).Perm (rowsOf rows (rkeys rows)) := List.Perm.map _ p
    rw [rowsOf_keys fun k b hm => rget_mem nd hm] at h1
    exact h1
  · rw [e]
    have nd' : ns.Nodup := p.nodup_iff.mpr nd
    exact (List.pairwise_and_iff.mpr ⟨o, nd'⟩).imp fun h => by omega
theorem words35 : True := by
  k_with "S nes" => (repeat' (first | exact trivial | refine And.intro (by k_ne) ?_))
  k_with "S hists" => (fail "none")
  k_with "call ref" => ((k_here; (with_reducible show wpAny _ _ (call (Value.ref 306) [Value.str _ _, Value.int _ _, Value.ref _, Value.ref _, Value.ref _] []) _ _ _); (k_dflt (refine' status_as (by walk_at "S here") (by walk_at "S room") (by walk_at "S room") (by walk_at "S list") (by first | walk_at "S hists" | k_extra "S hists") (by omega) (by walk_at "S rows") (by k_asm) (by omega) (by walk_at "S tup") (by assumption) (by assumption) ?_; k_whole)); (intro a' h' tk' t1' t2' F' N' ne'); (replace ne' := allNe_of ne'); (simp only [AllNe, and_true] at ne'); (revert a' h' tk' t1' t2' F' N' ne'; intro _ _ _ _ _ _ _ _); (try k_sweep)))
  k_with "S execs" => (((with_reducible refine wpAny_execs_cons ?_); (try dsimp only)))
  trivial
section
set_option maxHeartbeats 8000000 in
noncomputable def due_spec_a_pre : (Pa : (World) → (ExcName → Option Value) → (Str → Option Value) → (Str → Option Value) → (Heap) → (Heap) → (List Env) → (Env) → (Addr) → (Str → Option Value) → (List (Addr × Obj)) → (Shared) → (Nat) → (Nat) → (Option (List Code)) → (Value → Shared → Prop) → (Value → Shared → Prop) → (Addr) → (Addr) → (Mode) → (Int) → (Tok) → (Tok) → (RowsT) → (List Value) → (List Deed) → (Heap) → (Addr) → (Heap) → (Nat) → (Obj) → Prop) ×' ((∀ w mean mg mb base h₀ outer env L m news s dp un gd Q E tb td mode most tm tmo r0 vds deeds g L1 h8 tk8 o8, Pa w mean mg mb base h₀ outer env L m news s dp un gd Q E tb td mode most tm tmo r0 vds deeds g L1 h8 tk8 o8) → (∀ (w : World) (mean : ExcName → Option Value) (mg mb : Str → Option Value) (A₀ : Around) (base h₀ : Heap) (outer : List Env) (env : Env) (L : Addr) (m : Str → Option Value) (news : List (Addr × Obj)) (s : Shared) (dp un : Nat) (gd : Option (List Code)) (Q E : Value → Shared → Prop) (H : Here w mean mg mb A₀ base h₀ outer env L m news s.heap) (hdp : dp + 80 < recursionLimit) (hu : un + 900 < cLine) (tb td : Addr) (mode : Mode) (most : Int) (tm tmo : Tok) (r0 : RowsT) (vds : List Value) (deeds : List Deed) (hB : Begin w s.heap tb r0) (hD : SeqIs s.heap td vds) (pD : Paired (DeedAt s.heap) vds deeds) (hr0 : r0.length + deeds.length < 64) (hpos : PosR r0) (ret : ∀ a fa ea h' tk' (tl : List (Addr × Obj)) (vus : List Value) kf (ies : List Value) (ends : RowsT) t1, Fr h₀ L h' m →
      News h₀ L h' ((a, tupO #[.ref fa, .ref ea, .int (dRun mode most deeds (dInit mode r0)).2.last t1]) :: (fa, listOf vus.toArray kf) :: (ea, tupO ies.toArray) :: (news ++ tl)) →
      (∀ p ∈ (a, tupO #[.ref fa, .ref ea, .int (dRun mode most deeds (dInit mode r0)).2.last t1]) :: (fa, listOf vus.toArray kf) :: (ea, tupO ies.toArray) :: tl, ∀ q ∈ news, p.1 ≠ q.1) →
      Paired (DN tl 1) vus ((dRun mode most deeds (dInit mode r0)).1.map Res.d) → Paired (RN tl) ies ends → Sorted (dRun mode most deeds (dInit mode r0)).2.rows ends → Q (.ref a) { s with heap := h', toks := tk' }), wpAny (model PySem.Challenge.rw_og0083_01.row.prog w) (aro dp un gd (env :: outer)) (call (.ref 311) [.str mode.s tm, .int most tmo, .ref tb, .ref td]) Q E s)) := by
  refine' ⟨_, fun hPa => ?_⟩
  rotate_left 1
  · skip
    intro w mean mg mb A₀ base h₀ outer env L m news s dp un gd Q E H hdp hu tb td mode most tm tmo r0 vds deeds hB hD pD hr0 hpos ret
    refine H.cutK (dp := dp) (un := un) (gd := gd) (muts := []) (by simp) (fun g C st' B X T fr kp ns hN => ?_)
    have up : ∀ b o, s.heap.get? b = some o → g.get? b = some o := fun b o e => C.rest b o e (by simp)
    replace hB := hB.keeps up
    replace hD := hD.keeps up
    replace pD := pimp (fun _ _ x => DeedAt.keeps up x) pD
    have hdl := pD.length
    clear H up
    (revert C T; revert X; k_fill; intro X C T)
    refine wpAny_call ?_
    walk_at "S enterC"
    rename_i L1 h8 tk8 F8 l8 o8 d8 N8
    k_sweep
    revert N8; revert d8; revert l8; revert F8; revert T; revert C; revert X; revert hdl; revert pD; revert hD; revert hB; revert hN; revert ns; revert kp; revert fr; revert B; revert st'; revert ret; revert hpos; revert hr0; revert hu; revert hdp
    exact hPa w mean mg mb base h₀ outer env L m news s dp un gd Q E tb td mode most tm tmo r0 vds deeds g L1 h8 tk8 o8
noncomputable def due_spec_a_v : (World) × (ExcName → Option Value) × (Str → Option Value) × (Str → Option Value) × (Heap) × (Heap) × (List Env) × (Env) × (Addr) × (Str → Option Value) × (List (Addr × Obj)) × (Shared) × (Nat) × (Nat) × (Option (List Code)) × (Value → Shared → Prop) × (Value → Shared → Prop) × (Addr) × (Addr) × (Mode) × (Int) × (Tok) × (Tok) × (RowsT) × (List Value) × (List Deed) × (Heap) × (Addr) × (Heap) × (Nat) × (Obj) := @Classical.epsilon _ ⟨(w0, (fun _ => none), (fun _ => none), (fun _ => none), {}, {}, [], default, 0, (fun _ => none), [], {}, 0, 0, none, (fun _ => (fun _ => True)), (fun _ => (fun _ => True)), 0, 0, .inp, 0, 0, 0, [], [], [], {}, 0, {}, 0, default)⟩ fun v => ¬ due_spec_a_pre.1 v.1 v.2.1 v.2.2.1 v.2.2.2.1 v.2.2.2.2.1 v.2.2.2.2.2.1 v.2.2.2.2.2.2.1 v.2.2.2.2.2.2.2.1 v.2.2.2.2.2.2.2.2.1 v.2.2.2.2.2.2.2.2.2.1 v.2.2.2.2.2.2.2.2.2.2.1 v.2.2.2.2.2.2.2.2.2.2.2.1 v.2.2.2.2.2.2.2.2.2.2.2.2.1 v.2.2.2.2.2.2.2.2.2.2.2.2.2.1 v.2.2.2.2.2.2.2.2.2.2.2.2.2.2.1 v.2.2.2.2.2.2.2.2.2.2.2.2.2.2.2.1 v.2.2.2.2.2.2.2.2.2.2.2.2.2.2.2.2.1 v.2.2.2.2.2.2.2.2.2.2.2.2.2.2.2.2.2.1 v.2.2.2.2.2.2.2.2.2.2.2.2.2.2.2.2.2.2.1 v.2.2.2.2.2.2.2.2.2.2.2.2.2.2.2.2.2.2.2.1 v.2.2.2.2.2.2.2.2.2.2.2.2.2.2.2.2.2.2.2.2.1 v.2.2.2.2.2.2.2.2.2.2.2.2.2.2.2.2.2.2.2.2.2.1 v.2.2.2.2.2.2.2.2.2.2.2.2.2.2.2.2.2.2.2.2.2.2.1 v.2.2.2.2.2.2.2.2.2.2.2.2.2.2.2.2.2.2.2.2.2.2.2.1 v.2.2.2.2.2.2.2.2.2.2.2.2.2.2.2.2.2.2.2.2.2.2.2.2.1 v.2.2.2.2.2.2.2.2.2.2.2.2.2.2.2.2.2.2.2.2.2.2.2.2.2.1 v.2.2.2.2.2.2.2.2.2.2.2.2.2.2.2.2.2.2.2.2.2.2.2.2.2.2.1 v.2.2.2.2.2.2.2.2.2.2.2.2.2.2.2.2.2.2.2.2.2.2.2.2.2.2.2.1 v.2.2.2.2.2.2.2.2.2.2.2.2.2.2.2.2.2.2.2.2.2.2.2.2.2.2.2.2.1 v.2.2.2.2.2.2.2.2.2.2.2.2.2.2.2.2.2.2.2.2.2.2.2.2.2.2.2.2.2.1 v.2.2.2.2.2.2.2.2.2.2.2.2.2.2.2.2.2.2.2.2.2.2.2.2.2.2.2.2.2.2
namespace due_spec_a
noncomputable def w : World := due_spec_a_v.1
noncomputable def mean : ExcName → Option Value := due_spec_a_v.2.1
noncomputable def mg : Str → Option Value := due_spec_a_v.2.2.1
noncomputable def mb : Str → Option Value := due_spec_a_v.2.2.2.1
noncomputable def base : Heap := due_spec_a_v.2.2.2.2.1
noncomputable def h₀ : Heap := due_spec_a_v.2.2.2.2.2.1
noncomputable def outer : List Env := due_spec_a_v.2.2.2.2.2.2.1
noncomputable def env : Env := due_spec_a_v.2.2.2.2.2.2.2.1
noncomputable def L : Addr := due_spec_a_v.2.2.2.2.2.2.2.2.1
noncomputable def m : Str → Option Value := due_spec_a_v.2.2.2.2.2.2.2.2.2.1
noncomputable def news : List (Addr × Obj) := due_spec_a_v.2.2.2.2.2.2.2.2.2.2.1
noncomputable def s : Shared := due_spec_a_v.2.2.2.2.2.2.2.2.2.2.2.1
noncomputable def dp : Nat := due_spec_a_v.2.2.2.2.2.2.2.2.2.2.2.2.1
noncomputable def un : Nat := due_spec_a_v.2.2.2.2.2.2.2.2.2.2.2.2.2.1
noncomputable def gd : Option (List Code) := due_spec_a_v.2.2.2.2.2.2.2.2.2.2.2.2.2.2.1
noncomputable def Q : Value → Shared → Prop := due_spec_a_v.2.2.2.2.2.2.2.2.2.2.2.2.2.2.2.1
noncomputable def E : Value → Shared → Prop := due_spec_a_v.2.2.2.2.2.2.2.2.2.2.2.2.2.2.2.2.1
noncomputable def tb : Addr := due_spec_a_v.2.2.2.2.2.2.2.2.2.2.2.2.2.2.2.2.2.1
noncomputable def td : Addr := due_spec_a_v.2.2.2.2.2.2.2.2.2.2.2.2.2.2.2.2.2.2.1
noncomputable def mode : Mode := due_spec_a_v.2.2.2.2.2.2.2.2.2.2.2.2.2.2.2.2.2.2.2.1
noncomputable def most : Int := due_spec_a_v.2.2.2.2.2.2.2.2.2.2.2.2.2.2.2.2.2.2.2.2.1
noncomputable def tm : Tok := due_spec_a_v.2.2.2.2.2.2.2.2.2.2.2.2.2.2.2.2.2.2.2.2.2.1
noncomputable def tmo : Tok := due_spec_a_v.2.2.2.2.2.2.2.2.2.2.2.2.2.2.2.2.2.2.2.2.2.2.1
noncomputable def r0 : RowsT := due_spec_a_v.2.2.2.2.2.2.2.2.2.2.2.2.2.2.2.2.2.2.2.2.2.2.2.1
noncomputable def vds : List Value := due_spec_a_v.2.2.2.2.2.2.2.2.2.2.2.2.2.2.2.2.2.2.2.2.2.2.2.2.1
noncomputable def deeds : List Deed := due_spec_a_v.2.2.2.2.2.2.2.2.2.2.2.2.2.2.2.2.2.2.2.2.2.2.2.2.2.1
noncomputable def g : Heap := due_spec_a_v.2.2.2.2.2.2.2.2.2.2.2.2.2.2.2.2.2.2.2.2.2.2.2.2.2.2.1
noncomputable def L1 : Addr := due_spec_a_v.2.2.2.2.2.2.2.2.2.2.2.2.2.2.2.2.2.2.2.2.2.2.2.2.2.2.2.1
noncomputable def h8 : Heap := due_spec_a_v.2.2.2.2.2.2.2.2.2.2.2.2.2.2.2.2.2.2.2.2.2.2.2.2.2.2.2.2.1
noncomputable def tk8 : Nat := due_spec_a_v.2.2.2.2.2.2.2.2.2.2.2.2.2.2.2.2.2.2.2.2.2.2.2.2.2.2.2.2.2.1
noncomputable def o8 : Obj := due_spec_a_v.2.2.2.2.2.2.2.2.2.2.2.2.2.2.2.2.2.2.2.2.2.2.2.2.2.2.2.2.2.2
set_option maxHeartbeats 8000000 in
noncomputable def walk_b_pre : (Pb : (Obj) → (Addr) → (Addr) → (Addr) → (Addr) → (Obj) → (Tok) → (Nat) → (Heap) → Prop) ×' ((∀ o2 D2 H1 Fo TT oC t3 tk3 zb10, Pb o2 D2 H1 Fo TT oC t3 tk3 zb10) → (due_spec_a_pre.1 w mean mg mb base h₀ outer env L m news s dp un gd Q E tb td mode most tm tmo r0 vds deeds g L1 h8 tk8 o8)) := by
  refine' ⟨_, fun hPb => ?_⟩
  rotate_left 1
  · skip
    delta due_spec_a_pre
    dsimp only
    intro hdp hu hr0 hpos ret st' B fr kp ns hN hB hD pD hdl X C T F8 l8 d8 N8
    have hrl : (if mode = .out then [] else r0).length < 64 := by
      split
      · exact Nat.zero_lt_succ _
      · omega
    k_with "S ifexp" => ((rename Flagged 8 => mk8); ((refine stop_at ?_)))
    have mk8 : Flagged 8 := ⟨⟩
    k_steps
    (repeat (rename Flagged _ => mk0; clear mk0))
    refine stop_off (rows_join (r := if mode = .out then [] else r0) (by assumption) (by assumption) ?_ ?_)
    · intro Q' hQ'
      refine IfExp_ ?_
      k_steps
      · exact hQ' _ _ _ _ (by assumption) (by assumption) (by walk_at "S nes") (by assumption) (out_t (by assumption) (by assumption))
      · exact hQ' _ _ _ _ (by assumption) (by assumption) (by walk_at "S nes") (by assumption) (out_f (by assumption) (by assumption))
    intro h2 o2 D2 tk2 F2 N2 l2 lo2 R2
    simp only [AllNe, and_true] at l2
    k_with "S ifexp" => ((rename Flagged 9 => mk9); ((refine stop_at ?_)))
    have mk9 : Flagged 9 := ⟨⟩
    k_steps
    (repeat (rename Flagged _ => mk0; clear mk0))
    refine stop_off (int_join (n := if mode = .ext then maxL (rkeys r0 ++ [0]) else 0) (by assumption) (by assumption) ?_ ?_)
    · intro Q' hQ'
      refine IfExp_ ?_
      k_steps
      · rw [ext_t (by assumption) (by assumption) (by assumption)] at hQ'
        exact hQ' _ _ _ (by assumption) (by walk_at "S news")
      · rw [ext_f (by assumption)] at hQ'
        exact hQ' _ _ _ (by assumption) (by assumption)
    intro h3 t3 tk3 F3 N3
    k_with "exec For Name Name cons nil" => ((rename Flagged 10 => mk10); ((walk_at "S for")))
    have mk10 : Flagged 10 := ⟨⟩
    k_steps
    rename_i H1 _ _ Fo _ _ TT _ _ _ _ oC dC _ _ _ F1 N1
    have hD' : g.IsList td vds.toArray ∨ g.IsTuple td vds.toArray := by
      rcases hD with hD | hD
      · obtain ⟨o, ho, r⟩ := hD; exact .inr ⟨o, ho, r⟩
      · exact .inl hD
    k_sweep
    rename_i zb0 zb1 zb2 zb3 zb4 zb5 zb6 zb7 zb8 zb9 zb10
    revert hD'; revert N1; revert F1; revert dC; revert zb5; revert zb3; revert zb1; revert l2; revert R2; revert lo2; revert hrl; revert d8; revert l8; revert T; revert C; revert X; revert hdl; revert pD; revert hD; revert hB; revert hN; revert ns; revert kp; revert fr; revert B; revert st'; revert ret; revert hpos; revert hr0; revert hu; revert hdp
    exact hPb o2 D2 H1 Fo TT oC t3 tk3 zb10
noncomputable def walk_b_v : (Obj) × (Addr) × (Addr) × (Addr) × (Addr) × (Obj) × (Tok) × (Nat) × (Heap) := @Classical.epsilon _ ⟨(default, 0, 0, 0, 0, default, 0, 0, {})⟩ fun v => ¬ walk_b_pre.1 v.1 v.2.1 v.2.2.1 v.2.2.2.1 v.2.2.2.2.1 v.2.2.2.2.2.1 v.2.2.2.2.2.2.1 v.2.2.2.2.2.2.2.1 v.2.2.2.2.2.2.2.2
namespace walk_b
noncomputable def o2 : Obj := walk_b_v.1
noncomputable def D2 : Addr := walk_b_v.2.1
noncomputable def H1 : Addr := walk_b_v.2.2.1
noncomputable def Fo : Addr := walk_b_v.2.2.2.1
noncomputable def TT : Addr := walk_b_v.2.2.2.2.1
noncomputable def oC : Obj := walk_b_v.2.2.2.2.2.1
noncomputable def t3 : Tok := walk_b_v.2.2.2.2.2.2.1
noncomputable def tk3 : Nat := walk_b_v.2.2.2.2.2.2.2.1
noncomputable def zb10 : Heap := walk_b_v.2.2.2.2.2.2.2.2
set_option maxHeartbeats 8000000 in
noncomputable def walk_c_pre : (Pc : (Nat) → (Obj) → (List Value) → (Nat) → (List Value) → (Nat) → (List (Addr × Obj)) → (Addr) → (Obj) → (Heap) → (Nat) → (Option Value) → (Option Value) → (Option Value) → (Tok) → (Addr) → (List Value) → (List Res) → (RowsT) → (List HE) → (Int) → (Str) → (Int) → Prop) ×' (Pd : (Obj) → (List Value) → (Nat) → (List Value) → (Nat) → (List (Addr × Obj)) → (Heap) → (Nat) → (Option Value) → (Option Value) → (Option Value) → (Tok) → (List Res) → (RowsT) → (Int) → Prop) ×' ((∀ i oR hv hc fv fc tail I oI h tk u1 u2 u3 t ta dvs rs rows hist last ss sn, Pc i oR hv hc fv fc tail I oI h tk u1 u2 u3 t ta dvs rs rows hist last ss sn) → (∀ oR hv hc fv fc tail h tk u1 u2 u3 t rs rows last, Pd oR hv hc fv fc tail h tk u1 u2 u3 t rs rows last) → (walk_b_pre.1 o2 D2 H1 Fo TT oC t3 tk3 zb10)) := by
  refine' ⟨_, _, fun hPc hPd => ?_⟩
  rotate_left 2
  · skip
    delta walk_b_pre
    dsimp only
    intro hdp hu hr0 hpos ret st' B fr kp ns hN hB hD pD hdl X C T l8 d8 hrl lo2 R2 l2 zb1 zb3 zb5 dC F1 N1 hD'
    have mk10 : Flagged 10 := ⟨⟩
    refine for_list (σ := Obj × List Value × Nat × List Value × Nat) (fun c => [(Fo, listOf c.2.2.2.1.toArray c.2.2.2.2), (H1, listOf c.2.1.toArray c.2.2.1), (D2, c.1), (L1 + 1, oC)]) [Fo, H1, D2, L1 + 1] (o2, [], 0, [], 0) (fun _ => rfl) rfl hD' F1 (fun p hp => N1 p (.tail _ hp))
      (DueG w mode most r0 deeds (mapOf F1)) ⟨R2, .nil, .nil, _, _, _, _, fr_norm (fun _ _ _ _ _ => rfl) rfl⟩ ?_ ?_
    · rintro i v m₁ ⟨oR, hv, hc, fv, fc⟩ tail I oI h tk hi ⟨hR, hH, hF, u1, u2, u3, t, rfl⟩ F N off own
      dsimp only [mapOf] at hR hH hF F N off
      have hiv : i < vds.length := by
        rw [List.getElem?_toArray] at hi
        exact (List.getElem?_eq_some_iff.mp hi).1
      have hid : i < deeds.length := by omega
      have hvi : vds[i] = v := by
        rw [List.getElem?_toArray] at hi
        exact (List.getElem?_eq_some_iff.mp hi).2
      obtain ⟨ta, dvs, ev, hta, hdi⟩ := pget pD i hiv hid
      rw [hvi] at ev
      subst ev
      have htk : deeds.take (i + 1) = deeds.take i ++ [deeds[i]] := by rw [List.take_add_one, List.getElem?_eq_getElem hid]; rfl
      unfold DueG
      rw [htk, dRun_snoc]
      have hhl := hist_len mode most (deeds.take i) (dInit mode r0)
      have hrl2 := dRun_length mode most (deeds.take i) (dInit mode r0)
      have hsl := dRun_len1 mode most (deeds.take i) (dInit mode r0)
      have hI := (run_all (most := most) (deeds.take i) (inv_init (mode := mode) hpos)).2
      have hok := fRun_ok mode most (deeds.take i) _ (fInit_ok mode r0)
      have h0 : (dInit mode r0).hist.length = 0 := rfl
      have h00 : (dInit mode r0).rows.length ≤ r0.length := by
        show (if mode = .out then [] else r0).length ≤ _
        split
        · exact Nat.zero_le _
        · exact Nat.le_refl _
      rw [List.length_take] at hhl hrl2 hsl
      generalize fRun mode most (deeds.take i) (fInit mode r0) = ff at *
      generalize dRun mode most (deeds.take i) (dInit mode r0) = dd at *
      obtain ⟨rs, ⟨rows, hist, last⟩⟩ := dd
      generalize deeds[i] = deed at *
      dsimp only at *
      rcases hst : dStatus mode most hist rows deed with ⟨ss, sn⟩
      have hhas := fun hd => status_has (deed := deed) hI hok hd hst
      clear hI hok
      unfold dStep
      simp only [hst]
      have hdi2 := hdi
      have hHl := hH.length
      have hrl3 : rows.length < 64 := by omega
      have hhl3 : hist.length < 64 := by omega
      simp only [List.cons_append, List.nil_append] at N
      simp only [Off1, and_true] at off
      have hFl := hF.length
      rw [List.length_map] at hFl
      have hsl2 : rs.length < 64 := by omega
      clear hhl hrl2 h0 h00 hsl
      k_sweep
      revert hsl2; revert hFl; revert off; revert hhl3; revert hrl3; revert hHl; revert hdi2; revert hhas; revert hst; revert htk; revert hdi; revert deed; revert F; revert hF; revert hH; revert hR; revert hvi; revert hi; revert hta; revert hid; revert hiv; revert own; revert N; revert hD'; revert N1; revert F1; revert dC; revert zb5; revert zb3; revert zb1; revert l2; revert R2; revert lo2; revert hrl; revert d8; revert l8; revert T; revert C; revert X; revert hdl; revert pD; revert hD; revert hB; revert hN; revert ns; revert kp; revert fr; revert B; revert st'; revert ret; revert hpos; revert hr0; revert hu; revert hdp
      exact hPc i oR hv hc fv fc tail I oI h tk u1 u2 u3 t ta dvs rs rows hist last ss sn
    · rintro m₁ ⟨oR, hv, hc, fv, fc⟩ tail h tk ⟨hR, hH, hF, u1, u2, u3, t, rfl⟩ own F N
      dsimp only [mapOf] at hR hH hF F N
      rw [show vds.toArray.size = deeds.length from hdl, List.take_length] at hR hF
      rw [show vds.toArray.size = deeds.length from hdl, List.take_length] at F
      have hrl2 := dRun_length mode most deeds (dInit mode r0)
      have hsl := dRun_len1 mode most deeds (dInit mode r0)
      have h00 : (dInit mode r0).rows.length ≤ r0.length := by
        show (if mode = .out then [] else r0).length ≤ _
        split
        · exact Nat.zero_le _
        · exact Nat.le_refl _
      generalize dRun mode most deeds (dInit mode r0) = dd at *
      obtain ⟨rs, ⟨rows, hist, last⟩⟩ := dd
      dsimp only at *
      have hFl := hF.length
      rw [List.length_map] at hFl
      have hrl3 : rows.length < 64 := by omega
      simp only [List.cons_append, List.nil_append] at N
      clear hrl2 h00 hH
      k_sweep
      revert hrl3; revert hFl; revert hsl; revert F; revert hF; revert hR; revert ret; revert N; revert own; revert hD'; revert N1; revert F1; revert dC; revert zb5; revert zb3; revert zb1; revert l2; revert R2; revert lo2; revert hrl; revert d8; revert l8; revert T; revert C; revert X; revert hdl; revert pD; revert hD; revert hB; revert hN; revert ns; revert kp; revert fr; revert B; revert st'; revert hpos; revert hr0; revert hu; revert hdp
      exact hPd oR hv hc fv fc tail h tk u1 u2 u3 t rs rows last
noncomputable def walk_c_c_v : (Nat) × (Obj) × (List Value) × (Nat) × (List Value) × (Nat) × (List (Addr × Obj)) × (Addr) × (Obj) × (Heap) × (Nat) × (Option Value) × (Option Value) × (Option Value) × (Tok) × (Addr) × (List Value) × (List Res) × (RowsT) × (List HE) × (Int) × (Str) × (Int) := @Classical.epsilon _ ⟨(0, default, [], 0, [], 0, [], 0, default, {}, 0, none, none, none, 0, 0, [], [], [], [], 0, default, 0)⟩ fun v => ¬ walk_c_pre.1 v.1 v.2.1 v.2.2.1 v.2.2.2.1 v.2.2.2.2.1 v.2.2.2.2.2.1 v.2.2.2.2.2.2.1 v.2.2.2.2.2.2.2.1 v.2.2.2.2.2.2.2.2.1 v.2.2.2.2.2.2.2.2.2.1 v.2.2.2.2.2.2.2.2.2.2.1 v.2.2.2.2.2.2.2.2.2.2.2.1 v.2.2.2.2.2.2.2.2.2.2.2.2.1 v.2.2.2.2.2.2.2.2.2.2.2.2.2.1 v.2.2.2.2.2.2.2.2.2.2.2.2.2.2.1 v.2.2.2.2.2.2.2.2.2.2.2.2.2.2.2.1 v.2.2.2.2.2.2.2.2.2.2.2.2.2.2.2.2.1 v.2.2.2.2.2.2.2.2.2.2.2.2.2.2.2.2.2.1 v.2.2.2.2.2.2.2.2.2.2.2.2.2.2.2.2.2.2.1 v.2.2.2.2.2.2.2.2.2.2.2.2.2.2.2.2.2.2.2.1 v.2.2.2.2.2.2.2.2.2.2.2.2.2.2.2.2.2.2.2.2.1 v.2.2.2.2.2.2.2.2.2.2.2.2.2.2.2.2.2.2.2.2.2.1 v.2.2.2.2.2.2.2.2.2.2.2.2.2.2.2.2.2.2.2.2.2.2
namespace walk_c_c
noncomputable def i : Nat := walk_c_c_v.1
noncomputable def oR : Obj := walk_c_c_v.2.1
noncomputable def hv : List Value := walk_c_c_v.2.2.1
noncomputable def hc : Nat := walk_c_c_v.2.2.2.1
noncomputable def fv : List Value := walk_c_c_v.2.2.2.2.1
noncomputable def fc : Nat := walk_c_c_v.2.2.2.2.2.1
noncomputable def tail : List (Addr × Obj) := walk_c_c_v.2.2.2.2.2.2.1
noncomputable def I : Addr := walk_c_c_v.2.2.2.2.2.2.2.1
noncomputable def oI : Obj := walk_c_c_v.2.2.2.2.2.2.2.2.1
noncomputable def h : Heap := walk_c_c_v.2.2.2.2.2.2.2.2.2.1
noncomputable def tk : Nat := walk_c_c_v.2.2.2.2.2.2.2.2.2.2.1
noncomputable def u1 : Option Value := walk_c_c_v.2.2.2.2.2.2.2.2.2.2.2.1
noncomputable def u2 : Option Value := walk_c_c_v.2.2.2.2.2.2.2.2.2.2.2.2.1
noncomputable def u3 : Option Value := walk_c_c_v.2.2.2.2.2.2.2.2.2.2.2.2.2.1
noncomputable def t : Tok := walk_c_c_v.2.2.2.2.2.2.2.2.2.2.2.2.2.2.1
noncomputable def ta : Addr := walk_c_c_v.2.2.2.2.2.2.2.2.2.2.2.2.2.2.2.1
noncomputable def dvs : List Value := walk_c_c_v.2.2.2.2.2.2.2.2.2.2.2.2.2.2.2.2.1
noncomputable def rs : List Res := walk_c_c_v.2.2.2.2.2.2.2.2.2.2.2.2.2.2.2.2.2.1
noncomputable def rows : RowsT := walk_c_c_v.2.2.2.2.2.2.2.2.2.2.2.2.2.2.2.2.2.2.1
noncomputable def hist : List HE := walk_c_c_v.2.2.2.2.2.2.2.2.2.2.2.2.2.2.2.2.2.2.2.1
noncomputable def last : Int := walk_c_c_v.2.2.2.2.2.2.2.2.2.2.2.2.2.2.2.2.2.2.2.2.1
noncomputable def ss : Str := walk_c_c_v.2.2.2.2.2.2.2.2.2.2.2.2.2.2.2.2.2.2.2.2.2.1
noncomputable def sn : Int := walk_c_c_v.2.2.2.2.2.2.2.2.2.2.2.2.2.2.2.2.2.2.2.2.2.2
set_option maxHeartbeats 8000000 in
theorem walk : walk_c_pre.1 i oR hv hc fv fc tail I oI h tk u1 u2 u3 t ta dvs rs rows hist last ss sn := by
  delta walk_c_pre
  dsimp only
  intro hdp hu hr0 hpos ret st' B fr kp ns hN hB hD pD hdl X C T l8 d8 hrl lo2 R2 l2 zb1 zb3 zb5 dC F1 N1 hD' N own hiv hid hta hi hvi hR hH hF F deed hdi htk hst hhas hdi2 hHl hrl3 hhl3 off hFl hsl2
  have mk10 : Flagged 10 := ⟨⟩
  k_with "S hists" => ((rename Flagged 11 => mk11); ((exact hists_at hH (by assumption) (by intro p hp; simp only [List.mem_cons, hp, or_true]))))
  have mk11 : Flagged 11 := ⟨⟩
  k_with "subscriptTail Name Constant ref int" => ((rename Flagged 12 => mk12); ((k_here; (with_reducible show wpAny _ _ (subscriptTail _ _ _ (Value.int 0 _)) _ _ _); k_dflt (refine' item_deed (by first | assumption | exact Fr.tup (by assumption) (by assumption)) hdi ?_; k_whole); intro _)))
  have mk12 : Flagged 12 := ⟨⟩
  k_with "exec If" => ((rename Flagged 13 => mk13); ((refine stop_at ?_)))
  have mk13 : Flagged 13 := ⟨⟩
  k_with "S fold" => ((rename Flagged 14 => mk14); (k_fold))
  have mk14 : Flagged 14 := ⟨⟩
  k_steps
  (repeat (rename Flagged _ => mk0; clear mk0))
  refine stop_off ?_
  k_with "S fold" => ((rename Flagged 15 => mk15); (k_fold))
  have mk15 : Flagged 15 := ⟨⟩
  k_with "subscriptTail Name Constant ref int" => ((rename Flagged 16 => mk16); ((k_here; (with_reducible show wpAny _ _ (subscriptTail _ _ _ (Value.int 0 _)) _ _ _); k_dflt (refine' item_deed (by first | assumption | exact Fr.tup (by assumption) (by assumption)) hdi ?_; k_whole); intro _)))
  have mk16 : Flagged 16 := ⟨⟩
  rcases hdi.cls with rfl | ⟨hnr, hcl⟩
  · replace hhas := hhas (.inl rfl)
    k_steps
    all_goals walk_at "S dend"
  rcases Bool.eq_false_or_eq_true (ss == Str.ofString "00") with hs | hs
  · rcases hcl with rfl | ⟨op, on, rfl⟩ | ⟨ob, hW⟩
    · replace hhas := hhas (.inr (.inl rfl))
      k_steps
      all_goals walk_at "S dend"
    · have hnd := s_nd op on
      k_steps
      all_goals walk_at "S dend"
    · have hnd := w_nd hW
      k_with "S any" => ((rename Flagged 17 => mk17); ((first | exact any_w hW | exact any_rw hW)))
      have mk17 : Flagged 17 := ⟨⟩
      k_with "subscriptTail Name Constant ref int" => ((rename Flagged 18 => mk18); ((k_here; (with_reducible show wpAny _ _ (subscriptTail _ _ _ (Value.int 1 _)) _ _ _); k_dflt (refine' item_deed1 (by first | assumption | exact Fr.tup (by assumption) (by assumption)) hdi hW ?_; k_whole); intro _)))
      have mk18 : Flagged 18 := ⟨⟩
      k_with "S deqw" => ((rename Flagged 19 => mk19); ((simp only [w_res hW, w_rows hW (ss_t hs), w_last hW (ss_t hs)])))
      have mk19 : Flagged 19 := ⟨⟩
      k_steps
      all_goals walk_at "S dend"
  · k_with "S deqw" => ((rename Flagged 20 => mk20); ((simp only [o_res hnr, o_rows (ss_f hs), o_last (ss_f hs)])))
    have mk20 : Flagged 20 := ⟨⟩
    k_steps
    all_goals walk_at "S dend"
end walk_c_c
noncomputable def walk_c_d_v : (Obj) × (List Value) × (Nat) × (List Value) × (Nat) × (List (Addr × Obj)) × (Heap) × (Nat) × (Option Value) × (Option Value) × (Option Value) × (Tok) × (List Res) × (RowsT) × (Int) := @Classical.epsilon _ ⟨(default, [], 0, [], 0, [], {}, 0, none, none, none, 0, [], [], 0)⟩ fun v => ¬ walk_c_pre.2.1 v.1 v.2.1 v.2.2.1 v.2.2.2.1 v.2.2.2.2.1 v.2.2.2.2.2.1 v.2.2.2.2.2.2.1 v.2.2.2.2.2.2.2.1 v.2.2.2.2.2.2.2.2.1 v.2.2.2.2.2.2.2.2.2.1 v.2.2.2.2.2.2.2.2.2.2.1 v.2.2.2.2.2.2.2.2.2.2.2.1 v.2.2.2.2.2.2.2.2.2.2.2.2.1 v.2.2.2.2.2.2.2.2.2.2.2.2.2.1 v.2.2.2.2.2.2.2.2.2.2.2.2.2.2
namespace walk_c_d
noncomputable def oR : Obj := walk_c_d_v.1
noncomputable def hv : List Value := walk_c_d_v.2.1
noncomputable def hc : Nat := walk_c_d_v.2.2.1
noncomputable def fv : List Value := walk_c_d_v.2.2.2.1
noncomputable def fc : Nat := walk_c_d_v.2.2.2.2.1
noncomputable def tail : List (Addr × Obj) := walk_c_d_v.2.2.2.2.2.1
noncomputable def h : Heap := walk_c_d_v.2.2.2.2.2.2.1
noncomputable def tk : Nat := walk_c_d_v.2.2.2.2.2.2.2.1
noncomputable def u1 : Option Value := walk_c_d_v.2.2.2.2.2.2.2.2.1
noncomputable def u2 : Option Value := walk_c_d_v.2.2.2.2.2.2.2.2.2.1
noncomputable def u3 : Option Value := walk_c_d_v.2.2.2.2.2.2.2.2.2.2.1
noncomputable def t : Tok := walk_c_d_v.2.2.2.2.2.2.2.2.2.2.2.1
noncomputable def rs : List Res := walk_c_d_v.2.2.2.2.2.2.2.2.2.2.2.2.1
noncomputable def rows : RowsT := walk_c_d_v.2.2.2.2.2.2.2.2.2.2.2.2.2.1
noncomputable def last : Int := walk_c_d_v.2.2.2.2.2.2.2.2.2.2.2.2.2.2
set_option maxHeartbeats 8000000 in
theorem walk : walk_c_pre.2.1 oR hv hc fv fc tail h tk u1 u2 u3 t rs rows last := by
  delta walk_c_pre
  dsimp only
  intro hdp hu hr0 hpos st' B fr kp ns hN hB hD pD hdl X C T l8 d8 hrl lo2 R2 l2 zb1 zb3 zb5 dC F1 N1 hD' own N ret hR hF F hsl hFl hrl3
  have mk10 : Flagged 10 := ⟨⟩
  k_with "eval ListComp" => ((rename Flagged 21 => mk21); ((k_dflt (refine lc_U (F₀ := by k_asm) (by with_unfolding_all rfl) (by decide) (by rfl) (by decide) (by rfl) ?_))))
  have mk21 : Flagged 21 := ⟨⟩
  k_steps
  rename_i D3 v3 c3 h3' tk3' ns3 F3' N3' i3 p3 o3 l3
  have hlen : ns3.length < 64 := by have := p3.length_eq; rw [rkeys, List.length_map] at this; omega
  have hvl := i3.length
  refine cs_U (src_list rfl ⟨_, (N3' _ (.head _)).1, rfl, _, rfl⟩) F3' N3' (by rw [sizeLine_eq]; simp only [List.size_toArray]; omega) (fun t => .inr ⟨_, .head _, rfl, _, rfl⟩)
    (fun i ys tl => Paired (RN tl) ys (rowsOf rows (ns3.take i))) .nil ?_ ?_
  · intro i ys tl v I oI C' oC' D m₂ h tk E' hi hP hG hC hx F N off own2 ne
    obtain ⟨n, t, rfl, hsp, htk⟩ := ints_split i3 hP
    have hn : rhas rows n = true := rhas_iff.mpr (p3.mem_iff.mp (by rw [hsp]; simp))
    simp only [List.cons_append, List.nil_append] at N
    simp only [Off3, and_true] at off
    simp only [List.map_cons, List.map_nil] at own2
    k_steps
    rename_i t4 T h5 F5 N5 l5
    refine TEnd.intro [(T, _)] F5 N5 (fun _ hp => hp) (own_one ?_) ?_
    · simp only [List.cons_append, List.nil_append, List.map_cons, List.map_nil]
      refine List.forall_mem_cons.mpr ⟨by k_ne, List.forall_mem_cons.mpr ⟨by k_ne, List.forall_mem_cons.mpr ⟨by k_ne, List.forall_mem_cons.mpr ⟨by k_ne, List.forall_mem_cons.mpr ⟨by k_ne, List.forall_mem_cons.mpr ⟨by k_ne, List.forall_mem_cons.mpr ⟨by k_ne, List.forall_mem_cons.mpr ⟨by k_ne, ?_⟩⟩⟩⟩⟩⟩⟩⟩
      exact ne_tail l5.2.2.2.2.2.2.2.2
    · rw [rowsOf_take htk]
      exact psnoc (pimp (fun _ _ x => x.mono fun _ hp => .tail _ hp) hG) ⟨T, _, _, _, rfl, .head _⟩
  · intro g3 ys tl hG own2
    unfold FinE
    intro D4 h4 tk4 F4 N4 off4
    have own4 := own_of_off1 off4 own2
    have off5 := off1_left off4
    clear own2
    simp only [List.cons_append, List.nil_append] at N4
    simp only [Off1, and_true] at off5
    simp only [List.map_cons, List.map_nil] at own4
    have hys : ys.length < 64 := by have := hG.length; rw [rowsOf, List.length_map, List.length_take] at this; omega
    rw [show v3.toArray.size = ns3.length by simpa using hvl, List.take_length] at hG
    k_steps
    rename_i T1 h5 l5 T2 h6 F6 N6 l6
    have Nf : News g _ h6 ((T2, tupO #[.ref Fo, .ref T1, .int last t]) :: (Fo, listOf fv.toArray fc) :: (T1, tupO ys.toArray) :: (tail ++ tl)) :=
      fun p hp => N6 p (by simp only [List.mem_cons, List.mem_append] at hp ⊢; grind)
    have nall := ns _ _ (aft_of F6 Nf)
    have sep := fresh_off C hN Nf (fun _ _ b hb => nomatch hb)
    refine ret T2 Fo T1 h6 _ (tail ++ tl) fv fc ys (rowsOf rows ns3) t (fr _ F6.keep) (fun p hp => ?_) sep (pimp (fun _ _ x => x.mono fun _ hp => List.mem_append_left _ hp) hF) (pimp (fun _ _ x => x.mono fun _ hp => List.mem_append_right _ hp) hG) (sorted_of hR.nodup p3 o3)
    rcases List.mem_cons.mp hp with rfl | hp
    · exact nall _ (.head _)
    rcases List.mem_cons.mp hp with rfl | hp
    · exact nall _ (.tail _ (.head _))
    rcases List.mem_cons.mp hp with rfl | hp
    · exact nall _ (.tail _ (.tail _ (.head _)))
    rcases List.mem_append.mp hp with hp | hp
    · exact kp _ p F6.keep hp (by simp)
    · exact nall p (.tail _ (.tail _ (.tail _ hp)))
end walk_c_d
theorem walk_c_c_all : ∀ (i' : Nat) (oR' : Obj) (hv' : List Value) (hc' : Nat) (fv' : List Value) (fc' : Nat) (tail' : List (Addr × Obj)) (I' : Addr) (oI' : Obj) (h' : Heap) (tk' : Nat) (u1' : Option Value) (u2' : Option Value) (u3' : Option Value) (t' : Tok) (ta' : Addr) (dvs' : List Value) (rs' : List Res) (rows' : RowsT) (hist' : List HE) (last' : Int) (ss' : Str) (sn' : Int), walk_c_pre.1 i' oR' hv' hc' fv' fc' tail' I' oI' h' tk' u1' u2' u3' t' ta' dvs' rs' rows' hist' last' ss' sn' := by
  intro i' oR' hv' hc' fv' fc' tail' I' oI' h' tk' u1' u2' u3' t' ta' dvs' rs' rows' hist' last' ss' sn'
  have hw := walk_c_c.walk
  with_unfolding_all exact hk (α := (Nat) × (Obj) × (List Value) × (Nat) × (List Value) × (Nat) × (List (Addr × Obj)) × (Addr) × (Obj) × (Heap) × (Nat) × (Option Value) × (Option Value) × (Option Value) × (Tok) × (Addr) × (List Value) × (List Res) × (RowsT) × (List HE) × (Int) × (Str) × (Int)) (p := fun v => walk_c_pre.1 v.1 v.2.1 v.2.2.1 v.2.2.2.1 v.2.2.2.2.1 v.2.2.2.2.2.1 v.2.2.2.2.2.2.1 v.2.2.2.2.2.2.2.1 v.2.2.2.2.2.2.2.2.1 v.2.2.2.2.2.2.2.2.2.1 v.2.2.2.2.2.2.2.2.2.2.1 v.2.2.2.2.2.2.2.2.2.2.2.1 v.2.2.2.2.2.2.2.2.2.2.2.2.1 v.2.2.2.2.2.2.2.2.2.2.2.2.2.1 v.2.2.2.2.2.2.2.2.2.2.2.2.2.2.1 v.2.2.2.2.2.2.2.2.2.2.2.2.2.2.2.1 v.2.2.2.2.2.2.2.2.2.2.2.2.2.2.2.2.1 v.2.2.2.2.2.2.2.2.2.2.2.2.2.2.2.2.2.1 v.2.2.2.2.2.2.2.2.2.2.2.2.2.2.2.2.2.2.1 v.2.2.2.2.2.2.2.2.2.2.2.2.2.2.2.2.2.2.2.1 v.2.2.2.2.2.2.2.2.2.2.2.2.2.2.2.2.2.2.2.2.1 v.2.2.2.2.2.2.2.2.2.2.2.2.2.2.2.2.2.2.2.2.2.1 v.2.2.2.2.2.2.2.2.2.2.2.2.2.2.2.2.2.2.2.2.2.2) hw (i', oR', hv', hc', fv', fc', tail', I', oI', h', tk', u1', u2', u3', t', ta', dvs', rs', rows', hist', last', ss', sn')
theorem walk_c_d_all : ∀ (oR' : Obj) (hv' : List Value) (hc' : Nat) (fv' : List Value) (fc' : Nat) (tail' : List (Addr × Obj)) (h' : Heap) (tk' : Nat) (u1' : Option Value) (u2' : Option Value) (u3' : Option Value) (t' : Tok) (rs' : List Res) (rows' : RowsT) (last' : Int), walk_c_pre.2.1 oR' hv' hc' fv' fc' tail' h' tk' u1' u2' u3' t' rs' rows' last' := by
  intro oR' hv' hc' fv' fc' tail' h' tk' u1' u2' u3' t' rs' rows' last'
  have hw := walk_c_d.walk
  with_unfolding_all exact hk (α := (Obj) × (List Value) × (Nat) × (List Value) × (Nat) × (List (Addr × Obj)) × (Heap) × (Nat) × (Option Value) × (Option Value) × (Option Value) × (Tok) × (List Res) × (RowsT) × (Int)) (p := fun v => walk_c_pre.2.1 v.1 v.2.1 v.2.2.1 v.2.2.2.1 v.2.2.2.2.1 v.2.2.2.2.2.1 v.2.2.2.2.2.2.1 v.2.2.2.2.2.2.2.1 v.2.2.2.2.2.2.2.2.1 v.2.2.2.2.2.2.2.2.2.1 v.2.2.2.2.2.2.2.2.2.2.1 v.2.2.2.2.2.2.2.2.2.2.2.1 v.2.2.2.2.2.2.2.2.2.2.2.2.1 v.2.2.2.2.2.2.2.2.2.2.2.2.2.1 v.2.2.2.2.2.2.2.2.2.2.2.2.2.2) hw (oR', hv', hc', fv', fc', tail', h', tk', u1', u2', u3', t', rs', rows', last')
theorem walk : walk_b_pre.1 o2 D2 H1 Fo TT oC t3 tk3 zb10 := by
  exact walk_c_pre.2.2 walk_c_c_all walk_c_d_all
end walk_b
theorem walk_b_all : ∀ (o2' : Obj) (D2' : Addr) (H1' : Addr) (Fo' : Addr) (TT' : Addr) (oC' : Obj) (t3' : Tok) (tk3' : Nat) (zb10' : Heap), walk_b_pre.1 o2' D2' H1' Fo' TT' oC' t3' tk3' zb10' := by
  intro o2' D2' H1' Fo' TT' oC' t3' tk3' zb10'
  have hw := walk_b.walk
  with_unfolding_all exact hk (α := (Obj) × (Addr) × (Addr) × (Addr) × (Addr) × (Obj) × (Tok) × (Nat) × (Heap)) (p := fun v => walk_b_pre.1 v.1 v.2.1 v.2.2.1 v.2.2.2.1 v.2.2.2.2.1 v.2.2.2.2.2.1 v.2.2.2.2.2.2.1 v.2.2.2.2.2.2.2.1 v.2.2.2.2.2.2.2.2) hw (o2', D2', H1', Fo', TT', oC', t3', tk3', zb10')
theorem walk : due_spec_a_pre.1 w mean mg mb base h₀ outer env L m news s dp un gd Q E tb td mode most tm tmo r0 vds deeds g L1 h8 tk8 o8 := by
  exact walk_b_pre.2 walk_b_all
end due_spec_a
theorem due_spec_a_all : ∀ (w' : World) (mean' : ExcName → Option Value) (mg' : Str → Option Value) (mb' : Str → Option Value) (base' : Heap) (h₀' : Heap) (outer' : List Env) (env' : Env) (L' : Addr) (m' : Str → Option Value) (news' : List (Addr × Obj)) (s' : Shared) (dp' : Nat) (un' : Nat) (gd' : Option (List Code)) (Q' : Value → Shared → Prop) (E' : Value → Shared → Prop) (tb' : Addr) (td' : Addr) (mode' : Mode) (most' : Int) (tm' : Tok) (tmo' : Tok) (r0' : RowsT) (vds' : List Value) (deeds' : List Deed) (g' : Heap) (L1' : Addr) (h8' : Heap) (tk8' : Nat) (o8' : Obj), due_spec_a_pre.1 w' mean' mg' mb' base' h₀' outer' env' L' m' news' s' dp' un' gd' Q' E' tb' td' mode' most' tm' tmo' r0' vds' deeds' g' L1' h8' tk8' o8' := by
  intro w' mean' mg' mb' base' h₀' outer' env' L' m' news' s' dp' un' gd' Q' E' tb' td' mode' most' tm' tmo' r0' vds' deeds' g' L1' h8' tk8' o8'
  have hw := due_spec_a.walk
  with_unfolding_all exact hk (α := (World) × (ExcName → Option Value) × (Str → Option Value) × (Str → Option Value) × (Heap) × (Heap) × (List Env) × (Env) × (Addr) × (Str → Option Value) × (List (Addr × Obj)) × (Shared) × (Nat) × (Nat) × (Option (List Code)) × (Value → Shared → Prop) × (Value → Shared → Prop) × (Addr) × (Addr) × (Mode) × (Int) × (Tok) × (Tok) × (RowsT) × (List Value) × (List Deed) × (Heap) × (Addr) × (Heap) × (Nat) × (Obj)) (p := fun v => due_spec_a_pre.1 v.1 v.2.1 v.2.2.1 v.2.2.2.1 v.2.2.2.2.1 v.2.2.2.2.2.1 v.2.2.2.2.2.2.1 v.2.2.2.2.2.2.2.1 v.2.2.2.2.2.2.2.2.1 v.2.2.2.2.2.2.2.2.2.1 v.2.2.2.2.2.2.2.2.2.2.1 v.2.2.2.2.2.2.2.2.2.2.2.1 v.2.2.2.2.2.2.2.2.2.2.2.2.1 v.2.2.2.2.2.2.2.2.2.2.2.2.2.1 v.2.2.2.2.2.2.2.2.2.2.2.2.2.2.1 v.2.2.2.2.2.2.2.2.2.2.2.2.2.2.2.1 v.2.2.2.2.2.2.2.2.2.2.2.2.2.2.2.2.1 v.2.2.2.2.2.2.2.2.2.2.2.2.2.2.2.2.2.1 v.2.2.2.2.2.2.2.2.2.2.2.2.2.2.2.2.2.2.1 v.2.2.2.2.2.2.2.2.2.2.2.2.2.2.2.2.2.2.2.1 v.2.2.2.2.2.2.2.2.2.2.2.2.2.2.2.2.2.2.2.2.1 v.2.2.2.2.2.2.2.2.2.2.2.2.2.2.2.2.2.2.2.2.2.1 v.2.2.2.2.2.2.2.2.2.2.2.2.2.2.2.2.2.2.2.2.2.2.1 v.2.2.2.2.2.2.2.2.2.2.2.2.2.2.2.2.2.2.2.2.2.2.2.1 v.2.2.2.2.2.2.2.2.2.2.2.2.2.2.2.2.2.2.2.2.2.2.2.2.1 v.2.2.2.2.2.2.2.2.2.2.2.2.2.2.2.2.2.2.2.2.2.2.2.2.2.1 v.2.2.2.2.2.2.2.2.2.2.2.2.2.2.2.2.2.2.2.2.2.2.2.2.2.2.1 v.2.2.2.2.2.2.2.2.2.2.2.2.2.2.2.2.2.2.2.2.2.2.2.2.2.2.2.1 v.2.2.2.2.2.2.2.2.2.2.2.2.2.2.2.2.2.2.2.2.2.2.2.2.2.2.2.2.1 v.2.2.2.2.2.2.2.2.2.2.2.2.2.2.2.2.2.2.2.2.2.2.2.2.2.2.2.2.2.1 v.2.2.2.2.2.2.2.2.2.2.2.2.2.2.2.2.2.2.2.2.2.2.2.2.2.2.2.2.2.2) hw (w', mean', mg', mb', base', h₀', outer', env', L', m', news', s', dp', un', gd', Q', E', tb', td', mode', most', tm', tmo', r0', vds', deeds', g', L1', h8', tk8', o8')
theorem due_spec {w : World} {mean : ExcName → Option Value} {mg mb : Str → Option Value} {A₀ : Around} {base h₀ : Heap} {outer : List Env} {env : Env} {L : Addr} {m : Str → Option Value} {news : List (Addr × Obj)} {s : Shared} {dp un : Nat} {gd : Option (List Code)} {Q E : Value → Shared → Prop} (H : Here w mean mg mb A₀ base h₀ outer env L m news s.heap) (hdp : dp + 80 < recursionLimit) (hu : un + 900 < cLine) {tb td : Addr} {mode : Mode} {most : Int} {tm tmo : Tok} {r0 : RowsT} {vds : List Value} {deeds : List Deed}
    (hB : Begin w s.heap tb r0) (hD : SeqIs s.heap td vds) (pD : Paired (DeedAt s.heap) vds deeds) (hr0 : r0.length + deeds.length < 64) (hpos : PosR r0)
    (ret : ∀ a fa ea h' tk' (tl : List (Addr × Obj)) (vus : List Value) kf (ies : List Value) (ends : RowsT) t1, Fr h₀ L h' m →
      News h₀ L h' ((a, tupO #[.ref fa, .ref ea, .int (dRun mode most deeds (dInit mode r0)).2.last t1]) :: (fa, listOf vus.toArray kf) :: (ea, tupO ies.toArray) :: (news ++ tl)) →
      (∀ p ∈ (a, tupO #[.ref fa, .ref ea, .int (dRun mode most deeds (dInit mode r0)).2.last t1]) :: (fa, listOf vus.toArray kf) :: (ea, tupO ies.toArray) :: tl, ∀ q ∈ news, p.1 ≠ q.1) →
      Paired (DN tl 1) vus ((dRun mode most deeds (dInit mode r0)).1.map Res.d) → Paired (RN tl) ies ends → Sorted (dRun mode most deeds (dInit mode r0)).2.rows ends → Q (.ref a) { s with heap := h', toks := tk' }) :
    wpAny (model PySem.Challenge.rw_og0083_01.row.prog w) (aro dp un gd (env :: outer)) (call (.ref 311) [.str mode.s tm, .int most tmo, .ref tb, .ref td]) Q E s := by
  exact due_spec_a_pre.2 due_spec_a_all w mean mg mb A₀ base h₀ outer env L m news s dp un gd Q E H hdp hu tb td mode most tm tmo r0 vds deeds hB hD pD hr0 hpos ret
end
/-- the taker, its cells and its list of numbers, over a base -/
structure Tkr (w : World) (f c1 c2 lp lc cc : Addr) (oF o1 o2 oL oC : Obj) : Prop where
  ex : ∃ name qual params body scope dc md ct o275 cs c, ∃ (zs : List Int) (fs : Array Value) (t : Tok), (hd.heap_39 w.params).lookup 275 = some o275 ∧ TakeDef o275 name params body scope ∧ oF = fnMade name qual params body scope [(Str.ofString "place", c2), (Str.ofString "cells", c1)] dc md cc ct ∧
    oC.data = .fields fs ∧ fs[1]? = some (.str qual t) ∧ o1.data = .cell (some (.ref lc)) ∧ o2.data = .cell (some (.ref lp)) ∧ oL = listOf (List.toArray cs) c ∧ IntsAre cs zs ∧ 0 < zs.length ∧ zs.length ≤ 63
theorem Tkr.fn {w : World} {f c1 c2 lp lc cc : Addr} {oF o1 o2 oL oC : Obj} (x : Tkr w f c1 c2 lp lc cc oF o1 o2 oL oC) {h₀ h : Heap} {L : Addr} {news : List (Addr × Obj)} (N : News h₀ L h news) (hm : (f, oF) ∈ news) : FnAt f h := by
  obtain ⟨name, qual, params, body, scope, dc, md, ct, o275, cs, c, zs, fs, t, a1, a2, a3, r⟩ := x.ex
  subst a3
  exact FnAt.of N hm
theorem tk_gen {w : World} {f c1 c2 lp lc cc : Addr} {o1 o2 oC o275 : Obj} {name qual : Str} {params : Arguments} {body : List Stmt} {scope : Scope} {dc md ct : Value} {cs : List Value} {c : Nat} {zs : List Int} {fs : Array Value} {t : Tok} (P : Obj → Prop)
    (N : P (fnMade name qual params body scope [(Str.ofString "place", c2), (Str.ofString "cells", c1)] dc md cc ct)) (a1 : (hd.heap_39 w.params).lookup 275 = some o275) (a2 : TakeDef o275 name params body scope) (e1 : oC.data = .fields fs) (e2 : fs[1]? = some (.str qual t)) (d1 : o1.data = .cell (some (.ref lc))) (d2 : o2.data = .cell (some (.ref lp)))
    (hi : IntsAre cs zs) (z1 : 0 < zs.length) (z2 : zs.length ≤ 63) : ∃ oF, Tkr w f c1 c2 lp lc cc oF o1 o2 (listOf (List.toArray cs) c) oC ∧ P oF :=
  ⟨_, ⟨name, qual, params, body, scope, dc, md, ct, o275, cs, c, zs, fs, t, a1, a2, rfl, e1, e2, d1, d2, rfl, hi, z1, z2⟩, N⟩
noncomputable def placeO (k : Int) (t : Tok) (c : Nat) : Obj := listOf #[.int k t] c
section
variable {w : World} {mean : ExcName → Option Value} {mg mb : Str → Option Value} {A₀ : Around} {base h₀ : Heap} {outer : List Env} {env : Env} {L : Addr} {m : Str → Option Value} {news : List (Addr × Obj)} {s : Shared}
  {dp un : Nat} {gd : Option (List Code)} {Q E : Value → Shared → Prop}
theorem take_as (H : Here w mean mg mb A₀ base h₀ outer env L m news s.heap) (hdp : dp + 20 < recursionLimit) {f c1 c2 lp lc cc : Addr} {oF o1 o2 oL oC : Obj} (T : Tkr w f c1 c2 lp lc cc oF o1 o2 oL oC)
    (mF : (f, oF) ∈ news) (m1 : (c1, o1) ∈ news) (m2 : (c2, o2) ∈ news) (mL : (lc, oL) ∈ news) (mC : (cc, oC) ∈ news) {k lim : Int} {tk tl : Tok} {cp : Nat} {u : Obj → List (Addr × Obj)} (mp : (lp, placeO k tk cp) ∈ news) (U : UpdF lp (placeO k tk cp) news u) (hll : @Ne Nat lp lc)
    (hk : 0 ≤ k) (hk2 : k < 400) (hlim : 0 < lim) (hlim2 : lim ≤ 1000)
    (ret : ∀ r t h' tk' t' cp', 0 ≤ r → r < lim → Fr h₀ L h' m → News h₀ L h' (u (placeO (k + 1) t' cp')) → Q (.int r t) { s with heap := h', toks := tk' }) :
    wpAny (model PySem.Challenge.rw_og0083_01.row.prog w) (aro dp un gd (env :: outer)) (call (.ref f) [.int lim tl]) Q E s := by
  obtain ⟨name, qual, params, body, scope, dc, md, ct, o275, cs, c, zs, fs, t, a1, a2, a3, e1, e2, d1, d2, a5, a6, a7, a8⟩ := T.ex
  subst a3 a5
  exact take_spec H hdp a1 a2 (H.N _ mF).1 (codeRec_news H.N mC e1 e2) m1 d1 m2 d2 mL a6 a7 a8 mp U hll hk hk2 hlim hlim2 ret
end
theorem words36 : True := by
  k_with "call ref" => ((k_here; (with_reducible show wpAny _ _ (call (Value.ref _) [Value.int _ _] _) _ _ _); (k_dflt (show wpAny _ _ (call (Value.ref _) [Value.int _ _] []) _ _ _)); (k_dflt (refine' take_as (by walk_at "S here") (by walk_at "S room") (by assumption) (by k_mem) (by k_mem) (by k_mem) (by k_mem) (by k_mem) (by k_mem) (by k_updF) (by walk_at "S ne") (by omega) (by omega) (by decide) (by decide) ?_; k_whole)); (intro r' t' h' tk' tp' cp' lo' hi' F' N'); (try dsimp only at N'); (revert r' t' h' tk' tp' cp' lo' hi' F' N'; intro _ _ _ _ _ _ _ _ _ _); (try k_sweep)))
  k_with "S fn" => (exact Tkr.fn (by assumption) (by k_asm) (by k_mem))
  k_with "callWith ref" => ((k_here; k_dflt (refine' callWith_F (by walk_at "S fn") ?_; k_whole)))
  k_with "And" => (((with_reducible show FnAt _ _ ∧ _); k_dflt (refine ⟨by walk_at "S fn", ?_⟩); try dsimp only [List.nil_append, List.cons_append]))
  trivial
section
variable {prog : Program} {w : World} {A : Around} {E : Value → Shared → Prop} {s : Shared} {h₀ : Heap} {L : Addr} {m : Str → Option Value} {news : List (Addr × Obj)} {Q : Value → Shared → Prop}
theorem item_any {value slice : PySem.Expr} {t : Addr} {l : List Value} {k : Int} {u : Tok} (P : Value → Prop) (ht : s.heap.IsTuple t l.toArray) (hP : ∀ x ∈ l, P x) (h0 : 0 ≤ k) (h1 : k < (l.length : Int)) (hz : l.length ≤ 100) (h : ∀ x, P x → Q x s)
    (hs : subscripted slice false (.ref t) (.int k u) = operate [.ref t, .int k u] (getItem (.ref t) (.int k u))) : wpAny (model prog w) A (subscriptTail value slice (.ref t) (.int k u)) Q E s := by
  have ht' : IsTup s.heap t l.toArray := by obtain ⟨o, ho, r⟩ := ht; exact ⟨o, ho, r⟩
  have hlt : k.toNat < l.length := by omega
  refine item_tupleT (j := k.toNat) (x := l[k.toNat]) ht' (by omega) (by omega) ?_ (List.getElem?_eq_getElem hlt) (h _ (hP _ (List.getElem_mem hlt))) hs
  unfold seqIndex?
  have e1 : ¬ k < 0 := by omega
  simp only [e1, if_false]
  rw [if_pos (by simp only [Bool.and_eq_true, decide_eq_true_eq]; omega)]
noncomputable def OpTab (l : List Value) : Prop := ∃ a b c, l = [.str (Str.ofString "=") a, .str (Str.ofString ">") b, .str (Str.ofString ">=") c]
theorem item_op {value slice : PySem.Expr} {t : Addr} {l : List Value} {k : Int} {u : Tok} (ht : s.heap.IsTuple t l.toArray) (hl : OpTab l) (h0 : 0 ≤ k) (h1 : k < 3) (h : ∀ op t, Q (.str (Op.s op) t) s)
    (hs : subscripted slice false (.ref t) (.int k u) = operate [.ref t, .int k u] (getItem (.ref t) (.int k u))) : wpAny (model prog w) A (subscriptTail value slice (.ref t) (.int k u)) Q E s := by
  obtain ⟨a, b, c, rfl⟩ := hl
  refine item_any (fun x => ∃ op t, x = .str (Op.s op) t) ht ?_ h0 (by simpa using h1) (by simp) (fun x hx => by obtain ⟨op, t, rfl⟩ := hx; exact h op t) hs
  simp only [List.forall_mem_cons]
  exact ⟨⟨.eq, _, rfl⟩, ⟨.gt, _, rfl⟩, ⟨.ge, _, rfl⟩, by simp⟩
inductive WK where | wr | rw | de
noncomputable def WK.st : WK → Str
  | .wr => Str.ofString "write" | .rw => Str.ofString "rewrite" | .de => Str.ofString "delete"
noncomputable def WK.d : WK → Bts → Deed
  | .wr, b => .write b | .rw, b => .rewrite b | .de, _ => .delete
theorem WK.deed {k : WK} {b : Bts} {t u : Tok} : DeedI (k.d b) [.str k.st t, .bytes b u] := by
  cases k
  · exact .write b t u
  · exact .rewrite b t u
  · exact .delete2 b t u
noncomputable def WordTab (l : List Value) : Prop := ∃ a b c d, l = [.str (Str.ofString "write") a, .str (Str.ofString "rewrite") b, .str (Str.ofString "delete") c, .str (Str.ofString "write") d]
theorem item_word {value slice : PySem.Expr} {t : Addr} {l : List Value} {k : Int} {u : Tok} (ht : s.heap.IsTuple t l.toArray) (hl : WordTab l) (h0 : 0 ≤ k) (h1 : k < 4) (h : ∀ wk t, Q (.str (WK.st wk) t) s)
    (hs : subscripted slice false (.ref t) (.int k u) = operate [.ref t, .int k u] (getItem (.ref t) (.int k u))) : wpAny (model prog w) A (subscriptTail value slice (.ref t) (.int k u)) Q E s := by
  obtain ⟨a, b, c, d, rfl⟩ := hl
  refine item_any (fun x => ∃ wk t, x = .str (WK.st wk) t) ht ?_ h0 (by simpa using h1) (by simp) (fun x hx => by obtain ⟨op, t, rfl⟩ := hx; exact h op t) hs
  simp only [List.forall_mem_cons]
  exact ⟨⟨.wr, _, rfl⟩, ⟨.rw, _, rfl⟩, ⟨.de, _, rfl⟩, ⟨.wr, _, rfl⟩, by simp⟩
noncomputable def ModeTab (l : List Value) : Prop := ∃ a b c d e, l = [.str (Str.ofString "i-o") a, .str (Str.ofString "input") b, .str (Str.ofString "i-o") c, .str (Str.ofString "output") d, .str (Str.ofString "extend") e]
theorem item_mode {value slice : PySem.Expr} {t : Addr} {l : List Value} {k : Int} {u : Tok} (ht : s.heap.IsTuple t l.toArray) (hl : ModeTab l) (h0 : 0 ≤ k) (h1 : k < 5) (h : ∀ mode t, Q (.str (Mode.s mode) t) s)
    (hs : subscripted slice false (.ref t) (.int k u) = operate [.ref t, .int k u] (getItem (.ref t) (.int k u))) : wpAny (model prog w) A (subscriptTail value slice (.ref t) (.int k u)) Q E s := by
  obtain ⟨a, b, c, d, e, rfl⟩ := hl
  refine item_any (fun x => ∃ mode t, x = .str (Mode.s mode) t) ht ?_ h0 (by simpa using h1) (by simp) (fun x hx => by obtain ⟨op, t, rfl⟩ := hx; exact h op t) hs
  simp only [List.forall_mem_cons]
  exact ⟨⟨.io, _, rfl⟩, ⟨.inp, _, rfl⟩, ⟨.io, _, rfl⟩, ⟨.out, _, rfl⟩, ⟨.ext, _, rfl⟩, by simp⟩
noncomputable def IntTab (l : List Value) : Prop := ∃ a b c d e x y z u v, l = [.int x a, .int y b, .int z c, .int u d, .int v e]
theorem item_most {value slice : PySem.Expr} {t : Addr} {l : List Value} {k : Int} {u : Tok} (ht : s.heap.IsTuple t l.toArray) (hl : IntTab l) (h0 : 0 ≤ k) (h1 : k < 5) (h : ∀ n t, Q (.int n t) s)
    (hs : subscripted slice false (.ref t) (.int k u) = operate [.ref t, .int k u] (getItem (.ref t) (.int k u))) : wpAny (model prog w) A (subscriptTail value slice (.ref t) (.int k u)) Q E s := by
  obtain ⟨a, b, c, d, e, x, y, z, v1, v2, rfl⟩ := hl
  refine item_any (fun x => ∃ n t, x = .int n t) ht ?_ h0 (by simpa using h1) (by simp) (fun x hx => by obtain ⟨op, t, rfl⟩ := hx; exact h op t) hs
  simp only [List.forall_mem_cons]
  exact ⟨⟨_, _, rfl⟩, ⟨_, _, rfl⟩, ⟨_, _, rfl⟩, ⟨_, _, rfl⟩, ⟨_, _, rfl⟩, by simp⟩
noncomputable def BadTab (l : List Value) : Prop := ∃ a b c d, l = [.str (Str.ofString "<") a, .str (Str.ofString "<=") b, .str (Str.ofString "") c, .str (Str.ofString "<>") d]
noncomputable def BadOp (o : Str) : Prop := (o == Str.ofString "=") = false ∧ (o == Str.ofString ">") = false ∧ (o == Str.ofString ">=") = false
theorem item_bad {value slice : PySem.Expr} {t : Addr} {l : List Value} {k : Int} {u : Tok} (ht : s.heap.IsTuple t l.toArray) (hl : BadTab l) (h0 : 0 ≤ k) (h1 : k < 4) (h : ∀ o t, BadOp o → Q (.str o t) s)
    (hs : subscripted slice false (.ref t) (.int k u) = operate [.ref t, .int k u] (getItem (.ref t) (.int k u))) : wpAny (model prog w) A (subscriptTail value slice (.ref t) (.int k u)) Q E s := by
  obtain ⟨a, b, c, d, rfl⟩ := hl
  refine item_any (fun x => ∃ o t, BadOp o ∧ x = .str o t) ht ?_ h0 (by simpa using h1) (by simp) (fun x hx => by obtain ⟨op, t, hb, rfl⟩ := hx; exact h op t hb) hs
  simp only [List.forall_mem_cons]
  exact ⟨⟨_, _, by unfold BadOp; decide, rfl⟩, ⟨_, _, by unfold BadOp; decide, rfl⟩, ⟨_, _, by unfold BadOp; decide, rfl⟩, ⟨_, _, by unfold BadOp; decide, rfl⟩, by simp⟩
theorem bytes_any {l : Addr} {vs : List Value} {ns : List Int} (F : Fr h₀ L s.heap m) (N : News h₀ L s.heap news) (hl : s.heap.IsList l vs.toArray) (hi : IntsAre vs ns) (hr : ∀ n ∈ ns, 0 ≤ n ∧ n < 256) (hz : vs.length ≤ 1000) (hh : A.handled = none)
    (h : ∀ b h' t k, Fr h₀ L h' m → News h₀ L h' news → Q (.bytes b t) { s with heap := h', toks := k }) : wpAny (model prog w) A (call (.type "bytes") [.ref l]) Q E s :=
  bytes_K F N hl hi hr (by rw [sizeLine_eq]; omega) hh fun h' t k F' N' _ => h _ h' t k F' N'
end
theorem words37 : True := by
  k_with "S tab" => (exact ⟨_, _, _, rfl⟩)
  k_with "S tab" => (exact ⟨_, _, _, _, rfl⟩)
  k_with "S tab" => (exact ⟨_, _, _, _, _, rfl⟩)
  k_with "S tab" => (exact ⟨_, _, _, _, _, _, _, _, _, _, rfl⟩)
  k_with "W1" => ((refine' item_op (by walk_at "S tuple") (by walk_at "S tab") (by omega) (by omega) ?_ (by with_unfolding_all rfl); k_whole))
  k_with "W2" => ((refine' item_word (by walk_at "S tuple") (by walk_at "S tab") (by omega) (by omega) ?_ (by with_unfolding_all rfl); k_whole))
  k_with "W3" => ((refine' item_mode (by walk_at "S tuple") (by walk_at "S tab") (by omega) (by omega) ?_ (by with_unfolding_all rfl); k_whole))
  k_with "W4" => ((refine' item_most (by walk_at "S tuple") (by walk_at "S tab") (by omega) (by omega) ?_ (by with_unfolding_all rfl); k_whole))
  k_with "W5" => ((refine' item_bad (by walk_at "S tuple") (by walk_at "S tab") (by omega) (by omega) ?_ (by with_unfolding_all rfl); k_whole))
  trivial
local macro_rules | `(tactic| walk_at "subscriptTail Tuple") => `(tactic| (k_here; (with_reducible show wpAny _ _ (subscriptTail _ _ (Value.ref _) (Value.int _ _)) _ _ _); k_dflt (first | ((k_extra "W1"); intro op' t') | ((k_extra "W2"); intro wk' t') | ((k_extra "W3"); intro mode' t') | ((k_extra "W4"); intro most' t') | ((k_extra "W5"); intro op' t' bad'))))
theorem words38 : True := by
  k_with "call type:bytes" => ((k_here; (with_reducible show wpAny _ _ (call (Value.type _) [Value.ref _]) _ _ _); k_dflt (refine' bytes_any (by k_asm) (by k_asm) (by exact News.isList (by k_asm) (by k_mem)) (by assumption) (by assumption) (by omega) (by with_unfolding_all rfl) ?_; k_whole); (intro _ _ _ _ _ _); (try k_sweep)))
  trivial
section
set_option maxHeartbeats 2000000 in
noncomputable def deed_spec_a_pre : (Pa : (World) → (ExcName → Option Value) → (Str → Option Value) → (Str → Option Value) → (Heap) → (Heap) → (List Env) → (Env) → (Addr) → (Str → Option Value) → (List (Addr × Obj)) → (Shared) → (Nat) → (Nat) → (Option (List Code)) → (Value → Shared → Prop) → (Value → Shared → Prop) → (Addr) → (Addr) → (Addr) → (Addr) → (Addr) → (Addr) → (Obj) → (Obj) → (Obj) → (Obj) → (Obj) → (Int) → (Tok) → (Nat) → (Obj → List (Addr × Obj)) → (Heap) → (Addr) → (Heap) → (Nat) → (Obj) → Prop) ×' ((∀ w mean mg mb base h₀ outer env L m news s dp un gd Q E f c1 c2 lp lc cc oF o1 o2 oL oC k tk cp u g L1 h8 tk8 oK, Pa w mean mg mb base h₀ outer env L m news s dp un gd Q E f c1 c2 lp lc cc oF o1 o2 oL oC k tk cp u g L1 h8 tk8 oK) → (∀ (w : World) (mean : ExcName → Option Value) (mg mb : Str → Option Value) (A₀ : Around) (base h₀ : Heap) (outer : List Env) (env : Env) (L : Addr) (m : Str → Option Value) (news : List (Addr × Obj)) (s : Shared) (dp un : Nat) (gd : Option (List Code)) (Q E : Value → Shared → Prop) (H : Here w mean mg mb A₀ base h₀ outer env L m news s.heap) (hdp : dp + 80 < recursionLimit) (hu : un + 900 < cLine) (f c1 c2 lp lc cc : Addr) (oF o1 o2 oL oC : Obj) (K : Tkr w f c1 c2 lp lc cc oF o1 o2 oL oC) (mF : (f, oF) ∈ news) (m1 : (c1, o1) ∈ news) (m2 : (c2, o2) ∈ news) (mL : (lc, oL) ∈ news) (mC : (cc, oC) ∈ news) (k : Int) (tk : Tok) (cp : Nat) (u : Obj → List (Addr × Obj)) (mp : (lp, placeO k tk cp) ∈ news) (U : UpdF lp (placeO k tk cp) news u) (n1 : @Ne Nat lp lc) (n2 : @Ne Nat lp f) (n3 : @Ne Nat lp c1) (n4 : @Ne Nat lp c2) (n5 : @Ne Nat lp cc) (hk : 0 ≤ k) (hk2 : k < 390) (ret : ∀ a h' tk' k' t' cp' vs d, k ≤ k' → k' ≤ k + 6 → Fr h₀ L h' m → News h₀ L h' ((a, tupO (List.toArray vs)) :: u (placeO k' t' cp')) → (∀ p ∈ news, p.1 ≠ a) → DeedI d vs → Q (.ref a) { s with heap := h', toks := tk' }), wpAny (model PySem.Challenge.rw_og0083_01.row.prog w) (aro dp un gd (env :: outer)) (call (.ref 328) [.ref f]) Q E s)) := by
  refine' ⟨_, fun hPa => ?_⟩
  rotate_left 1
  · skip
    intro w mean mg mb A₀ base h₀ outer env L m news s dp un gd Q E H hdp hu f c1 c2 lp lc cc oF o1 o2 oL oC K mF m1 m2 mL mC k tk cp u mp U n1 n2 n3 n4 n5 hk hk2 ret
    refine H.cutK (dp := dp) (un := un) (gd := gd) (muts := [(lp, placeO k tk cp), (f, oF), (c1, o1), (c2, o2), (lc, oL), (cc, oC)]) (by simp [mF, m1, m2, mL, mp, mC]) (fun g C st' B X T fr kp ns hN => ?_)
    clear H
    (revert C T; revert X; k_fill; intro X C T)
    have fin : ∀ a h' tk' L' m' led k' t' cp' vs d, Fr g L' h' m' → News g L' h' led → (a, tupO (List.toArray vs)) ∈ led → (lp, placeO k' t' cp') ∈ led → (f, oF) ∈ led → (c1, o1) ∈ led → (c2, o2) ∈ led → (lc, oL) ∈ led → (cc, oC) ∈ led → OwnOff [(a, tupO (List.toArray vs))] [lp, f, c1, c2, lc, cc] → DeedI d vs → k ≤ k' → k' ≤ k + 6 → Q (.ref a) { s with heap := h', toks := tk' } := by
      intro a h' tk' L' m' led k' t' cp' vs d F' N' b1 b2 b3 b4 b5 b6 b7 o hd hk1 hk2
      have nn := ns _ _ ((aft_of F' N').sub (outs := [(lp, placeO k' t' cp'), (f, oF), (c1, o1), (c2, o2), (lc, oL), (cc, oC)]) (by simp [b2, b3, b4, b5, b6, b7]))
      have na := ns _ _ ((aft_of F' N').sub (outs := [(a, tupO (List.toArray vs))]) (by simp [b1]))
      have nt := news_turn C hN U (o' := placeO k' t' cp') ((aft_of F' N').sub (outs := [(lp, placeO k' t' cp'), (f, oF), (c1, o1), (c2, o2), (lc, oL), (cc, oC)]) (by simp [b2, b3, b4, b5, b6, b7])) nn (fun p hp hq => kp _ p F'.keep hp hq) (by simp) (by simp)
      refine ret a h' tk' k' t' cp' vs d hk1 hk2 (fr _ F'.keep) (fun p hp => ?_) (fun p hp e => fresh_off C hN (fun p hp => N' p (by rw [List.mem_singleton.mp hp]; exact b1)) o (a, tupO (List.toArray vs)) (.head _) p hp e.symm) hd
      rcases List.mem_cons.mp hp with rfl | hp
      · exact na _ (.head _)
      · exact nt p hp
    refine wpAny_call ?_
    walk_at "S enterC"
    rename_i L1 h8 tk8 F8 l8 oK dK N8
    k_sweep
    revert N8; revert dK; revert l8; revert F8; revert fin; revert T; revert C; revert X; revert hN; revert ns; revert kp; revert fr; revert B; revert st'; revert ret; revert hk2; revert hk; revert n5; revert n4; revert n3; revert n2; revert n1; revert U; revert mp; revert mC; revert mL; revert m2; revert m1; revert mF; revert K; revert hu; revert hdp
    exact hPa w mean mg mb base h₀ outer env L m news s dp un gd Q E f c1 c2 lp lc cc oF o1 o2 oL oC k tk cp u g L1 h8 tk8 oK
noncomputable def deed_spec_a_v : (World) × (ExcName → Option Value) × (Str → Option Value) × (Str → Option Value) × (Heap) × (Heap) × (List Env) × (Env) × (Addr) × (Str → Option Value) × (List (Addr × Obj)) × (Shared) × (Nat) × (Nat) × (Option (List Code)) × (Value → Shared → Prop) × (Value → Shared → Prop) × (Addr) × (Addr) × (Addr) × (Addr) × (Addr) × (Addr) × (Obj) × (Obj) × (Obj) × (Obj) × (Obj) × (Int) × (Tok) × (Nat) × (Obj → List (Addr × Obj)) × (Heap) × (Addr) × (Heap) × (Nat) × (Obj) := @Classical.epsilon _ ⟨(w0, (fun _ => none), (fun _ => none), (fun _ => none), {}, {}, [], default, 0, (fun _ => none), [], {}, 0, 0, none, (fun _ => (fun _ => True)), (fun _ => (fun _ => True)), 0, 0, 0, 0, 0, 0, default, default, default, default, default, 0, 0, 0, (fun _ => []), {}, 0, {}, 0, default)⟩ fun v => ¬ deed_spec_a_pre.1 v.1 v.2.1 v.2.2.1 v.2.2.2.1 v.2.2.2.2.1 v.2.2.2.2.2.1 v.2.2.2.2.2.2.1 v.2.2.2.2.2.2.2.1 v.2.2.2.2.2.2.2.2.1 v.2.2.2.2.2.2.2.2.2.1 v.2.2.2.2.2.2.2.2.2.2.1 v.2.2.2.2.2.2.2.2.2.2.2.1 v.2.2.2.2.2.2.2.2.2.2.2.2.1 v.2.2.2.2.2.2.2.2.2.2.2.2.2.1 v.2.2.2.2.2.2.2.2.2.2.2.2.2.2.1 v.2.2.2.2.2.2.2.2.2.2.2.2.2.2.2.1 v.2.2.2.2.2.2.2.2.2.2.2.2.2.2.2.2.1 v.2.2.2.2.2.2.2.2.2.2.2.2.2.2.2.2.2.1 v.2.2.2.2.2.2.2.2.2.2.2.2.2.2.2.2.2.2.1 v.2.2.2.2.2.2.2.2.2.2.2.2.2.2.2.2.2.2.2.1 v.2.2.2.2.2.2.2.2.2.2.2.2.2.2.2.2.2.2.2.2.1 v.2.2.2.2.2.2.2.2.2.2.2.2.2.2.2.2.2.2.2.2.2.1 v.2.2.2.2.2.2.2.2.2.2.2.2.2.2.2.2.2.2.2.2.2.2.1 v.2.2.2.2.2.2.2.2.2.2.2.2.2.2.2.2.2.2.2.2.2.2.2.1 v.2.2.2.2.2.2.2.2.2.2.2.2.2.2.2.2.2.2.2.2.2.2.2.2.1 v.2.2.2.2.2.2.2.2.2.2.2.2.2.2.2.2.2.2.2.2.2.2.2.2.2.1 v.2.2.2.2.2.2.2.2.2.2.2.2.2.2.2.2.2.2.2.2.2.2.2.2.2.2.1 v.2.2.2.2.2.2.2.2.2.2.2.2.2.2.2.2.2.2.2.2.2.2.2.2.2.2.2.1 v.2.2.2.2.2.2.2.2.2.2.2.2.2.2.2.2.2.2.2.2.2.2.2.2.2.2.2.2.1 v.2.2.2.2.2.2.2.2.2.2.2.2.2.2.2.2.2.2.2.2.2.2.2.2.2.2.2.2.2.1 v.2.2.2.2.2.2.2.2.2.2.2.2.2.2.2.2.2.2.2.2.2.2.2.2.2.2.2.2.2.2.1 v.2.2.2.2.2.2.2.2.2.2.2.2.2.2.2.2.2.2.2.2.2.2.2.2.2.2.2.2.2.2.2.1 v.2.2.2.2.2.2.2.2.2.2.2.2.2.2.2.2.2.2.2.2.2.2.2.2.2.2.2.2.2.2.2.2.1 v.2.2.2.2.2.2.2.2.2.2.2.2.2.2.2.2.2.2.2.2.2.2.2.2.2.2.2.2.2.2.2.2.2.1 v.2.2.2.2.2.2.2.2.2.2.2.2.2.2.2.2.2.2.2.2.2.2.2.2.2.2.2.2.2.2.2.2.2.2.1 v.2.2.2.2.2.2.2.2.2.2.2.2.2.2.2.2.2.2.2.2.2.2.2.2.2.2.2.2.2.2.2.2.2.2.2.1 v.2.2.2.2.2.2.2.2.2.2.2.2.2.2.2.2.2.2.2.2.2.2.2.2.2.2.2.2.2.2.2.2.2.2.2.2
namespace deed_spec_a
noncomputable def w : World := deed_spec_a_v.1
noncomputable def mean : ExcName → Option Value := deed_spec_a_v.2.1
noncomputable def mg : Str → Option Value := deed_spec_a_v.2.2.1
noncomputable def mb : Str → Option Value := deed_spec_a_v.2.2.2.1
noncomputable def base : Heap := deed_spec_a_v.2.2.2.2.1
noncomputable def h₀ : Heap := deed_spec_a_v.2.2.2.2.2.1
noncomputable def outer : List Env := deed_spec_a_v.2.2.2.2.2.2.1
noncomputable def env : Env := deed_spec_a_v.2.2.2.2.2.2.2.1
noncomputable def L : Addr := deed_spec_a_v.2.2.2.2.2.2.2.2.1
noncomputable def m : Str → Option Value := deed_spec_a_v.2.2.2.2.2.2.2.2.2.1
noncomputable def news : List (Addr × Obj) := deed_spec_a_v.2.2.2.2.2.2.2.2.2.2.1
noncomputable def s : Shared := deed_spec_a_v.2.2.2.2.2.2.2.2.2.2.2.1
noncomputable def dp : Nat := deed_spec_a_v.2.2.2.2.2.2.2.2.2.2.2.2.1
noncomputable def un : Nat := deed_spec_a_v.2.2.2.2.2.2.2.2.2.2.2.2.2.1
noncomputable def gd : Option (List Code) := deed_spec_a_v.2.2.2.2.2.2.2.2.2.2.2.2.2.2.1
noncomputable def Q : Value → Shared → Prop := deed_spec_a_v.2.2.2.2.2.2.2.2.2.2.2.2.2.2.2.1
noncomputable def E : Value → Shared → Prop := deed_spec_a_v.2.2.2.2.2.2.2.2.2.2.2.2.2.2.2.2.1
noncomputable def f : Addr := deed_spec_a_v.2.2.2.2.2.2.2.2.2.2.2.2.2.2.2.2.2.1
noncomputable def c1 : Addr := deed_spec_a_v.2.2.2.2.2.2.2.2.2.2.2.2.2.2.2.2.2.2.1
noncomputable def c2 : Addr := deed_spec_a_v.2.2.2.2.2.2.2.2.2.2.2.2.2.2.2.2.2.2.2.1
noncomputable def lp : Addr := deed_spec_a_v.2.2.2.2.2.2.2.2.2.2.2.2.2.2.2.2.2.2.2.2.1
noncomputable def lc : Addr := deed_spec_a_v.2.2.2.2.2.2.2.2.2.2.2.2.2.2.2.2.2.2.2.2.2.1
noncomputable def cc : Addr := deed_spec_a_v.2.2.2.2.2.2.2.2.2.2.2.2.2.2.2.2.2.2.2.2.2.2.1
noncomputable def oF : Obj := deed_spec_a_v.2.2.2.2.2.2.2.2.2.2.2.2.2.2.2.2.2.2.2.2.2.2.2.1
noncomputable def o1 : Obj := deed_spec_a_v.2.2.2.2.2.2.2.2.2.2.2.2.2.2.2.2.2.2.2.2.2.2.2.2.1
noncomputable def o2 : Obj := deed_spec_a_v.2.2.2.2.2.2.2.2.2.2.2.2.2.2.2.2.2.2.2.2.2.2.2.2.2.1
noncomputable def oL : Obj := deed_spec_a_v.2.2.2.2.2.2.2.2.2.2.2.2.2.2.2.2.2.2.2.2.2.2.2.2.2.2.1
noncomputable def oC : Obj := deed_spec_a_v.2.2.2.2.2.2.2.2.2.2.2.2.2.2.2.2.2.2.2.2.2.2.2.2.2.2.2.1
noncomputable def k : Int := deed_spec_a_v.2.2.2.2.2.2.2.2.2.2.2.2.2.2.2.2.2.2.2.2.2.2.2.2.2.2.2.2.1
noncomputable def tk : Tok := deed_spec_a_v.2.2.2.2.2.2.2.2.2.2.2.2.2.2.2.2.2.2.2.2.2.2.2.2.2.2.2.2.2.1
noncomputable def cp : Nat := deed_spec_a_v.2.2.2.2.2.2.2.2.2.2.2.2.2.2.2.2.2.2.2.2.2.2.2.2.2.2.2.2.2.2.1
noncomputable def u : Obj → List (Addr × Obj) := deed_spec_a_v.2.2.2.2.2.2.2.2.2.2.2.2.2.2.2.2.2.2.2.2.2.2.2.2.2.2.2.2.2.2.2.1
noncomputable def g : Heap := deed_spec_a_v.2.2.2.2.2.2.2.2.2.2.2.2.2.2.2.2.2.2.2.2.2.2.2.2.2.2.2.2.2.2.2.2.1
noncomputable def L1 : Addr := deed_spec_a_v.2.2.2.2.2.2.2.2.2.2.2.2.2.2.2.2.2.2.2.2.2.2.2.2.2.2.2.2.2.2.2.2.2.1
noncomputable def h8 : Heap := deed_spec_a_v.2.2.2.2.2.2.2.2.2.2.2.2.2.2.2.2.2.2.2.2.2.2.2.2.2.2.2.2.2.2.2.2.2.2.1
noncomputable def tk8 : Nat := deed_spec_a_v.2.2.2.2.2.2.2.2.2.2.2.2.2.2.2.2.2.2.2.2.2.2.2.2.2.2.2.2.2.2.2.2.2.2.2.1
noncomputable def oK : Obj := deed_spec_a_v.2.2.2.2.2.2.2.2.2.2.2.2.2.2.2.2.2.2.2.2.2.2.2.2.2.2.2.2.2.2.2.2.2.2.2.2
set_option maxHeartbeats 2000000 in
noncomputable def walk_b_pre : (Pb : (Int) → (Tok) → (Int) → (Heap) → (Nat) → (Tok) → (Nat) → (Heap) → (Nat) → (Tok) → (Tok) → (Tok) → Prop) ×' ((∀ r1 t1 r2 zb3 zb4 tp2 cp2 h1 zb5 zb6 zb7 zb8, Pb r1 t1 r2 zb3 zb4 tp2 cp2 h1 zb5 zb6 zb7 zb8) → (deed_spec_a_pre.1 w mean mg mb base h₀ outer env L m news s dp un gd Q E f c1 c2 lp lc cc oF o1 o2 oL oC k tk cp u g L1 h8 tk8 oK)) := by
  refine' ⟨_, fun hPb => ?_⟩
  rotate_left 1
  · skip
    delta deed_spec_a_pre
    dsimp only
    intro hdp hu K mF m1 m2 mL mC mp U n1 n2 n3 n4 n5 hk hk2 ret st' B fr kp ns hN X C T fin F8 l8 dK N8
    k_with "eval ListComp" => ((rename Flagged 22 => mk22); ((k_dflt (refine lc_U (F₀ := by k_asm) (by with_unfolding_all rfl) (by decide) (by rfl) (by decide) (by rfl) ?_))))
    have mk22 : Flagged 22 := ⟨⟩
    k_steps
    rename_i r1 t1 _ _ tp1 cp1 lo1 hi1 _ r2 t2 _ _ tp2 cp2 lo2 hi2 _ _ h1 _ _ _ _ hr1 F1 N1 _
    have hn2 : (r2 - 0).toNat < 3 := by omega
    k_sweep
    rename_i zb0 zb1 zb2 zb3 zb4 zb5 zb6 zb7 zb8 zb9
    revert hn2; revert zb9; revert N1; revert F1; revert hr1; revert hi2; revert lo2; revert hi1; revert lo1; revert dK; revert l8; revert fin; revert T; revert C; revert X; revert hN; revert ns; revert kp; revert fr; revert B; revert st'; revert ret; revert hk2; revert hk; revert n5; revert n4; revert n3; revert n2; revert n1; revert U; revert mp; revert mC; revert mL; revert m2; revert m1; revert mF; revert K; revert hu; revert hdp
    exact hPb r1 t1 r2 zb3 zb4 tp2 cp2 h1 zb5 zb6 zb7 zb8
noncomputable def walk_b_v : (Int) × (Tok) × (Int) × (Heap) × (Nat) × (Tok) × (Nat) × (Heap) × (Nat) × (Tok) × (Tok) × (Tok) := @Classical.epsilon _ ⟨(0, 0, 0, {}, 0, 0, 0, {}, 0, 0, 0, 0)⟩ fun v => ¬ walk_b_pre.1 v.1 v.2.1 v.2.2.1 v.2.2.2.1 v.2.2.2.2.1 v.2.2.2.2.2.1 v.2.2.2.2.2.2.1 v.2.2.2.2.2.2.2.1 v.2.2.2.2.2.2.2.2.1 v.2.2.2.2.2.2.2.2.2.1 v.2.2.2.2.2.2.2.2.2.2.1 v.2.2.2.2.2.2.2.2.2.2.2
namespace walk_b
noncomputable def r1 : Int := walk_b_v.1
noncomputable def t1 : Tok := walk_b_v.2.1
noncomputable def r2 : Int := walk_b_v.2.2.1
noncomputable def zb3 : Heap := walk_b_v.2.2.2.1
noncomputable def zb4 : Nat := walk_b_v.2.2.2.2.1
noncomputable def tp2 : Tok := walk_b_v.2.2.2.2.2.1
noncomputable def cp2 : Nat := walk_b_v.2.2.2.2.2.2.1
noncomputable def h1 : Heap := walk_b_v.2.2.2.2.2.2.2.1
noncomputable def zb5 : Nat := walk_b_v.2.2.2.2.2.2.2.2.1
noncomputable def zb6 : Tok := walk_b_v.2.2.2.2.2.2.2.2.2.1
noncomputable def zb7 : Tok := walk_b_v.2.2.2.2.2.2.2.2.2.2.1
noncomputable def zb8 : Tok := walk_b_v.2.2.2.2.2.2.2.2.2.2.2
set_option maxHeartbeats 2000000 in
noncomputable def walk_d_pre : (Pd : (Heap) → (List Value) → (Int) → (Tok) → (Nat) → (List Int) → (Addr) → (Heap) → (Nat) → Prop) ×' ((∀ g3 ys kk zd0 cp3 zs D3 h3 tk3, Pd g3 ys kk zd0 cp3 zs D3 h3 tk3) → (walk_b_pre.1 r1 t1 r2 zb3 zb4 tp2 cp2 h1 zb5 zb6 zb7 zb8)) := by
  refine' ⟨_, fun hPd => ?_⟩
  rotate_left 1
  · skip
    delta walk_b_pre
    dsimp only
    intro hdp hu K mF m1 m2 mL mC mp U n1 n2 n3 n4 n5 hk hk2 ret st' B fr kp ns hN X C T fin l8 dK lo1 hi1 lo2 hi2 hr1 F1 N1 zb9 hn2
    have mk22 : Flagged 22 := ⟨⟩
    refine cs_S (σ := Int × Tok × Nat) (fun c => [(L1 + 1, oK), (lp, placeO c.1 c.2.1 c.2.2), (f, oF), (c1, o1), (c2, o2), (lc, oL), (cc, oC)]) [L1 + 1, lp, f, c1, c2, lc, cc] (k + 1 + 1, tp2, cp2) (fun _ => rfl) (src_range rfl hr1 (small_one (by decide) (by decide) (by omega) (by omega)) (rangeSize_nat _ _)) F1 N1 (by rw [sizeLine_eq]; omega) (fun _ _ => trivial)
      (fun i ys c tail => tail = [] ∧ c.1 = k + 2 + i ∧ ∃ zs, IntsAre ys zs ∧ zs.length = i ∧ ∀ n ∈ zs, 0 ≤ n ∧ n < 256) ⟨rfl, by simp; omega, [], .nil, rfl, by simp⟩ ?_ ?_
    · rintro i ys ⟨kk, tk3, cp3⟩ tail v I oI C' oC' D m₂ h tk E' hi hP ⟨rfl, hkk, zs, hz1, hz3, hz2⟩ hC hx F N off own ne
      obtain ⟨t, rfl⟩ := hP
      dsimp only at hkk
      simp only [List.cons_append, List.nil_append] at N
      simp only [Off3, and_true] at off
      repeat (have _ := off.1.1; have _ := off.1.2.1; have _ := off.1.2.2; replace off := And.right off)
      have _ := off.1; have _ := off.2.1; have _ := off.2.2; clear off
      have _ := ne.1; have _ := ne.2.1; have _ := ne.2.2; clear ne
      k_steps
      rename_i r5 t5 h5 _ tp5 cp5 lo5 hi5 F5 N5
      refine TEndS.intro [] (kk + 1, tp5, cp5) F5 N5 (fun _ hp => hp) own_nil ⟨rfl, by dsimp only; omega, zs ++ [r5], hz1.append (.cons _ _ .nil), by simp [hz3], ?_⟩
      intro n hn
      rcases List.mem_append.mp hn with hn | hn
      · exact hz2 n hn
      · rw [List.mem_singleton.mp hn]; exact ⟨lo5, hi5⟩
    · rintro g3 ys ⟨kk, tk3, cp3⟩ tail ⟨rfl, hkk, zs, hz1, hz3, hz2⟩ own
      dsimp only at hkk
      unfold FinE
      intro D3 h3 tk3 F3 N3 off3
      simp only [List.cons_append, List.nil_append] at N3
      simp only [List.cons_append, List.nil_append, Off1, and_true] at off3
      iterate 6 (have _ := And.left off3; replace off3 := And.right off3)
      have _ := off3; clear off3
      have hyl := hz1.length
      k_sweep
      rename_i zd0 zd1 zd2 zd3 zd4 zd5 zd6 zd7
      revert hyl; revert zd7; revert zd6; revert zd5; revert zd4; revert zd3; revert zd2; revert zd1; revert N3; revert F3; revert own; revert hz2; revert hz3; revert hz1; revert hkk; revert hn2; revert zb9; revert hr1; revert hi2; revert lo2; revert hi1; revert lo1; revert dK; revert l8; revert fin; revert T; revert C; revert X; revert hN; revert ns; revert kp; revert fr; revert B; revert st'; revert ret; revert hk2; revert hk; revert n5; revert n4; revert n3; revert n2; revert n1; revert U; revert mp; revert mC; revert mL; revert m2; revert m1; revert mF; revert K; revert hu; revert hdp
      exact hPd g3 ys kk zd0 cp3 zs D3 h3 tk3
noncomputable def walk_d_v : (Heap) × (List Value) × (Int) × (Tok) × (Nat) × (List Int) × (Addr) × (Heap) × (Nat) := @Classical.epsilon _ ⟨({}, [], 0, 0, 0, [], 0, {}, 0)⟩ fun v => ¬ walk_d_pre.1 v.1 v.2.1 v.2.2.1 v.2.2.2.1 v.2.2.2.2.1 v.2.2.2.2.2.1 v.2.2.2.2.2.2.1 v.2.2.2.2.2.2.2.1 v.2.2.2.2.2.2.2.2
namespace walk_d
noncomputable def g3 : Heap := walk_d_v.1
noncomputable def ys : List Value := walk_d_v.2.1
noncomputable def kk : Int := walk_d_v.2.2.1
noncomputable def zd0 : Tok := walk_d_v.2.2.2.1
noncomputable def cp3 : Nat := walk_d_v.2.2.2.2.1
noncomputable def zs : List Int := walk_d_v.2.2.2.2.2.1
noncomputable def D3 : Addr := walk_d_v.2.2.2.2.2.2.1
noncomputable def h3 : Heap := walk_d_v.2.2.2.2.2.2.2.1
noncomputable def tk3 : Nat := walk_d_v.2.2.2.2.2.2.2.2
set_option maxHeartbeats 2000000 in
theorem walk : walk_d_pre.1 g3 ys kk zd0 cp3 zs D3 h3 tk3 := by
  delta walk_d_pre
  dsimp only
  intro hdp hu K mF m1 m2 mL mC mp U n1 n2 n3 n4 n5 hk hk2 ret st' B fr kp ns hN X C T fin l8 dK lo1 hi1 lo2 hi2 hr1 zb9 hn2 hkk hz1 hz3 hz2 own F3 N3 zd1 zd2 zd3 zd4 zd5 zd6 zd7 hyl
  have mk22 : Flagged 22 := ⟨⟩
  k_steps
  · exact fin _ _ _ _ _ _ _ _ _ _ _ (by assumption) (by assumption) (by k_mem) (by k_mem) (by k_mem) (by k_mem) (by k_mem) (by k_mem) (by k_mem) (own_one (by walk_at "S ones")) (.read _) (by omega) (by omega)
  · exact fin _ _ _ _ _ _ _ _ _ _ _ (by assumption) (by assumption) (by k_mem) (by k_mem) (by k_mem) (by k_mem) (by k_mem) (by k_mem) (by k_mem) (own_one (by walk_at "S ones")) (.start ..) (by omega) (by omega)
  · exact fin _ _ _ _ _ _ _ _ _ _ _ (by assumption) (by assumption) (by k_mem) (by k_mem) (by k_mem) (by k_mem) (by k_mem) (by k_mem) (by k_mem) (own_one (by walk_at "S ones")) WK.deed (by omega) (by omega)
end walk_d
theorem walk_d_all : ∀ (g3' : Heap) (ys' : List Value) (kk' : Int) (zd0' : Tok) (cp3' : Nat) (zs' : List Int) (D3' : Addr) (h3' : Heap) (tk3' : Nat), walk_d_pre.1 g3' ys' kk' zd0' cp3' zs' D3' h3' tk3' := by
  intro g3' ys' kk' zd0' cp3' zs' D3' h3' tk3'
  have hw := walk_d.walk
  with_unfolding_all exact hk (α := (Heap) × (List Value) × (Int) × (Tok) × (Nat) × (List Int) × (Addr) × (Heap) × (Nat)) (p := fun v => walk_d_pre.1 v.1 v.2.1 v.2.2.1 v.2.2.2.1 v.2.2.2.2.1 v.2.2.2.2.2.1 v.2.2.2.2.2.2.1 v.2.2.2.2.2.2.2.1 v.2.2.2.2.2.2.2.2) hw (g3', ys', kk', zd0', cp3', zs', D3', h3', tk3')
theorem walk : walk_b_pre.1 r1 t1 r2 zb3 zb4 tp2 cp2 h1 zb5 zb6 zb7 zb8 := by
  exact walk_d_pre.2 walk_d_all
end walk_b
theorem walk_b_all : ∀ (r1' : Int) (t1' : Tok) (r2' : Int) (zb3' : Heap) (zb4' : Nat) (tp2' : Tok) (cp2' : Nat) (h1' : Heap) (zb5' : Nat) (zb6' : Tok) (zb7' : Tok) (zb8' : Tok), walk_b_pre.1 r1' t1' r2' zb3' zb4' tp2' cp2' h1' zb5' zb6' zb7' zb8' := by
  intro r1' t1' r2' zb3' zb4' tp2' cp2' h1' zb5' zb6' zb7' zb8'
  have hw := walk_b.walk
  with_unfolding_all exact hk (α := (Int) × (Tok) × (Int) × (Heap) × (Nat) × (Tok) × (Nat) × (Heap) × (Nat) × (Tok) × (Tok) × (Tok)) (p := fun v => walk_b_pre.1 v.1 v.2.1 v.2.2.1 v.2.2.2.1 v.2.2.2.2.1 v.2.2.2.2.2.1 v.2.2.2.2.2.2.1 v.2.2.2.2.2.2.2.1 v.2.2.2.2.2.2.2.2.1 v.2.2.2.2.2.2.2.2.2.1 v.2.2.2.2.2.2.2.2.2.2.1 v.2.2.2.2.2.2.2.2.2.2.2) hw (r1', t1', r2', zb3', zb4', tp2', cp2', h1', zb5', zb6', zb7', zb8')
theorem walk : deed_spec_a_pre.1 w mean mg mb base h₀ outer env L m news s dp un gd Q E f c1 c2 lp lc cc oF o1 o2 oL oC k tk cp u g L1 h8 tk8 oK := by
  exact walk_b_pre.2 walk_b_all
end deed_spec_a
theorem deed_spec_a_all : ∀ (w' : World) (mean' : ExcName → Option Value) (mg' : Str → Option Value) (mb' : Str → Option Value) (base' : Heap) (h₀' : Heap) (outer' : List Env) (env' : Env) (L' : Addr) (m' : Str → Option Value) (news' : List (Addr × Obj)) (s' : Shared) (dp' : Nat) (un' : Nat) (gd' : Option (List Code)) (Q' : Value → Shared → Prop) (E' : Value → Shared → Prop) (f' : Addr) (c1' : Addr) (c2' : Addr) (lp' : Addr) (lc' : Addr) (cc' : Addr) (oF' : Obj) (o1' : Obj) (o2' : Obj) (oL' : Obj) (oC' : Obj) (k' : Int) (tk' : Tok) (cp' : Nat) (u' : Obj → List (Addr × Obj)) (g' : Heap) (L1' : Addr) (h8' : Heap) (tk8' : Nat) (oK' : Obj), deed_spec_a_pre.1 w' mean' mg' mb' base' h₀' outer' env' L' m' news' s' dp' un' gd' Q' E' f' c1' c2' lp' lc' cc' oF' o1' o2' oL' oC' k' tk' cp' u' g' L1' h8' tk8' oK' := by
  intro w' mean' mg' mb' base' h₀' outer' env' L' m' news' s' dp' un' gd' Q' E' f' c1' c2' lp' lc' cc' oF' o1' o2' oL' oC' k' tk' cp' u' g' L1' h8' tk8' oK'
  have hw := deed_spec_a.walk
  with_unfolding_all exact hk (α := (World) × (ExcName → Option Value) × (Str → Option Value) × (Str → Option Value) × (Heap) × (Heap) × (List Env) × (Env) × (Addr) × (Str → Option Value) × (List (Addr × Obj)) × (Shared) × (Nat) × (Nat) × (Option (List Code)) × (Value → Shared → Prop) × (Value → Shared → Prop) × (Addr) × (Addr) × (Addr) × (Addr) × (Addr) × (Addr) × (Obj) × (Obj) × (Obj) × (Obj) × (Obj) × (Int) × (Tok) × (Nat) × (Obj → List (Addr × Obj)) × (Heap) × (Addr) × (Heap) × (Nat) × (Obj)) (p := fun v => deed_spec_a_pre.1 v.1 v.2.1 v.2.2.1 v.2.2.2.1 v.2.2.2.2.1 v.2.2.2.2.2.1 v.2.2.2.2.2.2.1 v.2.2.2.2.2.2.2.1 v.2.2.2.2.2.2.2.2.1 v.2.2.2.2.2.2.2.2.2.1 v.2.2.2.2.2.2.2.2.2.2.1 v.2.2.2.2.2.2.2.2.2.2.2.1 v.2.2.2.2.2.2.2.2.2.2.2.2.1 v.2.2.2.2.2.2.2.2.2.2.2.2.2.1 v.2.2.2.2.2.2.2.2.2.2.2.2.2.2.1 v.2.2.2.2.2.2.2.2.2.2.2.2.2.2.2.1 v.2.2.2.2.2.2.2.2.2.2.2.2.2.2.2.2.1 v.2.2.2.2.2.2.2.2.2.2.2.2.2.2.2.2.2.1 v.2.2.2.2.2.2.2.2.2.2.2.2.2.2.2.2.2.2.1 v.2.2.2.2.2.2.2.2.2.2.2.2.2.2.2.2.2.2.2.1 v.2.2.2.2.2.2.2.2.2.2.2.2.2.2.2.2.2.2.2.2.1 v.2.2.2.2.2.2.2.2.2.2.2.2.2.2.2.2.2.2.2.2.2.1 v.2.2.2.2.2.2.2.2.2.2.2.2.2.2.2.2.2.2.2.2.2.2.1 v.2.2.2.2.2.2.2.2.2.2.2.2.2.2.2.2.2.2.2.2.2.2.2.1 v.2.2.2.2.2.2.2.2.2.2.2.2.2.2.2.2.2.2.2.2.2.2.2.2.1 v.2.2.2.2.2.2.2.2.2.2.2.2.2.2.2.2.2.2.2.2.2.2.2.2.2.1 v.2.2.2.2.2.2.2.2.2.2.2.2.2.2.2.2.2.2.2.2.2.2.2.2.2.2.1 v.2.2.2.2.2.2.2.2.2.2.2.2.2.2.2.2.2.2.2.2.2.2.2.2.2.2.2.1 v.2.2.2.2.2.2.2.2.2.2.2.2.2.2.2.2.2.2.2.2.2.2.2.2.2.2.2.2.1 v.2.2.2.2.2.2.2.2.2.2.2.2.2.2.2.2.2.2.2.2.2.2.2.2.2.2.2.2.2.1 v.2.2.2.2.2.2.2.2.2.2.2.2.2.2.2.2.2.2.2.2.2.2.2.2.2.2.2.2.2.2.1 v.2.2.2.2.2.2.2.2.2.2.2.2.2.2.2.2.2.2.2.2.2.2.2.2.2.2.2.2.2.2.2.1 v.2.2.2.2.2.2.2.2.2.2.2.2.2.2.2.2.2.2.2.2.2.2.2.2.2.2.2.2.2.2.2.2.1 v.2.2.2.2.2.2.2.2.2.2.2.2.2.2.2.2.2.2.2.2.2.2.2.2.2.2.2.2.2.2.2.2.2.1 v.2.2.2.2.2.2.2.2.2.2.2.2.2.2.2.2.2.2.2.2.2.2.2.2.2.2.2.2.2.2.2.2.2.2.1 v.2.2.2.2.2.2.2.2.2.2.2.2.2.2.2.2.2.2.2.2.2.2.2.2.2.2.2.2.2.2.2.2.2.2.2.1 v.2.2.2.2.2.2.2.2.2.2.2.2.2.2.2.2.2.2.2.2.2.2.2.2.2.2.2.2.2.2.2.2.2.2.2.2) hw (w', mean', mg', mb', base', h₀', outer', env', L', m', news', s', dp', un', gd', Q', E', f', c1', c2', lp', lc', cc', oF', o1', o2', oL', oC', k', tk', cp', u', g', L1', h8', tk8', oK')
theorem deed_spec {w : World} {mean : ExcName → Option Value} {mg mb : Str → Option Value} {A₀ : Around} {base h₀ : Heap} {outer : List Env} {env : Env} {L : Addr} {m : Str → Option Value} {news : List (Addr × Obj)} {s : Shared} {dp un : Nat} {gd : Option (List Code)} {Q E : Value → Shared → Prop} (H : Here w mean mg mb A₀ base h₀ outer env L m news s.heap) (hdp : dp + 80 < recursionLimit) (hu : un + 900 < cLine) {f c1 c2 lp lc cc : Addr} {oF o1 o2 oL oC : Obj} (K : Tkr w f c1 c2 lp lc cc oF o1 o2 oL oC)
    (mF : (f, oF) ∈ news) (m1 : (c1, o1) ∈ news) (m2 : (c2, o2) ∈ news) (mL : (lc, oL) ∈ news) (mC : (cc, oC) ∈ news) {k : Int} {tk : Tok} {cp : Nat} {u : Obj → List (Addr × Obj)} (mp : (lp, placeO k tk cp) ∈ news) (U : UpdF lp (placeO k tk cp) news u)
    (n1 : @Ne Nat lp lc) (n2 : @Ne Nat lp f) (n3 : @Ne Nat lp c1) (n4 : @Ne Nat lp c2) (n5 : @Ne Nat lp cc) (hk : 0 ≤ k) (hk2 : k < 390)
    (ret : ∀ a h' tk' k' t' cp' vs d, k ≤ k' → k' ≤ k + 6 → Fr h₀ L h' m → News h₀ L h' ((a, tupO (List.toArray vs)) :: u (placeO k' t' cp')) → (∀ p ∈ news, p.1 ≠ a) → DeedI d vs → Q (.ref a) { s with heap := h', toks := tk' }) :
    wpAny (model PySem.Challenge.rw_og0083_01.row.prog w) (aro dp un gd (env :: outer)) (call (.ref 328) [.ref f]) Q E s := by
  exact deed_spec_a_pre.2 deed_spec_a_all w mean mg mb A₀ base h₀ outer env L m news s dp un gd Q E H hdp hu f c1 c2 lp lc cc oF o1 o2 oL oC K mF m1 m2 mL mC k tk cp u mp U n1 n2 n3 n4 n5 hk hk2 ret
end
section
variable {prog : Program} {w : World} {A : Around} {E : Value → Shared → Prop} {s : Shared} {h₀ : Heap} {L : Addr} {m : Str → Option Value}
theorem if_cells {st : Stmt} {env : Env} {Q : Flow → Shared → Prop} {D c1 : Addr} {o oD : Obj} {rest : List (Addr × Obj)} {u : Obj → List (Addr × Obj)} (_F : Fr h₀ L s.heap m) (_N : News h₀ L s.heap ((D, oD) :: rest)) (_U : UpdF c1 o rest u)
    (h : ∀ Q' : Flow → Shared → Prop, (∀ h' tk D2 oc ws c zs, Fr h₀ L h' m → News h₀ L h' ((D2, listOf (List.toArray ws) c) :: u oc) → AllNe D2 rest → oc.data = .cell (some (.ref D2)) → IntsAre ws zs → 0 < zs.length → zs.length ≤ 63 → Q' .next { s with heap := h', toks := tk }) → wpAny (model prog w) A (exec st env) Q' E s)
    (k : ∀ h' tk D2 oc ws c zs, Fr h₀ L h' m → News h₀ L h' ((D2, listOf (List.toArray ws) c) :: u oc) → AllNe D2 rest → oc.data = .cell (some (.ref D2)) → IntsAre ws zs → 0 < zs.length → zs.length ≤ 63 → Q .next { s with heap := h', toks := tk }) : wpAny (model prog w) A (exec st env) Q E s := h Q k
end
theorem tk_law {w : World} {f c1 c2 lp lc cc : Addr} {o1 o2 oC o275 : Obj} {name qual : Str} {params : Arguments} {body : List Stmt} {scope : Scope} {dc md ct : Value} {cs : List Value} {c cp : Nat} {zs : List Int} {fs : Array Value} {t tk : Tok} {k : Int} {h₀ h : Heap} {L : Addr} {x1 x2 : Addr × Obj} {rest : List (Addr × Obj)}
    (N : News h₀ L h (x1 :: (f, fnMade name qual params body scope [(Str.ofString "place", c2), (Str.ofString "cells", c1)] dc md cc ct) :: x2 :: (lp, listOf #[.int k tk] cp) :: (lc, listOf (List.toArray cs) c) :: rest)) {g0 : Heap} (_X : Frag.In (hd.heap_39 w.params) g0) (a1 : (hd.heap_39 w.params).lookup 275 = some o275) (a2 : TakeDef o275 name params body scope) (e1 : oC.data = .fields fs) (e2 : fs[1]? = some (.str qual t)) (d1 : o1.data = .cell (some (.ref lc))) (d2 : o2.data = .cell (some (.ref lp)))
    (hi : IntsAre cs zs) (z1 : 0 < zs.length) (z2 : zs.length ≤ 63) : ∃ oF oL, Tkr w f c1 c2 lp lc cc oF o1 o2 oL oC ∧ News h₀ L h (x1 :: (f, oF) :: x2 :: (lp, placeO k tk cp) :: (lc, oL) :: rest) :=
  ⟨_, _, ⟨name, qual, params, body, scope, dc, md, ct, o275, cs, c, zs, fs, t, a1, a2, rfl, e1, e2, d1, d2, rfl, hi, z1, z2⟩, N⟩
theorem news_drop1 {h₀ h : Heap} {L : Addr} {y : Addr × Obj} {r : List (Addr × Obj)} (N : News h₀ L h (y :: r)) : News h₀ L h r := fun p hp => N p (.tail _ hp)
theorem news_drop2 {h₀ h : Heap} {L : Addr} {x y z : Addr × Obj} {r : List (Addr × Obj)} (N : News h₀ L h (x :: y :: z :: r)) : News h₀ L h (x :: r) := fun p hp => N p ((List.mem_cons.mp hp).elim (fun e => e ▸ .head _) fun hp => .tail _ (.tail _ (.tail _ hp)))
theorem nonempty_ints {vs : List Value} {ns : List Int} (h : IntsAre vs ns) (hd : decide (vs = []) = false) : 0 < ns.length := by
  rw [← h.length]; exact List.length_pos_iff.mpr (of_decide_eq_false hd)
theorem words39 : True := by
  k_with "exec If" => (k_extra "S if")
  trivial
theorem fr_norm1 {m' m0 : Str → Option Value} {a : Str} (h : ∀ z, z ≠ a → m' z = m0 z) : m' = fun z => if z = a then m' a else m0 z := by
  funext z
  by_cases h1 : z = a
  · rw [if_pos h1, h1]
  · rw [if_neg h1]; exact h z h1
/-- a deed over a ledger -/
noncomputable def DeedN (l : List (Addr × Obj)) (v : Value) (d : Deed) : Prop := ∃ a vs k, v = .ref a ∧ (a, ({ cls := .type "tuple", data := .seq (List.toArray vs) k } : Obj)) ∈ l ∧ DeedI d vs
theorem DeedN.mono {l l' : List (Addr × Obj)} {v : Value} {d : Deed} (x : DeedN l v d) (s : ∀ p ∈ l, p ∈ l') : DeedN l' v d := let ⟨a, vs, k, e, hm, i⟩ := x; ⟨a, vs, k, e, s _ hm, i⟩
theorem deeds_at {l news : List (Addr × Obj)} {vs : List Value} {ds : List Deed} {h₀ h : Heap} {L : Addr} (x : Paired (DeedN l) vs ds) (N : News h₀ L h news) (s : ∀ p ∈ l, p ∈ news) : Paired (DeedAt h) vs ds :=
  pimp (fun _ _ x => let ⟨a, vs, k, e, hm, i⟩ := x; ⟨a, vs, e, ⟨_, (N _ (s _ hm)).1, rfl, k, rfl⟩, i⟩) x
theorem words40 : True := by
  k_with "call ref" => ((k_here; (with_reducible show wpAny _ _ (call (Value.ref 328) _ _) _ _ _); (k_dflt (show wpAny _ _ (call (Value.ref 328) [Value.ref _] []) _ _ _)); (k_dflt (refine' deed_spec (by walk_at "S here") (by walk_at "S room") (by walk_at "S room") (by assumption) (by k_mem) (by k_mem) (by k_mem) (by k_mem) (by k_mem) (by k_mem) (by k_updF) (by walk_at "S ne") (by walk_at "S ne") (by walk_at "S ne") (by walk_at "S ne") (by walk_at "S ne") (by omega) (by omega) ?_; k_whole)); (intro a' h' tk' k' t' cp' vs' d' lo' hi' F' N' ne' hd'); (try dsimp only at N'); (have nz' := ne'); (replace ne' := allNe_of ne'); (simp only [AllNe, and_true] at ne'); (revert a' h' tk' k' t' cp' vs' d' lo' hi' F' N' ne' hd' nz'; intro _ _ _ _ _ _ _ _ _ _ _ _ _ _ _); (try k_sweep)))
  k_with "S deeds" => (k_extra "S deeds2")
  k_with "call ref" => ((k_here; (with_reducible show wpAny _ _ (call (Value.ref 311) _ _) _ _ _); (k_dflt (show wpAny _ _ (call (Value.ref 311) [Value.str _ _, Value.int _ _, Value.ref _, Value.ref _] []) _ _ _)); (k_dflt (refine' due_spec (by walk_at "S here") (by walk_at "S room") (by walk_at "S room") (by exact Begin.rows (by walk_at "S rows") (by assumption) (by omega)) (by exact .inr (by walk_at "S list")) (by walk_at "S deeds") (by omega) (by assumption) ?_; k_whole)); (intro a' fa' ea' h' tk' tl' vus' kf' ies' ends' t' F' N' sep' dn' rn' so'); (try simp only [List.cons_append, List.nil_append, List.append_assoc] at N'); (revert a' fa' ea' h' tk' tl' vus' kf' ies' ends' t' F' N' sep' dn' rn' so'; intro _ _ _ _ _ _ _ _ _ _ _ _ _ _ _ _ _); (try k_sweep)))
  trivial
section
variable {w : World} {A : Around} {E : Value → Shared → Prop} {s : Shared} {env : Env} {h₀ : Heap} {target : Expr} {body : List Stmt} {Q : Flow → Shared → Prop} {m : Str → Option Value}
noncomputable abbrev ldg1 (d lp : Addr) (rest : List (Addr × Obj)) (c : Obj × Int × Tok × Nat) : List (Addr × Obj) := (d, c.1) :: (lp, placeO c.2.1 c.2.2.1 c.2.2.2) :: rest
noncomputable abbrev adr1 (d lp : Addr) (rest : List (Addr × Obj)) : List Addr := d :: lp :: rest.map (·.1)
theorem for_begin {prog : Program} {d lp r : Addr} {o : Obj} {b k : Int} {t u v tk : Tok} {cp : Nat} {x1 x2 x3 x4 : Addr × Obj} {rest : List (Addr × Obj)} (hh : A.handled = none) (hr : IsRange s.heap r 0 b 1 t u v) (hb0 : 0 ≤ b) (hb : b < 100) (hgo : ∀ it v, letOwnedTupleGo target it v = pure ())
    (F : Fr h₀ env.locals s.heap m) (N : News h₀ env.locals s.heap ((d, o) :: x1 :: x2 :: x3 :: x4 :: (lp, placeO k tk cp) :: rest)) (R0 : RowsO w o [])
    (turn : ∀ (i : Nat) t (u1 : Option Value) o1 r k1 tk1 cp1 I oI h tk, (i : Int) < b → k ≤ k1 → k1 ≤ k + 4 * i → RowsO w o1 r → PosR r → r.length ≤ i → Fr h₀ env.locals h (fun z => if z = Str.ofString "turn" then u1 else m z) → News h₀ env.locals h ((I, oI) :: (d, o1) :: (lp, placeO k1 tk1 cp1) :: x3 :: x4 :: rest) → Off1 I ((d, o1) :: (lp, placeO k1 tk1 cp1) :: x3 :: x4 :: rest) →
      wpAny (model prog w) A (assign target env (.int (0 + (i : Int)) t)) (fun _ s₃ => wpAny (model prog w) A (execs body env) (FPost h₀ env.locals I oI (ldg1 d lp (x3 :: x4 :: rest)) (adr1 d lp (x3 :: x4 :: rest)) [] (fun m' c tail => tail = [] ∧ k ≤ c.2.1 ∧ c.2.1 ≤ k + 4 * ((i + 1 : Nat) : Int) ∧ (∃ r, RowsO w c.1 r ∧ PosR r ∧ r.length ≤ i + 1) ∧ ∃ u, m' = fun z => if z = Str.ofString "turn" then u else m z) { s with heap := h, toks := tk } Q) E s₃) E { s with heap := h, toks := tk })
    (done : ∀ (u1 : Option Value) o1 r k1 tk1 cp1 h tk, k ≤ k1 → k1 ≤ k + 4 * b → RowsO w o1 r → PosR r → (r.length : Int) ≤ b → Fr h₀ env.locals h (fun z => if z = Str.ofString "turn" then u1 else m z) → News h₀ env.locals h ((d, o1) :: (lp, placeO k1 tk1 cp1) :: x3 :: x4 :: rest) → Q .next { s with heap := h, toks := tk }) :
    wpAny (model prog w) A (pyIter (.ref r)) (fun it s₂ => TurnsAt prog w A h₀ env target body Q E it s₂) E s := by
  refine for_range (ldg1 d lp (x3 :: x4 :: rest)) (adr1 d lp (x3 :: x4 :: rest)) (o, k, tk, cp) (fun _ => rfl) hh hr (small_one (by decide) (by decide) (by omega) (by omega)) (rangeSize_nat _ _) hgo F (fun p hp => N p (by simp only [List.mem_cons] at hp ⊢; grind))
    (fun i m' c tail => tail = [] ∧ k ≤ c.2.1 ∧ c.2.1 ≤ k + 4 * (i : Int) ∧ (∃ r, RowsO w c.1 r ∧ PosR r ∧ r.length ≤ i) ∧ ∃ u, m' = fun z => if z = Str.ofString "turn" then u else m z) ⟨rfl, Int.le_refl _, by simp, ⟨[], R0, (fun _ h => nomatch h), Nat.le_refl _⟩, _, fr_norm1 fun _ _ => rfl⟩ ?_ ?_
  · rintro i t m₁ ⟨o1, k1, tk1, cp1⟩ tail I oI h tk hi ⟨rfl, h1, h2, ⟨r, h3, h4, h5⟩, u, rfl⟩ F1 N1 o2 _
    simp only [ldg1, List.cons_append, List.append_nil] at N1
    exact turn i t u o1 r k1 tk1 cp1 I oI h tk (by omega) h1 h2 h3 h4 h5 F1 N1 o2
  · rintro m₁ ⟨o1, k1, tk1, cp1⟩ tail h tk ⟨rfl, h1, h2, ⟨r, h3, h4, h5⟩, u, rfl⟩ _ F1 N1
    simp only [ldg1, List.cons_append, List.append_nil] at N1
    exact done u o1 r k1 tk1 cp1 h tk h1 (by dsimp only at h2; omega) h3 h4 (by omega) F1 N1
end
theorem words41 : True := by
  k_with "S frb" => ((refine' ⟨_, fr_norm1 (by (intro z h1; walk_at "S ifz"))⟩))
  trivial
theorem PosR.nil : PosR [] := fun _ h => nomatch h
theorem rputs_len {r : RowsT} {k : Int} {b : Bts} {i : Nat} (h : r.length ≤ i) : (rput r k b).length ≤ i + 1 := Nat.le_trans (rput_length r k b) (Nat.succ_le_succ h)
section
variable {prog : Program} {w : World} {A : Around} {E : Value → Shared → Prop} {s : Shared} {h₀ : Heap} {L : Addr} {m : Str → Option Value} {env : Env}
noncomputable abbrev ldg2 (lp : Addr) (rest : List (Addr × Obj)) (c : Int × Tok × Nat) : List (Addr × Obj) := (lp, placeO c.1 c.2.1 c.2.2) :: rest
noncomputable abbrev adr2 (lp : Addr) (rest : List (Addr × Obj)) : List Addr := lp :: rest.map (·.1)
/-- a comprehension of drawn bytes -/
theorem cs_octets {elt : Expr} {x : Str} {scope : Scope} {cl : List (Str × Addr)} {Fin : Shared → List Value → List (Addr × Obj) → Prop} {r lp : Addr} {b k : Int} {t u v tk : Tok} {cp : Nat} {x1 : Addr × Obj} {x2 : Addr × Obj} {rest : List (Addr × Obj)} (hh : A.handled = none) (hr : IsRange s.heap r 0 b 1 t u v) (hb0 : 0 ≤ b) (hb : b < 100)
    (F : Fr h₀ L s.heap m) (N : News h₀ L s.heap (x1 :: x2 :: (lp, placeO k tk cp) :: rest))
    (turn : ∀ (i : Nat) t k1 tk1 cp1 ys I oI C oC D m₂ h tk (E' : Value → Shared → Prop), (i : Int) < b → k1 = k + i → NsObj oC m₂ → m₂ x = some (.int (0 + (i : Int)) t) → Fr h₀ L h m → News h₀ L h ((I, oI) :: (C, oC) :: (D, lst ys) :: (lp, placeO k1 tk1 cp1) :: x1 :: x2 :: rest) → Off3 I C D ((lp, placeO k1 tk1 cp1) :: x1 :: x2 :: rest) → ((@Ne Nat I C) ∧ (@Ne Nat I D) ∧ (@Ne Nat C D)) →
      wpAny (model prog w) A (eval elt (compEnvC scope cl C env)) (TEndS h₀ L m { s with heap := h, toks := tk } [(I, oI), (C, oC), (D, lst ys)] (ldg2 lp (x1 :: x2 :: rest)) (adr2 lp (x1 :: x2 :: rest)) [] fun y c t => t = [] ∧ c.1 = k1 + 1 ∧ ∃ n t, y = .int n t ∧ 0 ≤ n ∧ n < 256) E' { s with heap := h, toks := tk })
    (fin : ∀ g ys k1 tk1 cp1 zs, k1 = k + b → IntsAre ys zs → (∀ n ∈ zs, 0 ≤ n ∧ n < 256) → ys.length < 100 → Fin { s with heap := g } ys ((lp, placeO k1 tk1 cp1) :: x1 :: x2 :: rest)) : CSrcU prog w A h₀ L m env elt x scope cl Fin (.ref r) s := by
  refine cs_S (ldg2 lp (x1 :: x2 :: rest)) (adr2 lp (x1 :: x2 :: rest)) (k, tk, cp) (fun _ => rfl) (src_range hh hr (small_one (by decide) (by decide) (by omega) (by omega)) (rangeSize_nat _ _)) F (fun p hp => N p (by simp only [List.mem_cons] at hp ⊢; grind)) (by rw [sizeLine_eq]; omega) (fun _ _ => trivial)
    (fun i ys c tail => tail = [] ∧ c.1 = k + i ∧ ∃ zs, IntsAre ys zs ∧ zs.length = i ∧ ∀ n ∈ zs, 0 ≤ n ∧ n < 256) ⟨rfl, by simp, [], .nil, rfl, by simp⟩ ?_ ?_
  · rintro i ys ⟨k1, tk1, cp1⟩ tail v I oI C oC D m₂ h tk E' hi hP ⟨rfl, h1, zs, h2, h3, h4⟩ hC hx F1 N1 off own ne
    obtain ⟨t, rfl⟩ := hP
    simp only [ldg2, List.cons_append, List.append_nil] at N1
    refine wpAny_mono (turn i t k1 tk1 cp1 ys I oI C oC D m₂ h tk E' (by omega) h1 hC hx F1 N1 off ne) (fun y s' q => ?_) fun _ _ e => e
    obtain ⟨h', tk', t', c', rfl, F', N', o', e1, e2, n, t, rfl, n0, n1⟩ := q
    refine ⟨h', tk', t', c', rfl, F', N', o', e1, by dsimp only at h1; rw [e2]; push_cast; omega, zs ++ [n], h2.append (.cons _ _ .nil), by simp [h3], fun y hy => ?_⟩
    rcases List.mem_append.mp hy with hy | hy
    · exact h4 y hy
    · rw [List.mem_singleton.mp hy]; exact ⟨n0, n1⟩
  · rintro g ys ⟨k1, tk1, cp1⟩ tail ⟨rfl, h1, zs, h2, h3, h4⟩ _
    simp only [ldg2, List.append_nil]
    have hl := h2.length
    exact fin g ys k1 tk1 cp1 zs (by dsimp only at h1; omega) h2 h4 (by omega)
end
section
variable {prog : Program} {w : World} {A : Around} {E : Value → Shared → Prop} {s : Shared} {h₀ : Heap} {L : Addr} {m : Str → Option Value} {env : Env}
/-- the comprehension of drawn deeds -/
theorem cs_deeds {elt : Expr} {x : Str} {scope : Scope} {cl : List (Str × Addr)} {Fin : Shared → List Value → List (Addr × Obj) → Prop} {r lp : Addr} {b k : Int} {t u v tk : Tok} {cp : Nat} {x1 : Addr × Obj} {rest : List (Addr × Obj)} (hh : A.handled = none) (hr : IsRange s.heap r 0 b 1 t u v) (hb0 : 0 ≤ b) (hb : b < 20)
    (F : Fr h₀ L s.heap m) (N : News h₀ L s.heap (x1 :: (lp, placeO k tk cp) :: rest))
    (turn : ∀ (i : Nat) t k1 tk1 cp1 ys tail I oI C oC D m₂ h tk (E' : Value → Shared → Prop), (i : Int) < b → k ≤ k1 → k1 ≤ k + 6 * i → NsObj oC m₂ → m₂ x = some (.int (0 + (i : Int)) t) → Fr h₀ L h m → News h₀ L h ((I, oI) :: (C, oC) :: (D, lst ys) :: (lp, placeO k1 tk1 cp1) :: x1 :: (rest ++ tail)) → Off3 I C D ((lp, placeO k1 tk1 cp1) :: x1 :: rest) → OwnOff tail (I :: C :: D :: adr2 lp (x1 :: rest)) → ((@Ne Nat I C) ∧ (@Ne Nat I D) ∧ (@Ne Nat C D)) →
      wpAny (model prog w) A (eval elt (compEnvC scope cl C env)) (TEndS h₀ L m { s with heap := h, toks := tk } [(I, oI), (C, oC), (D, lst ys)] (ldg2 lp (x1 :: rest)) (adr2 lp (x1 :: rest)) tail fun y c t => k1 ≤ c.1 ∧ c.1 ≤ k1 + 6 ∧ (∀ p ∈ tail, p ∈ t) ∧ ∃ d, DeedN t y d) E' { s with heap := h, toks := tk })
    (fin : ∀ g ys k1 tk1 cp1 ds tail, k ≤ k1 → k1 ≤ k + 6 * b → Paired (DeedN tail) ys ds → (ds.length : Int) = b → OwnOff tail (adr2 lp (x1 :: rest)) → Fin { s with heap := g } ys ((lp, placeO k1 tk1 cp1) :: x1 :: (rest ++ tail))) : CSrcU prog w A h₀ L m env elt x scope cl Fin (.ref r) s := by
  refine cs_S (ldg2 lp (x1 :: rest)) (adr2 lp (x1 :: rest)) (k, tk, cp) (fun _ => rfl) (src_range hh hr (small_one (by decide) (by decide) (by omega) (by omega)) (rangeSize_nat _ _)) F (fun p hp => N p (by simp only [List.mem_cons] at hp ⊢; grind)) (by rw [sizeLine_eq]; omega) (fun _ _ => trivial)
    (fun i ys c tail => k ≤ c.1 ∧ c.1 ≤ k + 6 * (i : Int) ∧ ∃ ds, Paired (DeedN tail) ys ds ∧ ds.length = i) ⟨Int.le_refl _, by simp, [], .nil, rfl⟩ ?_ ?_
  · rintro i ys ⟨k1, tk1, cp1⟩ tail v I oI C oC D m₂ h tk E' hi hP ⟨h1, h2, ds, h3, h4⟩ hC hx F1 N1 off own ne
    obtain ⟨t, rfl⟩ := hP
    simp only [ldg2, List.cons_append] at N1
    refine wpAny_mono (turn i t k1 tk1 cp1 ys tail I oI C oC D m₂ h tk E' (by omega) h1 h2 hC hx F1 N1 off own ne) (fun y s' q => ?_) fun _ _ e => e
    obtain ⟨h', tk', t', c', rfl, F', N', o', e1, e2, e3, d, e4⟩ := q
    dsimp only at h1 h2
    exact ⟨h', tk', t', c', rfl, F', N', o', by omega, by push_cast; omega, ds ++ [d], psnoc (pimp (fun _ _ x => x.mono e3) h3) e4, by simp [h4]⟩
  · rintro g ys ⟨k1, tk1, cp1⟩ tail ⟨h1, h2, ds, h3, h4⟩ own
    simp only [ldg2, List.cons_append]
    dsimp only at h1 h2
    exact fin g ys k1 tk1 cp1 ds tail h1 (by omega) h3 (by omega) own
theorem if_skip {st : Stmt} {Q : Flow → Shared → Prop} {news news' : List (Addr × Obj)} (_F : Fr h₀ L s.heap m) (_N : News h₀ L s.heap news) (sub : ∀ p ∈ news', p ∈ news)
    (h : ∀ Q' : Flow → Shared → Prop, (∀ h' tk, Fr h₀ L h' m → News h₀ L h' news → Q' .next { s with heap := h', toks := tk }) → wpAny (model prog w) A (exec st env) Q' E s)
    (k : ∀ h' tk, Fr h₀ L h' m → News h₀ L h' news' → Q .next { s with heap := h', toks := tk }) : wpAny (model prog w) A (exec st env) Q E s :=
  h Q fun h' tk F' N' => k h' tk F' fun p hp => N' p (sub p hp)
end
theorem own_news {T : Addr} {o : Obj} {news : List (Addr × Obj)} {adr : List Addr} (h : ∀ p ∈ news, p.1 ≠ T) (s : ∀ b ∈ adr, b ∈ news.map (·.1)) : OwnOff [(T, o)] adr := own_one fun b hb e => by
  obtain ⟨p, hp, e'⟩ := List.mem_map.mp (s b hb)
  exact h p hp (e'.trans e.symm)
section
variable {w : World} {mean : ExcName → Option Value} {mg mb : Str → Option Value} {A₀ : Around} {base h₀ : Heap} {outer : List Env} {env : Env} {L : Addr} {m : Str → Option Value} {news : List (Addr × Obj)} {s : Shared}
  {dp un : Nat} {gd : Option (List Code)} {Q E : Value → Shared → Prop}
theorem session_as (H : Here w mean mg mb A₀ base h₀ outer env L m news s.heap) (hd : dp + 80 < recursionLimit) (hu : un + 800 < cLine) {tb td tu te : Addr} {mode : Mode} {most : Int} {tm tmo tl : Tok} {r0 ends : RowsT} {vds vus : List Value} {deeds : List Deed} {ies : List Value}
    (he : Sorted (dRun mode most deeds (dInit mode r0)).2.rows ends) (hB : Begin w s.heap tb r0) (hD : s.heap.IsList td vds.toArray) (pD : Paired (DeedAt s.heap) vds deeds) (hU : s.heap.IsList tu vus.toArray) {lt : List (Addr × Obj)} (dn : Paired (DN lt 1) vus ((dRun mode most deeds (dInit mode r0)).1.map Res.d)) (sl : ∀ p ∈ lt, p ∈ news)
    (hE : (te, tupO ies.toArray) ∈ news) (rn : Paired (RN lt) ies ends) (hr0 : r0.length + deeds.length < 64) (hpos : PosR r0)
    (ret : ∀ h' tk', Fr h₀ L h' m → News h₀ L h' news → Q (.bool true) { s with heap := h', toks := tk' }) :
    wpAny (model PySem.Challenge.rw_og0083_01.row.prog w) (aro dp un gd (env :: outer)) (call (.ref 316) [.str mode.s tm, .int most tmo, .ref tb, .ref td, .ref tu, .ref te, .int (dRun mode most deeds (dInit mode r0)).2.last tl]) Q E s := by
  obtain ⟨e1, I⟩ := run_all (most := most) deeds (inv_init (mode := mode) hpos)
  refine session_spec H hd hu (tm := tm) (tmo := tmo) hB hr0 (.inr hD) pD (.inr hU) ?_ (H.N _ hE).1 (RN.at rn H.N sl) ?_ I.num ret
  · rw [e1]; exact pimp (fun _ _ x => x.at H.N sl) dn
  · rw [I.rows]; exact he
end
theorem words42 : True := by
  k_with "S sub" => ((intro p hp; simp only [List.mem_cons, List.mem_append, hp, or_true, true_or]))
  k_with "S sub" => ((intro p hp; simp only [List.mem_cons, List.mem_append, List.not_mem_nil, or_false] at hp ⊢; grind))
  k_with "call ref" => ((k_here; (with_reducible show wpAny _ _ (call (Value.ref 316) _ _) _ _ _); (k_dflt (show wpAny _ _ (call (Value.ref 316) [Value.str _ _, Value.int _ _, Value.ref _, Value.ref _, Value.ref _, Value.ref _, Value.int _ _] []) _ _ _)); (k_dflt (refine' session_as (by walk_at "S here") (by walk_at "S room") (by walk_at "S room") (by assumption) (by exact Begin.rows (by walk_at "S rows") (by assumption) (by omega)) (by walk_at "S list") (by walk_at "S deeds") (by walk_at "S list") (by assumption) (by walk_at "S sub") (by k_mem) (by assumption) (by omega) (by assumption) ?_; k_whole)); (intro _ _ _ _); (try k_sweep)))
  trivial
section

set_option maxHeartbeats 8000000 in
noncomputable def init3_spec_a_pre : (Pa : (World) → (ExcName → Option Value) → (Str → Option Value) → (Str → Option Value) → (Heap) → (Heap) → (List Env) → (Env) → (Addr) → (Str → Option Value) → (List (Addr × Obj)) → (Shared) → (Nat) → (Nat) → (Option (List Code)) → (Value → Shared → Prop) → (Value → Shared → Prop) → (Addr) → (Tok) → (Tok) → (RowsT) → (Obj) → (Obj → List (Addr × Obj)) → (Addr) → (Addr) → (Heap) → (Heap) → (Addr) → (Heap) → (Nat) → Prop) ×' ((∀ w mean mg mb base h₀ outer env L m news s dp un gd Q E dc tm ta rows oc u x dx h1 g L9 h9 tk9, Pa w mean mg mb base h₀ outer env L m news s dp un gd Q E dc tm ta rows oc u x dx h1 g L9 h9 tk9) → (∀ (w : World) (mean : ExcName → Option Value) (mg mb : Str → Option Value) (A₀ : Around) (base h₀ : Heap) (outer : List Env) (env : Env) (L : Addr) (m : Str → Option Value) (news : List (Addr × Obj)) (s : Shared) (dp un : Nat) (gd : Option (List Code)) (Q E : Value → Shared → Prop) (H : Here w mean mg mb A₀ base h₀ outer env L m news s.heap) (hd : dp + 40 < recursionLimit) (hu : un + 400 < cLine) (dc : Addr) (tm ta : Tok) (rows : RowsT) (oc : Obj) (u : Obj → List (Addr × Obj)) (U : UpdF dc oc news u) (hdc : (dc, oc) ∈ news) (R : RowsO w oc rows) (lo : (dc == sysModules) = false) (hl : rows.length < 64) (ret : ∀ x dx od' oc' h' tk', Fr h₀ L h' m → News h₀ L h' ((x, instObj 168 dx) :: (dx, od') :: u oc') → (∀ p ∈ news, p.1 < dx) → @LT.lt Nat _ dx x → FileObj dc (Mode.s .io) (Str.ofString "sequential") 0 (fInit .io rows) od' → RowsO w oc' (fInit .io rows).rows → Q (.ref x) { s with heap := h', toks := tk' }), wpAny (model PySem.Challenge.rw_og0083_01.row.prog w) (aro dp un gd (env :: outer)) (call (.ref 168) [.ref dc, .str (Str.ofString "i-o") tm, .str (Str.ofString "sequential") ta]) Q E s)) := by
  refine' ⟨_, fun hPa => ?_⟩
  rotate_left 1
  · skip
    intro w mean mg mb A₀ base h₀ outer env L m news s dp un gd Q E H hd hu dc tm ta rows oc u U hdc R lo hl ret
    have F := H.F
    have X := H.X
    have N := H.N
    (revert X; k_fill; intro X)
    refine' call_cls F X N ?k4 ?k5 ?k6 ?_
    (case k4 => k_is)
    (case k5 => k_is)
    (case k6 => k_is)
    k_whole
    intro x dx h1 F1 N1 l1 l2
    have H1 : Here w mean mg mb A₀ base h₀ outer env L m ((x, instObj 168 dx) :: (dx, dictOf [] 0) :: news) h1 := ⟨H.B, F1, H.X, N1, H.T, H.hf, H.hk⟩
    have hlx : ∀ p ∈ news, @LT.lt Nat _ p.1 x := fun p hp => Nat.lt_trans (l1 p hp) l2
    have hdcx : @LT.lt Nat _ dc dx := l1 _ hdc
    refine H1.cutK (dp := dp) (un := un) (gd := gd) (muts := [(x, instObj 168 dx), (dx, dictOf [] 0), (dc, oc)]) (by simp [hdc]) (fun g C st' B X' T fr kp ns hN => ?_)
    clear H H1 F X N F1
    (revert T C; revert X'; k_fill; intro X' T C)
    walk_at "S enter"
    rename_i L9 h9 tk9 F9 N9 l9
    k_sweep
    revert l9; revert N9; revert F9; revert C; revert T; revert X'; revert hN; revert ns; revert kp; revert fr; revert B; revert st'; revert hdcx; revert hlx; revert l2; revert l1; revert N1; revert ret; revert hl; revert lo; revert R; revert hdc; revert U; revert hu; revert hd
    exact hPa w mean mg mb base h₀ outer env L m news s dp un gd Q E dc tm ta rows oc u x dx h1 g L9 h9 tk9
noncomputable def init3_spec_a_v : (World) × (ExcName → Option Value) × (Str → Option Value) × (Str → Option Value) × (Heap) × (Heap) × (List Env) × (Env) × (Addr) × (Str → Option Value) × (List (Addr × Obj)) × (Shared) × (Nat) × (Nat) × (Option (List Code)) × (Value → Shared → Prop) × (Value → Shared → Prop) × (Addr) × (Tok) × (Tok) × (RowsT) × (Obj) × (Obj → List (Addr × Obj)) × (Addr) × (Addr) × (Heap) × (Heap) × (Addr) × (Heap) × (Nat) := @Classical.epsilon _ ⟨(w0, (fun _ => none), (fun _ => none), (fun _ => none), {}, {}, [], default, 0, (fun _ => none), [], {}, 0, 0, none, (fun _ => (fun _ => True)), (fun _ => (fun _ => True)), 0, 0, 0, [], default, (fun _ => []), 0, 0, {}, {}, 0, {}, 0)⟩ fun v => ¬ init3_spec_a_pre.1 v.1 v.2.1 v.2.2.1 v.2.2.2.1 v.2.2.2.2.1 v.2.2.2.2.2.1 v.2.2.2.2.2.2.1 v.2.2.2.2.2.2.2.1 v.2.2.2.2.2.2.2.2.1 v.2.2.2.2.2.2.2.2.2.1 v.2.2.2.2.2.2.2.2.2.2.1 v.2.2.2.2.2.2.2.2.2.2.2.1 v.2.2.2.2.2.2.2.2.2.2.2.2.1 v.2.2.2.2.2.2.2.2.2.2.2.2.2.1 v.2.2.2.2.2.2.2.2.2.2.2.2.2.2.1 v.2.2.2.2.2.2.2.2.2.2.2.2.2.2.2.1 v.2.2.2.2.2.2.2.2.2.2.2.2.2.2.2.2.1 v.2.2.2.2.2.2.2.2.2.2.2.2.2.2.2.2.2.1 v.2.2.2.2.2.2.2.2.2.2.2.2.2.2.2.2.2.2.1 v.2.2.2.2.2.2.2.2.2.2.2.2.2.2.2.2.2.2.2.1 v.2.2.2.2.2.2.2.2.2.2.2.2.2.2.2.2.2.2.2.2.1 v.2.2.2.2.2.2.2.2.2.2.2.2.2.2.2.2.2.2.2.2.2.1 v.2.2.2.2.2.2.2.2.2.2.2.2.2.2.2.2.2.2.2.2.2.2.1 v.2.2.2.2.2.2.2.2.2.2.2.2.2.2.2.2.2.2.2.2.2.2.2.1 v.2.2.2.2.2.2.2.2.2.2.2.2.2.2.2.2.2.2.2.2.2.2.2.2.1 v.2.2.2.2.2.2.2.2.2.2.2.2.2.2.2.2.2.2.2.2.2.2.2.2.2.1 v.2.2.2.2.2.2.2.2.2.2.2.2.2.2.2.2.2.2.2.2.2.2.2.2.2.2.1 v.2.2.2.2.2.2.2.2.2.2.2.2.2.2.2.2.2.2.2.2.2.2.2.2.2.2.2.1 v.2.2.2.2.2.2.2.2.2.2.2.2.2.2.2.2.2.2.2.2.2.2.2.2.2.2.2.2.1 v.2.2.2.2.2.2.2.2.2.2.2.2.2.2.2.2.2.2.2.2.2.2.2.2.2.2.2.2.2
namespace init3_spec_a
noncomputable def w : World := init3_spec_a_v.1
noncomputable def mean : ExcName → Option Value := init3_spec_a_v.2.1
noncomputable def mg : Str → Option Value := init3_spec_a_v.2.2.1
noncomputable def mb : Str → Option Value := init3_spec_a_v.2.2.2.1
noncomputable def base : Heap := init3_spec_a_v.2.2.2.2.1
noncomputable def h₀ : Heap := init3_spec_a_v.2.2.2.2.2.1
noncomputable def outer : List Env := init3_spec_a_v.2.2.2.2.2.2.1
noncomputable def env : Env := init3_spec_a_v.2.2.2.2.2.2.2.1
noncomputable def L : Addr := init3_spec_a_v.2.2.2.2.2.2.2.2.1
noncomputable def m : Str → Option Value := init3_spec_a_v.2.2.2.2.2.2.2.2.2.1
noncomputable def news : List (Addr × Obj) := init3_spec_a_v.2.2.2.2.2.2.2.2.2.2.1
noncomputable def s : Shared := init3_spec_a_v.2.2.2.2.2.2.2.2.2.2.2.1
noncomputable def dp : Nat := init3_spec_a_v.2.2.2.2.2.2.2.2.2.2.2.2.1
noncomputable def un : Nat := init3_spec_a_v.2.2.2.2.2.2.2.2.2.2.2.2.2.1
noncomputable def gd : Option (List Code) := init3_spec_a_v.2.2.2.2.2.2.2.2.2.2.2.2.2.2.1
noncomputable def Q : Value → Shared → Prop := init3_spec_a_v.2.2.2.2.2.2.2.2.2.2.2.2.2.2.2.1
noncomputable def E : Value → Shared → Prop := init3_spec_a_v.2.2.2.2.2.2.2.2.2.2.2.2.2.2.2.2.1
noncomputable def dc : Addr := init3_spec_a_v.2.2.2.2.2.2.2.2.2.2.2.2.2.2.2.2.2.1
noncomputable def tm : Tok := init3_spec_a_v.2.2.2.2.2.2.2.2.2.2.2.2.2.2.2.2.2.2.1
noncomputable def ta : Tok := init3_spec_a_v.2.2.2.2.2.2.2.2.2.2.2.2.2.2.2.2.2.2.2.1
noncomputable def rows : RowsT := init3_spec_a_v.2.2.2.2.2.2.2.2.2.2.2.2.2.2.2.2.2.2.2.2.1
noncomputable def oc : Obj := init3_spec_a_v.2.2.2.2.2.2.2.2.2.2.2.2.2.2.2.2.2.2.2.2.2.1
noncomputable def u : Obj → List (Addr × Obj) := init3_spec_a_v.2.2.2.2.2.2.2.2.2.2.2.2.2.2.2.2.2.2.2.2.2.2.1
noncomputable def x : Addr := init3_spec_a_v.2.2.2.2.2.2.2.2.2.2.2.2.2.2.2.2.2.2.2.2.2.2.2.1
noncomputable def dx : Addr := init3_spec_a_v.2.2.2.2.2.2.2.2.2.2.2.2.2.2.2.2.2.2.2.2.2.2.2.2.1
noncomputable def h1 : Heap := init3_spec_a_v.2.2.2.2.2.2.2.2.2.2.2.2.2.2.2.2.2.2.2.2.2.2.2.2.2.1
noncomputable def g : Heap := init3_spec_a_v.2.2.2.2.2.2.2.2.2.2.2.2.2.2.2.2.2.2.2.2.2.2.2.2.2.2.1
noncomputable def L9 : Addr := init3_spec_a_v.2.2.2.2.2.2.2.2.2.2.2.2.2.2.2.2.2.2.2.2.2.2.2.2.2.2.2.1
noncomputable def h9 : Heap := init3_spec_a_v.2.2.2.2.2.2.2.2.2.2.2.2.2.2.2.2.2.2.2.2.2.2.2.2.2.2.2.2.1
noncomputable def tk9 : Nat := init3_spec_a_v.2.2.2.2.2.2.2.2.2.2.2.2.2.2.2.2.2.2.2.2.2.2.2.2.2.2.2.2.2
set_option maxHeartbeats 8000000 in
theorem walk : init3_spec_a_pre.1 w mean mg mb base h₀ outer env L m news s dp un gd Q E dc tm ta rows oc u x dx h1 g L9 h9 tk9 := by
  delta init3_spec_a_pre
  dsimp only
  intro hd hu U hdc R lo hl ret N1 l1 l2 hlx hdcx st' B fr kp ns hN X' T C F9 N9 l9
  have e1 : @Ne Nat dc dx := Nat.ne_of_lt hdcx
  have e2 : @Ne Nat dc x := Nat.ne_of_lt (Nat.lt_trans hdcx l2)
  have e3 : @Ne Nat dx x := Nat.ne_of_lt l2
  have fin : ∀ h' tk' L' m' led od' oc' st', Fr g L' h' m' → News g L' h' led → (x, instObj 168 dx) ∈ led → (dx, od') ∈ led → (dc, oc') ∈ led →
      FileObj dc (Mode.s .io) (Str.ofString "sequential") 0 st' od' → fInit .io rows = st' → RowsO w oc' st'.rows → Q (.ref x) { s with heap := h', toks := tk' } := by
    intro h' tk' L' m' led od' oc' st' F' N' m1 m2 m3 hf he hr
    subst he
    have nn := ns _ _ ((aft_of F' N').sub (outs := [(x, instObj 168 dx), (dx, od'), (dc, oc')]) (by simp [m1, m2, m3]))
    refine ret x dx od' oc' h' tk' (fr _ F'.keep) (fun p hp => ?_) l1 l2 hf hr
    rcases List.mem_cons.mp hp with rfl | hp
    · exact nn _ (by simp)
    rcases List.mem_cons.mp hp with rfl | hp
    · exact nn _ (by simp)
    rcases updF_mem U hp with rfl | ⟨hp, hne⟩
    · exact nn _ (by simp)
    · have := l1 p hp
      refine kp _ p F'.keep (.tail _ (.tail _ hp)) fun hm => ?_
      simp only [List.map_cons, List.map_nil, List.mem_cons, List.not_mem_nil, or_false] at hm
      rcases hm with e | e | e
      · exact absurd (e ▸ hlx p hp) (Nat.lt_irrefl _)
      · exact absurd (e ▸ l1 p hp) (Nat.lt_irrefl _)
      · exact hne e
  all_goals k_steps
  all_goals (try (unfold InitBack))
  all_goals (try dsimp only)
  all_goals (try (refine ⟨rfl, ?_⟩))
  all_goals first
    | exact fin _ _ _ _ _ _ _ _ (by assumption) (by assumption) (by k_mem) (by k_mem) (by k_mem) (FileObj.mk ..) fi_io R
    | exact fin _ _ _ _ _ _ _ _ (by assumption) (by assumption) (by k_mem) (by k_mem) (by k_mem) (FileObj.mk ..) fi_inp R
    | exact fin _ _ _ _ _ _ _ _ (by assumption) (by assumption) (by k_mem) (by k_mem) (by k_mem) (FileObj.mk ..) fi_out (by assumption)
    | exact fin _ _ _ _ _ _ _ _ (by assumption) (by assumption) (by k_mem) (by k_mem) (by k_mem) (FileObj.mk ..) (fi_ext0 (by simp_all)) R
    | exact fin _ _ _ _ _ _ _ _ (by assumption) (by assumption) (by k_mem) (by k_mem) (by k_mem) (FileObj.mk ..) (fi_ext (by simp_all) (by assumption) (by assumption)) R
end init3_spec_a
theorem init3_spec_a_all : ∀ (w' : World) (mean' : ExcName → Option Value) (mg' : Str → Option Value) (mb' : Str → Option Value) (base' : Heap) (h₀' : Heap) (outer' : List Env) (env' : Env) (L' : Addr) (m' : Str → Option Value) (news' : List (Addr × Obj)) (s' : Shared) (dp' : Nat) (un' : Nat) (gd' : Option (List Code)) (Q' : Value → Shared → Prop) (E' : Value → Shared → Prop) (dc' : Addr) (tm' : Tok) (ta' : Tok) (rows' : RowsT) (oc' : Obj) (u' : Obj → List (Addr × Obj)) (x' : Addr) (dx' : Addr) (h1' : Heap) (g' : Heap) (L9' : Addr) (h9' : Heap) (tk9' : Nat), init3_spec_a_pre.1 w' mean' mg' mb' base' h₀' outer' env' L' m' news' s' dp' un' gd' Q' E' dc' tm' ta' rows' oc' u' x' dx' h1' g' L9' h9' tk9' := by
  intro w' mean' mg' mb' base' h₀' outer' env' L' m' news' s' dp' un' gd' Q' E' dc' tm' ta' rows' oc' u' x' dx' h1' g' L9' h9' tk9'
  have hw := init3_spec_a.walk
  with_unfolding_all exact hk (α := (World) × (ExcName → Option Value) × (Str → Option Value) × (Str → Option Value) × (Heap) × (Heap) × (List Env) × (Env) × (Addr) × (Str → Option Value) × (List (Addr × Obj)) × (Shared) × (Nat) × (Nat) × (Option (List Code)) × (Value → Shared → Prop) × (Value → Shared → Prop) × (Addr) × (Tok) × (Tok) × (RowsT) × (Obj) × (Obj → List (Addr × Obj)) × (Addr) × (Addr) × (Heap) × (Heap) × (Addr) × (Heap) × (Nat)) (p := fun v => init3_spec_a_pre.1 v.1 v.2.1 v.2.2.1 v.2.2.2.1 v.2.2.2.2.1 v.2.2.2.2.2.1 v.2.2.2.2.2.2.1 v.2.2.2.2.2.2.2.1 v.2.2.2.2.2.2.2.2.1 v.2.2.2.2.2.2.2.2.2.1 v.2.2.2.2.2.2.2.2.2.2.1 v.2.2.2.2.2.2.2.2.2.2.2.1 v.2.2.2.2.2.2.2.2.2.2.2.2.1 v.2.2.2.2.2.2.2.2.2.2.2.2.2.1 v.2.2.2.2.2.2.2.2.2.2.2.2.2.2.1 v.2.2.2.2.2.2.2.2.2.2.2.2.2.2.2.1 v.2.2.2.2.2.2.2.2.2.2.2.2.2.2.2.2.1 v.2.2.2.2.2.2.2.2.2.2.2.2.2.2.2.2.2.1 v.2.2.2.2.2.2.2.2.2.2.2.2.2.2.2.2.2.2.1 v.2.2.2.2.2.2.2.2.2.2.2.2.2.2.2.2.2.2.2.1 v.2.2.2.2.2.2.2.2.2.2.2.2.2.2.2.2.2.2.2.2.1 v.2.2.2.2.2.2.2.2.2.2.2.2.2.2.2.2.2.2.2.2.2.1 v.2.2.2.2.2.2.2.2.2.2.2.2.2.2.2.2.2.2.2.2.2.2.1 v.2.2.2.2.2.2.2.2.2.2.2.2.2.2.2.2.2.2.2.2.2.2.2.1 v.2.2.2.2.2.2.2.2.2.2.2.2.2.2.2.2.2.2.2.2.2.2.2.2.1 v.2.2.2.2.2.2.2.2.2.2.2.2.2.2.2.2.2.2.2.2.2.2.2.2.2.1 v.2.2.2.2.2.2.2.2.2.2.2.2.2.2.2.2.2.2.2.2.2.2.2.2.2.2.1 v.2.2.2.2.2.2.2.2.2.2.2.2.2.2.2.2.2.2.2.2.2.2.2.2.2.2.2.1 v.2.2.2.2.2.2.2.2.2.2.2.2.2.2.2.2.2.2.2.2.2.2.2.2.2.2.2.2.1 v.2.2.2.2.2.2.2.2.2.2.2.2.2.2.2.2.2.2.2.2.2.2.2.2.2.2.2.2.2) hw (w', mean', mg', mb', base', h₀', outer', env', L', m', news', s', dp', un', gd', Q', E', dc', tm', ta', rows', oc', u', x', dx', h1', g', L9', h9', tk9')
theorem init3_spec {w : World} {mean : ExcName → Option Value} {mg mb : Str → Option Value} {A₀ : Around} {base h₀ : Heap} {outer : List Env} {env : Env} {L : Addr} {m : Str → Option Value} {news : List (Addr × Obj)} {s : Shared} {dp un : Nat} {gd : Option (List Code)} {Q E : Value → Shared → Prop} (H : Here w mean mg mb A₀ base h₀ outer env L m news s.heap) (hd : dp + 40 < recursionLimit) (hu : un + 400 < cLine) {dc : Addr} {tm ta : Tok} {rows : RowsT}
    {oc : Obj} {u : Obj → List (Addr × Obj)} (U : UpdF dc oc news u) (hdc : (dc, oc) ∈ news) (R : RowsO w oc rows) (lo : (dc == sysModules) = false) (hl : rows.length < 64)
    (ret : ∀ x dx od' oc' h' tk', Fr h₀ L h' m → News h₀ L h' ((x, instObj 168 dx) :: (dx, od') :: u oc') → (∀ p ∈ news, p.1 < dx) → @LT.lt Nat _ dx x → FileObj dc (Mode.s .io) (Str.ofString "sequential") 0 (fInit .io rows) od' → RowsO w oc' (fInit .io rows).rows → Q (.ref x) { s with heap := h', toks := tk' }) :
    wpAny (model PySem.Challenge.rw_og0083_01.row.prog w) (aro dp un gd (env :: outer)) (call (.ref 168) [.ref dc, .str (Str.ofString "i-o") tm, .str (Str.ofString "sequential") ta]) Q E s := by
  exact init3_spec_a_pre.2 init3_spec_a_all w mean mg mb A₀ base h₀ outer env L m news s dp un gd Q E H hd hu dc tm ta rows oc u U hdc R lo hl ret
end
theorem words43 : True := by
  k_with "S begin" => (exact Begin.rows (by walk_at "S rows") (by assumption) (by omega))
  k_with "call ref" => ((k_here; (with_reducible show wpAny _ _ (call (Value.ref 168) _ _) _ _ _); (k_dflt (show wpAny _ _ (call (Value.ref 168) [Value.ref _, Value.str _ _, Value.str _ _] []) _ _ _)); (k_dflt (refine' init3_spec (by walk_at "S here") (by walk_at "S room") (by walk_at "S room") (by k_updF) (by k_mem) (by k_asm) (by k_asm) (by walk_at "S len") ?_; k_whole)); (intro x' dx' od' oc' h' tk' F' N' l1 l2 hf' R'); (try dsimp only at N'); (try k_lt l1); (revert x' dx' od' oc' h' tk' F' N' l1 l2 hf' R'; intro _ _ _ _ _ _ _ _ _ _ _ _); (try k_sweep)))
  trivial
theorem own_mem {A B : List Addr} {l : List Addr} (h1 : ∀ b ∈ A, b ∈ l) (h2 : ∀ b ∈ B, b ∈ l) : ∀ b ∈ A ++ B, b ∈ l := fun b hb => (List.mem_append.mp hb).elim (h1 b) (h2 b)
section
variable {w : World} {A : Around} {E : Value → Shared → Prop} {s : Shared} {h₀ : Heap} {L : Addr} {m : Str → Option Value} {news : List (Addr × Obj)}
theorem nil_at {h₀ h : Heap} {L d : Addr} {o : Obj} {news : List (Addr × Obj)} (N : News h₀ L h news) (hm : (d, o) ∈ news) (hi : o.IsDictOf (PySem.intKind PySem.Challenge.rw_og0083_01.row.prog w) []) : RowsAt w h d [] := ⟨o, (N _ hm).1, [], hi, .nil⟩
end
theorem words44 : True := by
  k_with "S rows_noteq" => (k_dflt (refine' rows_ne_nil (by walk_at "S rows") (by exact nil_at (by k_asm) (by k_mem) (by assumption)) (by k_asm) (by k_asm) (by walk_at "S room") ?_; k_whole))
  k_with "S rows_eq" => (k_dflt (refine' rows_eq_nil (by walk_at "S rows") (by exact nil_at (by k_asm) (by k_mem) (by assumption)) (by k_asm) (by k_asm) (by walk_at "S room") ?_; k_whole))
  trivial
inductive LawDef : Obj → Stmt → List Stmt → Scope → Prop
  | mk {oc : Value} {od : Option Addr} {osl : Array (Option Value)} {nm q : Str} {ps : Arguments} {s1 s2 s3 s4 s5 s6 s7 s8 s9 s10 s11 s12 : Stmt} {rest : List Stmt} {scope : Scope} {dV kV doc pm cdv ct : Value} {an : Option Addr} :
      LawDef ⟨oc, od, .func (fnOf nm q ps (s1 :: s2 :: s3 :: s4 :: s5 :: s6 :: s7 :: s8 :: s9 :: s10 :: s11 :: s12 :: rest) scope dV kV doc pm an cdv ct), osl⟩ s12 rest scope
theorem words45 : True := by
  k_with "S room" => (units_room)
  trivial
theorem rn_first {r : RowsT} (hr : r ≠ []) (hp : PosR r) : fReadNext .io 0 (fInit .io r) = ((s00, rget r (minL (rkeys r))), fFound (fInit .io r) (minL (rkeys r))) := by
  have hk : rkeys r ≠ [] := by cases r <;> simp_all [rkeys]
  have h1 : 1 ≤ minL (rkeys r) := hp _ (minL_mem hk)
  have e : leastL (rkeys r) 1 = minL (rkeys r) := by
    have hf : (rkeys r).filter (fun k => decide (1 ≤ k)) = rkeys r := List.filter_eq_self.mpr fun a ha => decide_eq_true (hp a ha)
    unfold leastL; rw [hf]
  have hl : lowOf (fInit .io r) = 1 := rfl
  have hr2 : (fInit .io r).rows = r := by simp [fInit]
  rw [rn_00 (mode := .io) (most := 0) (st := fInit .io r) (low := 1) rfl rfl hl (by rw [hr2, e]; omega) (by omega), hr2, e]
section
variable {w : World} {mean : ExcName → Option Value} {mg mb : Str → Option Value} {A₀ : Around} {base h₀ : Heap} {outer : List Env} {env : Env} {L : Addr} {m : Str → Option Value} {news : List (Addr × Obj)} {s : Shared}
  {dp un : Nat} {gd : Option (List Code)} {Q E : Value → Shared → Prop}
theorem read_as (H : Here w mean mg mb A₀ base h₀ outer env L m news s.heap) (hd : dp + 40 < recursionLimit) (hu : un + 400 < cLine) {x dx dc : Addr} {mode : Mode} {most : Int} {st st2 : FSt} {ss : Str} {bb : Bts} {od : Obj} {u : Obj → List (Addr × Obj)} (e : fReadNext mode most st = ((ss, bb), st2))
    {oc : Obj} (hod : FileObj dc mode.s (Str.ofString "sequential") most st od) (hx : (x, instObj 168 dx) ∈ news) (U : UpdF dx od news u) (hdx : (dx, od) ∈ news) (hdc : (dc, oc) ∈ news) (R : RowsO w oc st.rows) (hcd : @Ne Nat dc dx) (lo : (dc == sysModules) = false) (hl : st.rows.length < 64)
    (ret : ∀ a h' tk' od' t1 t2, Fr h₀ L h' m → News h₀ L h' ((a, tupO #[.str ss t1, .bytes bb t2]) :: u od') → (∀ p ∈ news, p.1 ≠ a) → FileObj dc mode.s (Str.ofString "sequential") most st2 od' → Q (.ref a) { s with heap := h', toks := tk' }) :
    wpAny (model PySem.Challenge.rw_og0083_01.row.prog w) (aro dp un gd (env :: outer)) (call (.ref 115) [.ref x]) Q E s := by
  refine readNext_spec H hd hu hod hx U hdx hdc R hcd lo hl ?_
  rw [e]; exact ret
end
theorem words46 : True := by
  k_with "W6" => ((k_dflt (show wpAny _ _ (call (Value.ref 115) [Value.ref _] []) _ _ _)))
  k_with "W7" => ((k_dflt (refine' read_as (by walk_at "S here") (by walk_at "S room") (by walk_at "S room") (by assumption) (by k_asm) (by k_dflt k_mem) (by k_updF) (by k_mem) (by k_mem) (by k_asm) (by walk_at "S ne") (by k_asm) (by walk_at "S len") ?_; k_whole)))
  trivial
local macro_rules | `(tactic| walk_at "call ref") => `(tactic| (k_here; (with_reducible show wpAny _ _ (call (Value.ref 115) _ _) _ _ _); (k_extra "W6"); (k_extra "W7"); (intro a' h' tk' od' t1 t2 F' N' ne' hf'); (try dsimp only at N'); (replace ne' := allNe_of ne'); (simp only [AllNe, and_true] at ne'); (try k_sweep); (have hfo' := hf'); (cases hf')))
theorem words47 : True := by
  k_with "call ref" => (((with_reducible show wpAny _ _ (call (Value.ref 323) _ _) _ _ _); (k_dflt (show wpAny _ _ (call (Value.ref 323) [Value.ref _] []) _ _ _)); k_extra "S refused"))
  trivial
theorem own_told {a : Addr} {tl news : List (Addr × Obj)} (h : ∀ p ∈ tl, p.1 ≠ a ∧ ∀ q ∈ news, p.1 ≠ q.1) : OwnOff tl (a :: news.map (·.1)) := fun p hp b hb => by
  rcases List.mem_cons.mp hb with rfl | hb
  · exact (h p hp).1
  · obtain ⟨q, hq, rfl⟩ := List.mem_map.mp hb
    exact (h p hp).2 q hq
local macro_rules | `(tactic| k_all) => `(tactic| exact List.forall_mem_append.mpr ⟨OwnOff.ne (by assumption) (by k_memK), OwnOff.ne (by assumption) (by k_memK)⟩)
theorem words48 : True := by
  k_with "call ref" => ((k_here; (with_reducible show wpAny _ _ (call (Value.ref 165) _ _) _ _ _); (k_dflt (show wpAny _ _ (call (Value.ref 165) [Value.ref _] []) _ _ _)); (k_dflt (refine' told_spec (by walk_at "S here") (by walk_at "S room") (by walk_at "S room") (by k_asm) (by k_dflt k_mem) (by k_mem) (by k_mem) (by k_asm) (by walk_at "S ne") (by k_asm) (by walk_at "S len") ?_; k_whole)); (intro a' ra' tl' ns' h' tk' t1 t2 t3 t4 t5 F' N' sp1' sp2' p' o' dn'); (try simp only [List.cons_append, List.nil_append, List.append_assoc] at N'); (try k_sweep); (replace sp1' := allNe_of sp1'); (simp only [AllNe, and_true] at sp1'); (replace sp2' := own_told sp2'); (try simp only [List.map_cons, List.map_nil] at sp2'); (revert a' ra' tl' ns' h' tk' t1 t2 t3 t4 t5 F' N' sp1' sp2' p' o' dn'; intro _ _ _ _ _ _ _ _ _ _ _ _ _ _ _ _ _ _)))
  trivial
section
variable {w : World} {A : Around} {E : Value → Shared → Prop} {s : Shared} {d d₂ : Addr} {r : RowsT} {Q : Value → Shared → Prop}
theorem cne_t (hr : ¬ r = []) (R : RowsAt w s.heap d r) (R₂ : RowsAt w s.heap d₂ []) (lo : (d == sysModules) = false) (lo₂ : (d₂ == sysModules) = false) (hu : A.units < cLine) (h : Q (.bool true) s) : wpAny (model PR w) A (compareOp .NotEq (.ref d) (.ref d₂)) Q E s :=
  rows_ne_nil R R₂ lo lo₂ hu (by cases r with | nil => exact absurd rfl hr | cons a l => exact h)
theorem cne_f (hr : r = []) (R : RowsAt w s.heap d r) (R₂ : RowsAt w s.heap d₂ []) (lo : (d == sysModules) = false) (lo₂ : (d₂ == sysModules) = false) (hu : A.units < cLine) (h : Q (.bool false) s) : wpAny (model PR w) A (compareOp .NotEq (.ref d) (.ref d₂)) Q E s :=
  rows_ne_nil R R₂ lo lo₂ hu (by subst hr; exact h)
theorem ceq_f (hr : ¬ r = []) (R : RowsAt w s.heap d r) (R₂ : RowsAt w s.heap d₂ []) (lo : (d == sysModules) = false) (lo₂ : (d₂ == sysModules) = false) (hu : A.units < cLine) (h : Q (.bool false) s) : wpAny (model PR w) A (compareOp .Eq (.ref d) (.ref d₂)) Q E s :=
  rows_eq_nil R R₂ lo lo₂ hu (by cases r with | nil => exact absurd rfl hr | cons a l => exact h)
theorem ceq_t (hr : r = []) (R : RowsAt w s.heap d r) (R₂ : RowsAt w s.heap d₂ []) (lo : (d == sysModules) = false) (lo₂ : (d₂ == sysModules) = false) (hu : A.units < cLine) (h : Q (.bool true) s) : wpAny (model PR w) A (compareOp .Eq (.ref d) (.ref d₂)) Q E s :=
  rows_eq_nil R R₂ lo lo₂ hu (by subst hr; exact h)
end
theorem words49 : True := by
  k_with "S cmp" => (first | ((with_reducible show wpAny _ _ (compareOp CmpOp.NotEq _ _) _ _ _); refine' cne_t (by assumption) (by walk_at "S rows") (by exact nil_at (by k_asm) (by k_mem) (by assumption)) (by k_asm) (by k_asm) (by walk_at "S room") ?_; k_whole) | ((with_reducible show wpAny _ _ (compareOp CmpOp.NotEq _ _) _ _ _); refine' cne_f (by assumption) (by walk_at "S rows") (by exact nil_at (by k_asm) (by k_mem) (by assumption)) (by k_asm) (by k_asm) (by walk_at "S room") ?_; k_whole) | ((with_reducible show wpAny _ _ (compareOp CmpOp.Eq _ _) _ _ _); refine' ceq_t (by assumption) (by walk_at "S rows") (by exact nil_at (by k_asm) (by k_mem) (by assumption)) (by k_asm) (by k_asm) (by walk_at "S room") ?_; k_whole) | ((with_reducible show wpAny _ _ (compareOp CmpOp.Eq _ _) _ _ _); refine' ceq_f (by assumption) (by walk_at "S rows") (by exact nil_at (by k_asm) (by k_mem) (by assumption)) (by k_asm) (by k_asm) (by walk_at "S room") ?_; k_whole))
  trivial
section
open Sem (wp)
/-- the own class and, in its line, another own class with an __init__ -/
noncomputable abbrev HasT (bmB bm : List Value) : Prop := ∀ X b, bmB.contains (.type X) = b → bm.contains (.type X) = b
theorem hasT_one {A : Addr} {bmB : List Value} : HasT bmB (.ref A :: bmB) := fun X b h => by rw [List.contains_cons, h]; rfl
section
variable {M : Model} {A : Around} {E : Value → Shared → Prop} {h : Heap} {g : Array GenState} {d : Drawn} {t : Nat} {os : OsState}
variable {nm q : Str} {C N : Addr} {bs bm bmB : List Value} {hdct : Bool} {sn : List Str} {sub : List Value} {ab : Bool} {col : Option Bool} {dd : Option Addr} {k0 k1 k2 k3 k5 : Option Value} {B newId initId : String}
theorem x_check_new (F : ExcBaseFacts B newId initId bmB) (T : HasT bmB bm) {rest : List Value} {Q : Unit → Shared → Prop} (hC : h.get? C = some (excClassObj nm q C N bs bm hdct sn sub ab col dd k0 k1 k2 k3 k5 newId))
    (hq : Q () ⟨h, g, d, t, os⟩) : wpAny M A (checkBuiltinCall newId ⟨.ref C :: rest, []⟩) Q E ⟨h, g, d, t, os⟩ := by
  have hc : (Value.ref C :: bm).contains (.type B) = true := by rw [List.contains_cons, T _ _ F.hasB, Bool.or_true]
  have hs := F.noStar
  simp only [checkBuiltinCall, F.newKind, F.newSplit, F.newRow]
  repeat (first | refine wpAny_loadPart_at hC ?_ | (refine wpAny_isSubtype_exc hC ?_; rw [hc]) | refine wpAny_staticBase_exc hC ?_ | refine wpAny_madeBy_exc hC ?_ | simp only [bne_self_eq_false, Bool.false_eq_true, if_false] | wp_step)
  exact hq
/-- raise of an exception whatever its dict -/
theorem x_raiseStmt {C : Addr} {s : Shared} {env : Env} {x : Sem Value} {Q : Flow → Shared → Prop} (hh : A.handled = none)
    (h : wpAny M A x (fun v s₁ => ∃ e oe, v = .ref e ∧ (∃ nm q N bs bm hdct sn sub ab col dd k0 k1 k2 k3 k5 newId, s₁.heap.get? C = some (excClassObj nm q C N bs bm hdct sn sub ab col dd k0 k1 k2 k3 k5 newId) ∧ bm.contains (.type "BaseException") = true) ∧
      s₁.heap.get? e = some oe ∧ oe.cls = .ref C ∧ (∃ a, oe.data = .fields #[a, .none, .none, .none, .bool false, .none]) ∧ E (.ref e) s₁) E s) :
    wpAny M A (raiseStmt env (some x) none) Q E s := by
  unfold raiseStmt
  refine wpAny_bind (wpAny_mono h (fun v s₁ h₁ => ?_) fun _ _ x => x)
  obtain ⟨e, oe, rfl, ⟨nm, q, N, bs, bm, hdct, sn, sub, ab, col, dd, k0, k1, k2, k3, k5, newId, hC, hbase⟩, he, hec, ⟨a, hed⟩, hE⟩ := h₁
  have hcB : (Value.ref C :: bm).contains (.type "BaseException") = true := by rw [List.contains_cons, hbase, Bool.or_true]
  obtain ⟨hp, g, d, tk, os⟩ := s₁
  obtain ⟨oc, od, oda, osl⟩ := oe
  dsimp only at hec hed
  subst hec hed
  repeat (first | with_reducible refine wpAny_loadPart_at he ?_ | with_reducible refine wpAny_loadPart_at hC ?_ | (with_reducible refine wpAny_isSubtype_exc hC ?_; rw [hcB]) | wp_step)
  exact wpAny_raiseNew_none hh hE
theorem x_lookup_init {LE : Addr} {tl : List Value} {mN mA : Str → Option Value} {c0 : Value} {da : Option Addr} {cd : ClassData} {sl : Array (Option Value)} {v : Value} {Q : Option Value → Shared → Prop}
    (hC : h.get? C = some (excClassObj nm q C N bs (.ref LE :: tl) hdct sn sub ab col dd k0 k1 k2 k3 k5 newId)) (hn : h.Ns N mN) (hni : mN "__init__" = none)
    (hA : h.get? LE = some { cls := c0, dict := da, data := .cls cd, slots := sl }) (hNA : h.Ns cd.ns mA) (hI : mA "__init__" = some v) (hq : Q (some v) ⟨h, g, d, t, os⟩) : wpAny M A (typeLookup (.ref C) "__init__") Q E ⟨h, g, d, t, os⟩ := by
  rw [typeLookup_eq]
  refine wpAny_bind (wpAny_mroOf_exc hC ?_)
  rw [lookupAlong_cons]
  refine wpAny_bind (wpAny_classOwn_exc hC hn ?_)
  rw [hni]
  show wpAny _ _ (lookupAlong (.ref LE :: tl) "__init__") _ _ _
  rw [lookupAlong_cons]
  refine wpAny_bind (wpAny_classOwn_cls hA hNA ?_)
  rw [hI]
  exact wpAny_pure hq
end
section
variable {prog : Program} {w : World} {A : Around} {R : Result → Shared → Prop} {h : Heap} {g : Array GenState} {d : Drawn} {t : Nat} {os : OsState}
variable {nm q : Str} {C N : Addr} {bs bm bmB : List Value} {hdct : Bool} {sn : List Str} {sub : List Value} {ab : Bool} {col : Option Bool} {dd : Option Addr} {k0 k1 k2 k3 k5 : Option Value} {B newId initId : String}
theorem x_new (F : ExcBaseFacts B newId initId bmB) (T : HasT bmB bm) {rest : List Value} (hC : h.get? C = some (excClassObj nm q C N bs bm hdct sn sub ab col dd k0 k1 k2 k3 k5 newId))
    (hq : R (.ok (.ret (.ref (h.objs.size + 1)))) ⟨(h.push { cls := .type "tuple", data := .seq rest.toArray }).push { cls := .ref C, data := .fields #[.ref h.objs.size, .none, .none, .none, .bool false, .none] }, g, d, t, os⟩) (hrest : rest.length ≤ sizeLine) :
    codeAny (model prog w) A (.builtin newId ⟨.ref C :: rest, []⟩) R ⟨h, g, d, t, os⟩ := by
  have hends := F.ends
  have c1 : (Value.ref C :: bm).contains (.type B) = true := by rw [List.contains_cons, T _ _ F.hasB, Bool.or_true]
  have c2 : (Value.ref C :: bm).contains (.type "AttributeError") = false := by rw [List.contains_cons, T _ _ F.noAttr]; rfl
  have c3 : (Value.ref C :: bm).contains (.type "NameError") = false := by rw [List.contains_cons, T _ _ F.noName]; rfl
  refine codeAny_builtinAt F.entry ?_
  unfold Builtin.«BaseException.__new__»
  refine PySem.wpAt_bind ?_
  show PySem.wpAt _ _ _ (stack >>= _) _ _ _
  refine PySem.wpAt_bind (PySem.wpAt_stack fun p below => PySem.wpAt_of_wpAny ?_)
  wp_walk
  refine PySem.wpAt_of_wpAny ?_
  rw [F.owner]
  repeat (first | with_reducible refine wpAny_madeHere_exc F.canon hC ?_ | with_reducible refine wpAny_loadPart_at hC ?_ | (with_reducible refine wpAny_isSubtype_exc hC ?_; first | rw [c1] | rw [c2] | rw [c3]) | wp_step)
  show R _ _
  rw [Heap.size_push]
  exact hq
end
section
variable {prog : Program} {w : World} {A : Around} {E : Value → Shared → Prop} {h : Heap} {g : Array GenState} {d : Drawn} {t : Nat} {os : OsState}
variable {nm q : Str} {C N LE fI : Addr} {bs tl bmB : List Value} {hdct : Bool} {sn : List Str} {sub : List Value} {ab : Bool} {col : Option Bool} {dd : Option Addr} {k0 k1 k2 k3 k5 : Option Value} {B newId initId : String}
variable {mN mA : Str → Option Value} {c0 : Value} {da : Option Addr} {cd : ClassData} {sl : Array (Option Value)} {oI : Obj} {rest : List Value}
theorem x_type_call (F : ExcBaseFacts B newId initId bmB) (T : HasT bmB (.ref LE :: tl)) {Q : Fin → Shared → Prop}
    (hC : h.get? C = some (excClassObj nm q C N bs (.ref LE :: tl) hdct sn sub ab col dd k0 k1 k2 k3 k5 newId)) (hn : h.Ns N mN) (hni : mN "__init__" = none)
    (hA : h.get? LE = some { cls := c0, dict := da, data := .cls cd, slots := sl }) (hNA : h.Ns cd.ns mA) (hI : mA "__init__" = some (.ref fI)) (hfI : h.get? fI = some oI) (hfc : oI.cls = .type "function") (hrest : rest.length ≤ sizeLine)
    (hq : ∀ h' e, Heap.MadeExcOf h h' e (.ref C) rest → wpAny (model prog w) A (call (.ref fI) (.ref e :: rest)) (fun r s' => r = .none ∧ Q (.done (.ret (.ref e))) s') E ⟨h', g, d, t, os⟩) :
    wpAny (model prog w) A (Builtin.«type.__call__» ⟨.ref C :: rest, []⟩) Q E ⟨h, g, d, t, os⟩ := by
  repeat (first | with_reducible refine wpAny_loadPart_at hC ?_ | with_reducible refine wpAny_madeBy_exc hC ?_ | wp_step)
  refine codeAny_call_builtin_code (Code.quiet_builtin _ F.quiet) (x_check_new F T hC ?_)
  refine x_new F T hC ?_ hrest
  show wpAny _ _ _ _ _ _
  have up : ∀ b o, h.get? b = some o → ((h.push { cls := .type "tuple", data := .seq rest.toArray }).push { cls := .ref C, data := .fields #[.ref h.objs.size, .none, .none, .none, .bool false, .none] }).get? b = some o :=
    fun b o e => Heap.get?_push_of_some _ (Heap.get?_push_of_some _ e)
  have ups : ∀ {n : Addr} {mm : Str → Option Value}, h.Ns n mm → ((h.push { cls := .type "tuple", data := .seq rest.toArray }).push { cls := .ref C, data := .fields #[.ref h.objs.size, .none, .none, .none, .bool false, .none] }).Ns n mm :=
    fun x => let ⟨o, es, ep, e, r⟩ := x; ⟨o, es, ep, up _ _ e, r⟩
  have hget : ((h.push { cls := .type "tuple", data := .seq rest.toArray }).push { cls := .ref C, data := .fields #[.ref h.objs.size, .none, .none, .none, .bool false, .none] }).get? (h.objs.size + 1) = some
      { cls := .ref C, data := .fields #[.ref h.objs.size, .none, .none, .none, .bool false, .none] } := by heap_get
  have hcC : (Value.ref C :: .ref LE :: tl).contains (.ref C) = true := by simp
  have hC₁ := up _ _ hC
  unfold isInstance
  repeat (first | with_reducible refine wpAny_loadPart_at hget ?_ | (with_reducible refine wpAny_isSubtype_exc hC₁ ?_; rw [hcC]) | wp_step)
  show wpAny _ _ (typeLookup (.ref C) _) _ _ _
  refine x_lookup_init hC₁ (ups hn) hni (up _ _ hA) (ups hNA) hI ?_
  refine wpAny_holding (wpAny_bind ?_)
  unfold bindSpecial
  refine wpAny_bind (wpAny_typeOf (T := "function") ⟨_, up _ _ hfI, hfc⟩ ?_)
  rw [if_pos (by decide)]
  refine wpAny_pure (wpAny_bind (wpAny_mono (hq _ (h.objs.size + 1) ⟨up, Heap.get?_none_of_le (Nat.le_succ _), h.objs.size, hget, Heap.get?_none_of_le (Nat.le_refl _), ?_⟩) (fun r s' hr => ?_) fun _ _ x => x))
  · exact Heap.get?_push_of_some _ (Heap.get?_push_at rfl rfl)
  · obtain ⟨rfl, hQ⟩ := hr
    wp_walk
    exact hQ
theorem x_call (F : ExcBaseFacts B newId initId bmB) (T : HasT bmB (.ref LE :: tl)) {Q : Value → Shared → Prop}
    (hC : h.get? C = some (excClassObj nm q C N bs (.ref LE :: tl) hdct sn sub ab col dd k0 k1 k2 k3 k5 newId)) (hn : h.Ns N mN) (hni : mN "__init__" = none)
    (hA : h.get? LE = some { cls := c0, dict := da, data := .cls cd, slots := sl }) (hNA : h.Ns cd.ns mA) (hI : mA "__init__" = some (.ref fI)) (hfI : h.get? fI = some oI) (hfc : oI.cls = .type "function") (hrest : rest.length ≤ sizeLine)
    (hq : ∀ h' e, Heap.MadeExcOf h h' e (.ref C) rest → wpAny (model prog w) (A.under (.builtin "type.__call__" ⟨.ref C :: rest, []⟩)) (call (.ref fI) (.ref e :: rest)) (fun r s' => r = .none ∧ Q (.ref e) s') E ⟨h', g, d, t, os⟩) :
    wpAny (model prog w) A (call (.ref C) rest) Q E ⟨h, g, d, t, os⟩ := by
  have f1 := tc_lookup
  have f2 := tc_bind (.ref C)
  have hT : (⟨h, g, d, t, os⟩ : Shared).TypeIs (.ref C) "type" := ⟨_, hC, rfl⟩
  refine wpAny_call (codeAny_of_tree ?_)
  show wpAny _ _ (callAny (.ref C) _) _ _ _
  repeat (any_goals (first | assumption | with_reducible refine wpAny_loadPart_at hC ?_ | wp_step))
  refine ⟨rfl, ?_⟩
  exact codeAny_call_builtin_at (Code.quiet_builtin _ (by decide +kernel)) entry_typeCall (wpAny_check_type_call_sub hC (x_type_call F T hC hn hni hA hNA hI hfI hfc hrest hq))
end
end
section
open Sem (wp)
section
variable {prog : Program} {w : World} {A : Around} {E : Value → Shared → Prop} {h : Heap} {g : Array GenState} {d : Drawn} {t : Nat} {os : OsState}
variable {nm q : Str} {C N : Addr} {bs bm bmB : List Value} {hdct : Bool} {sn : List Str} {sub : List Value} {ab : Bool} {col : Option Bool} {dd : Option Addr} {k0 k1 k2 k3 k5 : Option Value} {B newId initId : String}
theorem x_check_init (F : ExcBaseFacts B newId initId bmB) (T : HasT bmB bm) {M : Model} {e : Addr} {oe : Obj} {rest : List Value} {Q : Unit → Shared → Prop}
    (hC : h.get? C = some (excClassObj nm q C N bs bm hdct sn sub ab col dd k0 k1 k2 k3 k5 newId)) (he : h.get? e = some oe) (hcls : oe.cls = .ref C) (hq : Q () ⟨h, g, d, t, os⟩) :
    wpAny M A (checkBuiltinCall initId ⟨.ref e :: rest, []⟩) Q E ⟨h, g, d, t, os⟩ := by
  have hc : (Value.ref C :: bm).contains (.type B) = true := by rw [List.contains_cons, T _ _ F.hasB, Bool.or_true]
  have hs := F.noStar
  simp only [checkBuiltinCall, F.initKind, F.initSplit, F.initRow]
  repeat (first | (with_reducible refine wpAny_loadPart_at he ?_; rw [hcls]) | with_reducible refine wpAny_loadPart_at hC ?_ | (with_reducible refine wpAny_isSubtype_exc hC ?_; rw [hc]) | wp_step)
  refine wpAny_onRaise ?_
  rw [show ∀ (a b : String) (n : Nat), Bind.check ⟨.positional, "*", B, .self, [⟨"args", .varPos, false⟩]⟩ a b n (List.map (fun x => x.fst) ({ pos := Value.ref e :: rest } : Args).kw) = pure () from
    fun a b n => check_star_args _ _ _ _ _ _]
  exact wpAny_pure hq
/-- Exception.__init__(self, ..) -/
theorem x_init (F : ExcBaseFacts B newId initId bmB) (T : HasT bmB bm) {e : Addr} {od : Option Addr} {t0 : Addr} {rest : List Value} {Q : Value → Shared → Prop}
    (hC : h.get? C = some (excClassObj nm q C N bs bm hdct sn sub ab col dd k0 k1 k2 k3 k5 newId)) (he : h.get? e = some { cls := .ref C, dict := od, data := .fields #[.ref t0, .none, .none, .none, .bool false, .none] }) (hrest : rest.length ≤ sizeLine)
    (hq : ∀ h', h'.get? e = some { cls := .ref C, dict := od, data := .fields #[.ref h.objs.size, .none, .none, .none, .bool false, .none] } → h'.get? h.objs.size = some { cls := .type "tuple", data := .seq rest.toArray } → (∀ b o, b ≠ e → h.get? b = some o → h'.get? b = some o) → Q .none ⟨h', g, d, t, os⟩) :
    wpAny (model prog w) A (call (.builtin initId) (.ref e :: rest)) Q E ⟨h, g, d, t, os⟩ := by
  refine wpAny_call (codeAny_call_builtin F.init.plain F.initEntry (x_check_init F T hC he rfl ?_))
  wp_walk
  have hne : h.objs.size ≠ e := Nat.ne_of_gt (Heap.lt_size he)
  refine hq _ ?_ ?_ fun b o hb ho => ?_
  · rw [Heap.get?_update_self _ (Heap.get?_push_of_some _ he) rfl]
    rfl
  · rw [Heap.get?_update_other _ _ (Ne.symm hne)]
    exact Heap.get?_push_at rfl rfl
  · rw [Heap.get?_update_other _ _ (Ne.symm hb)]
    exact Heap.get?_push_of_some _ ho
end
end
section
open Sem (wp)
open Builtin Builtin.ObjectAttr
section
variable {h : Heap} {g : Array GenState} {d : Drawn} {t : Nat} {os : OsState} {E : Value → Shared → Prop} {M : Model} {A : Around}
variable {nm q : Str} {C N LE e : Addr} {bs bmB : List Value} {sn : List Str} {sub : List Value} {ab : Bool} {col : Option Bool} {dd : Option Addr} {k0 k1 k2 k3 k5 : Option Value} {newId B sa owner : String} {hdct : Bool}
variable {mN mA : Str → Option Value} {c0 : Value} {da : Option Addr} {cd : ClassData} {sl : Array (Option Value)} {name : Str} {v : Value} {y : Option Value}
theorem x_lookup2 {Q : Option Value → Shared → Prop} (hC : h.get? C = some (excClassObj nm q C N bs (.ref LE :: bmB) hdct sn sub ab col dd k0 k1 k2 k3 k5 newId)) (hn : h.Ns N mN) (hni : mN name = none)
    (hA : h.get? LE = some { cls := c0, dict := da, data := .cls cd, slots := sl }) (hNA : h.Ns cd.ns mA) (hI : mA name = none) (hbm : mroOf (.type B) = pure bmB) (hB : typeLookup (.type B) name = pure y) (hq : Q y ⟨h, g, d, t, os⟩) : wpAny M A (typeLookup (.ref C) name) Q E ⟨h, g, d, t, os⟩ := by
  have hrest : lookupAlong bmB name = pure y := by rw [typeLookup_eq, hbm] at hB; exact hB
  rw [typeLookup_eq]
  refine wpAny_bind (wpAny_mroOf_exc hC ?_)
  rw [lookupAlong_cons]
  refine wpAny_bind (wpAny_classOwn_exc hC hn ?_)
  rw [hni]
  show wpAny _ _ (lookupAlong (.ref LE :: bmB) name) _ _ _
  rw [lookupAlong_cons]
  refine wpAny_bind (wpAny_classOwn_cls hA hNA ?_)
  rw [hI]
  show wpAny _ _ (lookupAlong bmB name) _ _ _
  rw [hrest]
  exact wpAny_pure hq
end
noncomputable def DictNs (o : Obj) (m : Str → Option Value) : Prop := ∃ es ep, o.data = .dict es ep ∧ StrKeys es ∧ UniqKeys es ∧ ∀ name, nsFind es name = m name
theorem DictNs.ns1 {h : Heap} {a : Addr} {o : Obj} {m : Str → Option Value} (x : DictNs o m) (e : h.get? a = some o) : h.Ns1 a m := let ⟨es, ep, r⟩ := x; ⟨o, es, ep, e, r⟩
theorem dictNs_of {h : Heap} {a : Addr} {m : Str → Option Value} (x : h.Ns1 a m) : ∃ o, h.get? a = some o ∧ DictNs o m := let ⟨o, es, ep, e, r⟩ := x; ⟨o, e, es, ep, r⟩
noncomputable abbrev excFld (C t : Addr) (d : Option Addr) : Obj := { cls := .ref C, dict := d, data := .fields #[.ref t, .none, .none, .none, .bool false, .none] }
section
variable {prog : Program} {w : World} {A : Around} {E : Value → Shared → Prop} {h : Heap} {g : Array GenState} {d : Drawn} {t : Nat} {os : OsState}
variable {nm q : Str} {C N LE e tt : Addr} {bs bmB : List Value} {sn : List Str} {sub : List Value} {ab : Bool} {col : Option Bool} {dd : Option Addr} {k0 k1 k2 k3 k5 : Option Value} {newId B sa owner : String}
variable {mN mA : Str → Option Value} {c0 : Value} {da : Option Addr} {cd : ClassData} {sl : Array (Option Value)} {name : Str} {v : Value}
/-- the class and the one above it -/
structure Two (h : Heap) (C LE N : Addr) (nm q : Str) (bs bmB : List Value) (sn : List Str) (sub : List Value) (ab : Bool) (col : Option Bool) (dd : Option Addr) (k0 k1 k2 k3 k5 : Option Value) (newId : String) (mN mA : Str → Option Value) : Prop where
  C : h.get? C = some (excClassObj nm q C N bs (.ref LE :: bmB) true sn sub ab col dd k0 k1 k2 k3 k5 newId)
  N : h.Ns N mN
  A : ∃ c0 da cd sl, h.get? LE = some { cls := c0, dict := da, data := .cls cd, slots := sl } ∧ h.Ns cd.ns mA
theorem x_own1 (SF : StoreFacts B bmB sa owner) (W : Two h C LE N nm q bs bmB sn sub ab col dd k0 k1 k2 k3 k5 newId mN mA) (hna : mN name = none) (hnA : mA name = none) (hB : typeLookup (.type B) name = pure none) (he : h.get? e = some (excFld C tt none)) {tk : Tok} {Q : Fin → Shared → Prop}
    (hq : ∀ h' tk' od, h'.get? h.objs.size = some od → DictNs od (fun y => if y = name then some v else none) → h'.get? e = some (excFld C tt (some h.objs.size)) → (∀ b o, b ≠ e → h.get? b = some o → h'.get? b = some o) → Q (.done (.ret .none)) ⟨h', g, d, tk', os⟩) :
    wpAny (model prog w) A (Builtin.«object.__setattr__» ⟨[.ref e, .str name tk, v], []⟩) Q E ⟨h, g, d, t, os⟩ := by
  obtain ⟨hC, hn, c0, da, cd, sl, hA, hNA⟩ := W
  have hp := SF.passes (.ref e)
  obtain ⟨o, ho⟩ : ∃ o, o = excFld C tt none := ⟨_, rfl⟩
  have hc : o.cls = .ref C := by rw [ho]
  have hdn : o.dict = none := by rw [ho]
  have hnc : ∀ c, o.data ≠ .cls c := fun c => by rw [ho]; intro z; cases z
  have hex : ({ cls := o.cls, dict := some h.objs.size, data := o.data, slots := o.slots } : Obj) = excFld C tt (some h.objs.size) := by rw [ho]
  have hfr : ∀ d', ({ cls := o.cls, dict := d', data := o.data, slots := o.slots } : Obj).isFreed = false := fun d' => by rw [ho]; rfl
  rw [← ho] at he
  clear ho
  unfold Builtin.«object.__setattr__»
  repeat (first | rw [refuse_eq] | (rw [refuseLoop_ref, refuseLoop_ref, hp]) | (with_reducible refine wpAny_loadPart_at he ?_; rw [hc]) | with_reducible refine wpAny_mroOf_exc hC ?_ | (with_reducible refine x_lookup2 hC hn hna hA hNA hnA SF.mro hB ?_) | wp_step)
  rw [hdn, if_neg (by simp [typeHasDict])]
  split
  · rename_i hcd
    cases hcd
  split
  · rename_i c hcd
    exact absurd hcd (hnc c)
  have he1 : (h.push { cls := .type "dict", data := .dict #[] }).get? e = some o := Heap.get?_push_of_some _ he
  have hes : e ≠ h.objs.size := Nat.ne_of_lt (Heap.lt_size he)
  refine wpAny_bind (wpAny_alloc' ?_)
  refine wpAny_bind (wpAny_update' he1 ?_)
  refine wpAny_pure ?_
  have hgd : ((h.push { cls := .type "dict", data := .dict #[] }).update e fun o => { cls := o.cls, dict := some h.objs.size, data := o.data, slots := o.slots }).get? h.objs.size = some { cls := .type "dict", data := .dict #[] } :=
    (Heap.get?_update_ne _ _ _ _ hes.symm).trans (Heap.get?_push_at rfl rfl)
  have hnd : ((h.push { cls := .type "dict", data := .dict #[] }).update e fun o => { cls := o.cls, dict := some h.objs.size, data := o.data, slots := o.slots }).Ns h.objs.size (fun _ => none) :=
    ⟨_, #[], _, hgd, rfl, fun e he => absurd he (by simp), fun _ => rfl⟩
  show wpAny _ _ (storeInDict h.objs.size (.str name tk) name v) _ _ _
  unfold storeInDict newKeyGuard
  refine wpAny_bind (wpAny_pure (wpAny_bind (wpAny_nsSet1 (Heap.Ns1.of_empty hnd) fun h' hn' hs => ?_)))
  obtain ⟨oD, esD, epD, hoD, hdD, hcD⟩ := hn'.count (Within.cons name v Within.nil)
  refine wpAny_bind (wpAny_lookBehind hoD (by rw [hdD]; exact pastItsLine_dict (Nat.le_trans hcD (by rw [List.length_cons, List.length_nil, sizeLine_eq]; omega))) ?_)
  wp_walk
  obtain ⟨od, hod, hdn⟩ := dictNs_of hn'
  refine hq h' _ od hod hdn ?_ fun b o hb ho => ?_
  · rw [← hex]
    exact (hs.2 e hes).trans (Heap.get?_update_self _ he1 (hfr _))
  · exact (hs.2 b (Nat.ne_of_lt (Heap.lt_size ho))).trans ((Heap.get?_update_ne _ _ _ _ hb).trans (Heap.get?_push_of_some _ ho))
theorem x_own2 (SF : StoreFacts B bmB sa owner) (W : Two h C LE N nm q bs bmB sn sub ab col dd k0 k1 k2 k3 k5 newId mN mA) (hna : mN name = none) (hnA : mA name = none) (hB : typeLookup (.type B) name = pure none) {dx : Addr} {o0 : Obj} {m0 : Str → Option Value} {ns : List Str} (he : h.get? e = some (excFld C tt (some dx)))
    (hd : h.get? dx = some o0) (hm : DictNs o0 m0) (hw : Within m0 ns) (hsz : ns.length ≤ 100) {tk : Tok} {Q : Fin → Shared → Prop}
    (hq : ∀ h' tk' od, h'.get? dx = some od → DictNs od (fun y => if y = name then some v else m0 y) → (∀ b o, b ≠ dx → h.get? b = some o → h'.get? b = some o) → Q (.done (.ret .none)) ⟨h', g, d, tk', os⟩) :
    wpAny (model prog w) A (Builtin.«object.__setattr__» ⟨[.ref e, .str name tk, v], []⟩) Q E ⟨h, g, d, t, os⟩ := by
  obtain ⟨hC, hn, c0, da, cd, sl, hA, hNA⟩ := W
  have hp := SF.passes (.ref e)
  obtain ⟨o, ho⟩ : ∃ o, o = excFld C tt (some dx) := ⟨_, rfl⟩
  have hc : o.cls = .ref C := by rw [ho]
  have hdn : o.dict = some dx := by rw [ho]
  rw [← ho] at he
  clear ho
  unfold Builtin.«object.__setattr__»
  repeat (first | rw [refuse_eq] | (rw [refuseLoop_ref, refuseLoop_ref, hp]) | (with_reducible refine wpAny_loadPart_at he ?_; rw [hc]) | with_reducible refine wpAny_mroOf_exc hC ?_ | (with_reducible refine x_lookup2 hC hn hna hA hNA hnA SF.mro hB ?_) | wp_step)
  rw [hdn]
  refine wpAny_pure ?_
  show wpAny _ _ (storeInDict dx (.str name tk) name v) _ _ _
  unfold storeInDict newKeyGuard
  refine wpAny_bind (wpAny_pure (wpAny_bind (wpAny_nsSet1 (hm.ns1 hd) fun h' hn' hs => ?_)))
  obtain ⟨oD, esD, epD, hoD, hdD, hcD⟩ := hn'.count (Within.cons name v hw)
  refine wpAny_bind (wpAny_lookBehind hoD (by rw [hdD]; exact pastItsLine_dict (Nat.le_trans hcD (by rw [List.length_cons, sizeLine_eq]; omega))) ?_)
  wp_walk
  obtain ⟨od, hod, hdn2⟩ := dictNs_of hn'
  exact hq h' _ od hod hdn2 fun b o hb ho => (hs.2 b hb).trans ho
/-- the way from setAttr to object.__setattr__ -/
theorem x_set (SF : StoreFacts B bmB sa owner) (W : Two h C LE N nm q bs bmB sn sub ab col dd k0 k1 k2 k3 k5 newId mN mA) (hns : mN "__setattr__" = none) (hnsA : mA "__setattr__" = none) {o : Obj} (he : h.get? e = some o) (hc : o.cls = .ref C) {Q : Unit → Shared → Prop}
    (run : ∀ (A' : Around) (tk : Tok) t (Q' : Fin → Shared → Prop) E', (∀ h' tk', Q () ⟨h', g, d, tk', os⟩ → Q' (.done (.ret .none)) ⟨h', g, d, tk', os⟩) → wpAny (model prog w) A' (Builtin.«object.__setattr__» ⟨[.ref e, .str name tk, v], []⟩) Q' E' ⟨h, g, d, t, os⟩) :
    wpAny (model prog w) A (setAttr (.ref e) name v) Q E ⟨h, g, d, t, os⟩ := by
  obtain ⟨hC, hn, c0, da, cd, sl, hA, hNA⟩ := W
  have f3 := SF.slot.bind (.ref e)
  have hcB : (Value.ref C :: .ref LE :: bmB).contains (.type owner) = true := by rw [List.contains_cons, List.contains_cons, SF.hasOwner, Bool.or_true, Bool.or_true]
  unfold setAttr callSpecial? specialOf
  repeat (any_goals (first | assumption | (with_reducible refine wpAny_loadPart_at he ?_; rw [hc]) | (with_reducible refine x_lookup2 hC hn hns hA hNA hnsA SF.mro SF.slot.lookup ?_) | wp_step))
  refine codeAny_call_builtin SF.slot.plain SF.entry ?_
  have ha := SF.args (.ref e) (.str name t) v
  simp only [checkBuiltinCall, SF.kind, SF.split]
  refine wpAny_bind ?_
  unfold isInstance
  repeat (first | (with_reducible refine wpAny_loadPart_at he ?_; rw [hc]) | (with_reducible refine wpAny_isSubtype_exc hC ?_; rw [hcB]) | wp_step)
  cases hsig : Manifest.signature? sa with
  | none =>
    refine wpAny_pure (run _ _ _ _ _ fun h' tk' hq => ?_)
    repeat (any_goals (first | assumption | wp_step))
  | some sig =>
    simp only [argsOk, hsig] at ha
    have h2 : Bind.checkArgs sa sig ⟨[.ref e, .str name t, v], []⟩ = pure () := ha
    show wpAny _ _ (Bind.checkArgs sa sig ⟨[.ref e, .str name t, v], []⟩) _ _ _
    rw [h2]
    refine wpAny_pure (run _ _ _ _ _ fun h' tk' hq => ?_)
    repeat (any_goals (first | assumption | wp_step))
end
end
theorem ns_some_of {K : Frag} {h : Heap} {N : Addr} {mg : Str → Option Value} {n : Str} {v : Value} (X : K.In h) (G : h.Ns N mg) (e : nsIn K N n = some (some v)) : mg n = some v := by
  obtain ⟨o, es, ep, ho, hd, _, hf⟩ := G
  unfold nsIn at e
  split at e
  · rename_i c d es' n' sl q
    have := X _ _ q
    rw [ho] at this
    cases this
    cases hd
    split at e
    · rename_i i he
      rw [← hf]
      unfold nsFind findBy
      rw [← Array.find?_toList, he]
      simpa using e
    · split at e <;> simp at e
  · cases e
theorem news_made {h₀ h h' : Heap} {L e : Addr} {m : Str → Option Value} {news : List (Addr × Obj)} {vs : List Value} (F : Fr h₀ L h m) (N : News h₀ L h news) (hm : Heap.MadeExcOf h h' e (.ref 53) vs) :
    ∃ t, Fr h₀ L h' m ∧ News h₀ L h' ((e, excFld 53 t none) :: (t, tupO vs.toArray) :: news) ∧ @Ne Nat e t ∧ ∀ p ∈ news, p.1 ≠ e ∧ p.1 ≠ t := by
  obtain ⟨kp, hn, t, he, htn, ht⟩ := hm
  have hL : ∀ b, h.get? b = none → b ≠ L := fun b hb q => by
    obtain ⟨o, es, ep, ho, _⟩ := F.ns
    rw [q, ho] at hb; cases hb
  have h0 : ∀ b, h.get? b = none → h₀.get? b = none := fun b hb => by
    cases q : h₀.get? b with
    | none => rfl
    | some o => have := F.keep _ _ q; rw [hb] at this; cases this
  refine ⟨t, F.keeps kp, fun p hp => ?_, fun q => ?_, fun p hp => ⟨fun q => ?_, fun q => ?_⟩⟩
  · rcases List.mem_cons.mp hp with rfl | hp
    · exact ⟨he, hL _ hn, h0 _ hn⟩
    rcases List.mem_cons.mp hp with rfl | hp
    · exact ⟨ht, hL _ htn, h0 _ htn⟩
    · exact ⟨kp _ _ (N p hp).1, (N p hp).2⟩
  · have q : e = t := q
    rw [q, ht] at he; cases he
  · have := (N p hp).1; rw [q, hn] at this; cases this
  · have := (N p hp).1; rw [q, htn] at this; cases this
noncomputable abbrev bmX : List Value := [.type "Exception", .type "BaseException", .type "object"]
structure Cls53 (h : Heap) : Prop where
  ex : ∃ nm q bs sn sub ab col dd k0 k1 k2 k3 k5 mN mA, Two h 53 40 52 nm q bs bmX sn sub ab col dd k0 k1 k2 k3 k5 "Exception.__new__" mN mA ∧ mN "__init__" = none ∧ mA "__init__" = some (.ref 30) ∧
    (mN "__setattr__" = none ∧ mA "__setattr__" = none) ∧ (mN "what" = none ∧ mA "what" = none) ∧ (mN "at" = none ∧ mA "at" = none) ∧ ∃ oI, h.get? 30 = some oI ∧ oI.cls = .type "function"
theorem cls53 {w : World} {h : Heap} (X : Frag.In (hd.heap_39 w.params) h) : Cls53 h := by
  suffices key : PySem.Challenge.rw_og0083_01.row.prog = PySem.Challenge.rw_og0083_01.row.prog → Cls53 h from key rfl
  (revert X; k_fill; intro X)
  intro _
  have b1 := isNs_of_in X (N := 52) (by with_unfolding_all rfl)
  have b2 := isNs_of_in X (N := 39) (by with_unfolding_all rfl)
  exact ⟨⟨_, _, _, _, _, _, _, _, _, _, _, _, _, _, _, ⟨X _ _ (by k_is), .of_isNs b1, ⟨_, _, _, _, X _ _ (by k_is), .of_isNs b2⟩⟩, ns_none_of X (.of_isNs b1) (by k_is), ns_some_of X (.of_isNs b2) (by k_is),
    ⟨ns_none_of X (.of_isNs b1) (by k_is), ns_none_of X (.of_isNs b2) (by k_is)⟩, ⟨ns_none_of X (.of_isNs b1) (by k_is), ns_none_of X (.of_isNs b2) (by k_is)⟩, ⟨ns_none_of X (.of_isNs b1) (by k_is), ns_none_of X (.of_isNs b2) (by k_is)⟩, _, X _ _ (by k_is), rfl⟩⟩
section
variable {prog : Program} {w : World} {A : Around} {E : Value → Shared → Prop} {s : Shared} {g : Heap} {L : Addr} {m : Str → Option Value} {news : List (Addr × Obj)} {e t : Addr} {od : Option Addr} {u : Obj → List (Addr × Obj)}
theorem fr_but1 {h' : Heap} {x : Addr} {o : Obj} (F : Fr g L s.heap m) (N : News g L s.heap news) (hm : (x, o) ∈ news) (kp : ∀ b o, b ≠ x → s.heap.get? b = some o → h'.get? b = some o) : Fr g L h' m := by
  have hx := N _ hm
  exact ⟨F.ns.at' fun o e => kp _ o (Ne.symm hx.2.1) e, fun b o e => kp b o (fun q => by rw [q, hx.2.2] at e; cases e) (F.keep b o e), F.above⟩
theorem excInit_K (F : Fr g L s.heap m) (N : News g L s.heap news) (K : Cls53 g) (U : UpdF e (excFld 53 t od) news u) {x : Value} {Q : Value → Shared → Prop}
    (h : ∀ h' t2, Fr g L h' m → News g L h' ((t2, tupO #[x]) :: u (excFld 53 t2 od)) → (∀ p ∈ news, p.1 < t2) → Q .none { s with heap := h' }) : wpAny (model prog w) A (call (.builtin "Exception.__init__") [.ref e, x]) Q E s := by
  obtain ⟨nm, q, bs, sn, sub, ab, col, dd, k0, k1, k2, k3, k5, mN, mA, W, _⟩ := K.ex
  obtain ⟨pre, post, rfl, hu, a, b⟩ := U.split
  have hm : (e, excFld 53 t od) ∈ pre ++ (e, excFld 53 t od) :: post := List.mem_append_right _ (.head _)
  have z := N _ hm
  have hC := F.keep _ _ W.C
  have up := fun p hp => (N p hp).1
  have hlt : ∀ p ∈ pre ++ (e, excFld 53 t od) :: post, p.1 < s.heap.objs.size := fun p hp => Heap.lt_size (N p hp).1
  have hL : L < s.heap.objs.size := F.ns.lt
  have hg : g.get? s.heap.objs.size = none := next_is_new F
  have F0 := F
  obtain ⟨hp, gn, d, tk, os⟩ := s
  refine x_init PySem.F.excBase_Exception hasT_one hC z.1 (by rw [sizeLine_eq]; exact Nat.le_add_left 1 16777215) fun h' h1 h2 kp => ?_
  refine h h' hp.objs.size (fr_but1 (s := ⟨hp, gn, d, tk, os⟩) F0 N hm kp) (fun p hq => ?_) hlt
  rcases List.mem_cons.mp hq with rfl | hq
  · exact ⟨h2, Nat.ne_of_gt hL, hg⟩
  rw [hu] at hq
  rcases List.mem_append.mp hq with hq | hq
  · have := N p (List.mem_append_left _ hq); exact ⟨kp _ _ (a p hq) this.1, this.2⟩
  rcases List.mem_cons.mp hq with rfl | hq
  · exact ⟨h1, z.2⟩
  · have := N p (List.mem_append_right _ (.tail _ hq)); exact ⟨kp _ _ (b p hq) this.1, this.2⟩
theorem excSet1_K (F : Fr g L s.heap m) (N : News g L s.heap news) (K : Cls53 g) (U : UpdF e (excFld 53 t none) news u) {v : Value} {Q : Unit → Shared → Prop}
    (h : ∀ h' d od tk, Fr g L h' m → News g L h' ((d, od) :: u (excFld 53 t (some d))) → (∀ p ∈ news, p.1 < d) → DictNs od (fun y => if y = Str.ofString "what" then some v else none) → Q () { s with heap := h', toks := tk }) : wpAny (model prog w) A (setAttr (.ref e) (Str.ofString "what") v) Q E s := by
  obtain ⟨nm, q, bs, sn, sub, ab, col, dd, k0, k1, k2, k3, k5, mN, mA, W, _, _, ⟨s1, s2⟩, ⟨w1, w2⟩, _⟩ := K.ex
  obtain ⟨pre, post, rfl, hu, a, b⟩ := U.split
  have hm : (e, excFld 53 t none) ∈ pre ++ (e, excFld 53 t none) :: post := List.mem_append_right _ (.head _)
  have z := N _ hm
  have W' : Two s.heap 53 40 52 nm q bs bmX sn sub ab col dd k0 k1 k2 k3 k5 "Exception.__new__" mN mA := by
    obtain ⟨hC, hN, c0, da, cd, sl, hA, hNA⟩ := W
    exact ⟨F.keep _ _ hC, hN.keeps F.keep, c0, da, cd, sl, F.keep _ _ hA, hNA.keeps F.keep⟩
  have hlt : ∀ p ∈ pre ++ (e, excFld 53 t none) :: post, p.1 < s.heap.objs.size := fun p hp => Heap.lt_size (N p hp).1
  have hL : L < s.heap.objs.size := F.ns.lt
  have hg : g.get? s.heap.objs.size = none := next_is_new F
  have F0 := F
  obtain ⟨hp, gn, d, tk, os⟩ := s
  refine x_set PySem.F.store_Exception W' s1 s2 z.1 rfl fun A' tk' t' Q' E' back => x_own1 PySem.F.store_Exception W' w1 w2 (by rw [typeLookup_type, builtinLookup_eq_fast]; kernel_rfl) z.1 fun h' tk2 od h1 h2 h3 kp => back h' tk2 ?_
  refine h h' hp.objs.size od tk2 (fr_but1 (s := ⟨hp, gn, d, tk, os⟩) F0 N hm kp) (fun p hq => ?_) hlt h2
  rcases List.mem_cons.mp hq with rfl | hq
  · exact ⟨h1, Nat.ne_of_gt hL, hg⟩
  rw [hu] at hq
  rcases List.mem_append.mp hq with hq | hq
  · have := N p (List.mem_append_left _ hq); exact ⟨kp _ _ (a p hq) this.1, this.2⟩
  rcases List.mem_cons.mp hq with rfl | hq
  · exact ⟨h3, z.2⟩
  · have := N p (List.mem_append_right _ (.tail _ hq)); exact ⟨kp _ _ (b p hq) this.1, this.2⟩
theorem excSet2_K (F : Fr g L s.heap m) (N : News g L s.heap news) (K : Cls53 g) {d : Addr} {od : Obj} {v0 : Value} (he : (e, excFld 53 t (some d)) ∈ news) (U : UpdF d od news u) (hd : DictNs od (fun y => if y = Str.ofString "what" then some v0 else none)) {v : Value} {Q : Unit → Shared → Prop}
    (h : ∀ h' od' tk, Fr g L h' m → News g L h' (u od') → Q () { s with heap := h', toks := tk }) : wpAny (model prog w) A (setAttr (.ref e) (Str.ofString "at") v) Q E s := by
  obtain ⟨nm, q, bs, sn, sub, ab, col, dd, k0, k1, k2, k3, k5, mN, mA, W, _, _, ⟨s1, s2⟩, _, ⟨w1, w2⟩, _⟩ := K.ex
  have ze := N _ he
  obtain ⟨pre, post, rfl, hu, a, b⟩ := U.split
  have hm : (d, od) ∈ pre ++ (d, od) :: post := List.mem_append_right _ (.head _)
  have z := N _ hm
  have W' : Two s.heap 53 40 52 nm q bs bmX sn sub ab col dd k0 k1 k2 k3 k5 "Exception.__new__" mN mA := by
    obtain ⟨hC, hN, c0, da, cd, sl, hA, hNA⟩ := W
    exact ⟨F.keep _ _ hC, hN.keeps F.keep, c0, da, cd, sl, F.keep _ _ hA, hNA.keeps F.keep⟩
  have F0 := F
  obtain ⟨hp, gn, d', tk, os⟩ := s
  refine x_set PySem.F.store_Exception W' s1 s2 ze.1 rfl fun A' tk' t' Q' E' back => x_own2 (ns := [Str.ofString "what"]) PySem.F.store_Exception W' w1 w2 (by rw [typeLookup_type, builtinLookup_eq_fast]; kernel_rfl) ze.1 z.1 hd (fun y hy => ?_) (by decide) fun h' tk2 od2 h1 h2 kp => back h' tk2 ?_
  · by_cases q : y = Str.ofString "what"
    · rw [q]; exact .head _
    · exact absurd (if_neg q) hy
  refine h h' od2 tk2 (fr_but1 (s := ⟨hp, gn, d', tk, os⟩) F0 N hm kp) fun p hq => ?_
  rw [hu] at hq
  rcases List.mem_append.mp hq with hq | hq
  · have := N p (List.mem_append_left _ hq); exact ⟨kp _ _ (a p hq) this.1, this.2⟩
  rcases List.mem_cons.mp hq with rfl | hq
  · exact ⟨h1, z.2⟩
  · have := N p (List.mem_append_right _ (.tail _ hq)); exact ⟨kp _ _ (b p hq) this.1, this.2⟩
end
theorem words50 : True := by
  k_with "getMethod type:Exception" => ((k_here; k_dflt (refine' method_type (v := .builtin "Exception.__init__") (by k_asm) (by k_asm) (by first | rfl | kernel_rfl) (by decide +kernel) (by k_is) (by rfl) ?_)))
  k_with "call builtin:Exception.__init__" => ((k_here; k_dflt (refine' excInit_K (by k_asm) (by k_asm) (by assumption) (by k_updF) ?_; k_whole); intro h' t2' F' N' l1; (try k_lt l1); (try dsimp only at N'); (revert h' t2' F' N' l1; intro _ _ _ _ _)))
  k_with "setAttr ref" => ((k_here; k_dflt (refine' excSet1_K (by k_asm) (by k_asm) (by assumption) (by k_updF) ?_; k_whole); intro h' d' od' tk' F' N' l1 dn'; (try k_lt l1); (try dsimp only at N'); (revert h' d' od' tk' F' N' l1 dn'; intro _ _ _ _ _ _ _ _)))
  k_with "setAttr ref" => ((k_here; k_dflt (refine' excSet2_K (by k_asm) (by k_asm) (by assumption) (by k_mem) (by k_updF) (by assumption) ?_; k_whole); intro h' od' tk' F' N'; (try dsimp only at N'); (revert h' od' tk' F' N'; intro _ _ _ _ _)))
  trivial
section
variable {w : World} {mean : ExcName → Option Value} {mg mb : Str → Option Value} {A₀ : Around} {base h₀ : Heap} {outer : List Env} {env : Env} {L : Addr} {m : Str → Option Value} {news : List (Addr × Obj)} {s : Shared}
  {dp un : Nat} {gd : Option (List Code)} {Q E : Value → Shared → Prop}
set_option maxHeartbeats 8000000 in
theorem exc_spec (H : Here w mean mg mb A₀ base h₀ outer env L m news s.heap) (hdp : dp + 40 < recursionLimit) (hu : un + 400 < cLine) {what : Str} {tw : Tok}
    (ret : ∀ e t oe h' tk' tw2, Fr h₀ L h' m → News h₀ L h' ((e, oe) :: (t, tupO #[.str what tw2]) :: news) → oe.cls = .ref 53 → oe.data = .fields #[.ref t, .none, .none, .none, .bool false, .none] → (∀ p ∈ (t, tupO #[.str what tw2]) :: news, p.1 ≠ e) → (∀ p ∈ news, p.1 ≠ t) → Q (.ref e) { s with heap := h', toks := tk' }) :
    wpAny (model PySem.Challenge.rw_og0083_01.row.prog w) (aro dp un gd (env :: outer)) (call (.ref 53) [.str what tw]) Q E s := by
  have F := H.F
  have X := H.X
  have N := H.N
  have K := cls53 X
  obtain ⟨nm, q, bs, sn, sub, ab, col, dd, k0, k1, k2, k3, k5, mN, mA, W, i1, i2, _, _, _, oI, hI, hIc⟩ := K.ex
  obtain ⟨hC, hNs, c0, da, cd, sl, hA, hNA⟩ := W
  have F0 := F
  obtain ⟨hp, gn, d, t, os⟩ := s
  refine x_call (C := 53) (LE := 40) (fI := 30) (N := 52) (newId := "Exception.__new__") PySem.F.excBase_Exception hasT_one (F.keep _ _ hC) (hNs.keeps F.keep) i1 (F.keep _ _ hA) (hNA.keeps F.keep) i2 (F.keep _ _ hI) hIc (by rw [sizeLine_eq]; exact Nat.le_add_left 1 16777215) ?_
  intro h' e hm
  obtain ⟨tt, F1, N1, n1, n2⟩ := news_made F0 N hm
  have H1 : Here w mean mg mb A₀ base h₀ outer env L m ((e, excFld 53 tt none) :: (tt, tupO #[.str what tw]) :: news) h' := ⟨H.B, F1, H.X, N1, H.T, H.hf, H.hk⟩
  obtain ⟨g1, C, st', B, X', T, fr, kp, ns⟩ := H1.cut (dp := dp) (un := un) (gd := gd) (muts := [(e, excFld 53 tt none)]) (by simp)
  have K1 : Cls53 g1 := cls53 X'
  clear H H1 F X F1 K hC hNs hA hNA hI F0
  (revert T C; revert X'; k_fill; intro X' T C)
  refine wpAny_call ?_
  walk_at "S enter"
  k_steps
  rename_i L1 _ _ _ _ _ _ t2 _ _ _ _ d2 _ _ _ _ _ l2 h6 od6 tk6 F6 N6
  have Nf : News g1 _ h6 [(e, excFld 53 t2 (some d2)), (t2, tupO #[.str what tw])] := fun p hp => N6 p (by simp only [List.mem_cons, List.not_mem_nil, or_false] at hp ⊢; grind)
  have nn := ns _ _ (aft_of F6 Nf)
  have et : @Ne Nat t2 e := by omega
  have sep := fresh_off T N1 (fun p hp => Nf p (.tail _ hp)) (own_one (adr := [e]) (by simpa using et))
  refine ret e t2 (excFld 53 t2 (some d2)) h6 tk6 tw (fr _ F6.keep) (fun p hp => ?_) rfl rfl (fun p hp => ?_) (fun p hp q => ?_)
  · rcases List.mem_cons.mp hp with rfl | hp
    · exact nn _ (.head _)
    rcases List.mem_cons.mp hp with rfl | hp
    · exact nn _ (.tail _ (.head _))
    · exact kp _ p F6.keep (.tail _ (.tail _ hp)) (by simpa using (n2 p hp).1)
  · rcases List.mem_cons.mp hp with rfl | hp
    · exact et
    · exact (n2 p hp).1
  · exact sep _ (.head _) p (.tail _ (.tail _ hp)) q.symm
end
noncomputable def RaiseMade (E : Value → Shared → Prop) (v : Value) (s₁ : Shared) : Prop := ∃ e oe, v = .ref e ∧ (∃ nm q N bs bm hdct sn sub ab col dd k0 k1 k2 k3 k5 newId, s₁.heap.get? 53 = some (excClassObj nm q 53 N bs bm hdct sn sub ab col dd k0 k1 k2 k3 k5 newId) ∧ bm.contains (.type "BaseException") = true) ∧
  s₁.heap.get? e = some oe ∧ oe.cls = .ref 53 ∧ (∃ a, oe.data = .fields #[a, .none, .none, .none, .bool false, .none]) ∧ E (.ref e) s₁
theorem RaiseMade.intro {E : Value → Shared → Prop} {s : Shared} {g : Heap} {L e : Addr} {m : Str → Option Value} {news : List (Addr × Obj)} {oe : Obj} {t : Addr} (F : Fr g L s.heap m) (N : News g L s.heap news) (K : Cls53 g) (hm : (e, oe) ∈ news) (hc : oe.cls = .ref 53) (hd : oe.data = .fields #[.ref t, .none, .none, .none, .bool false, .none]) (hE : E (.ref e) s) : RaiseMade E (.ref e) s := by
  obtain ⟨nm, q, bs, sn, sub, ab, col, dd, k0, k1, k2, k3, k5, mN, mA, W, _⟩ := K.ex
  exact ⟨e, oe, rfl, ⟨_, _, _, _, _, _, _, _, _, _, _, _, _, _, _, _, _, F.keep _ _ W.C, rfl⟩, (N _ hm).1, hc, ⟨_, hd⟩, hE⟩
theorem Raise_53 {M : Model} {A : Around} {E : Value → Shared → Prop} {s : Shared} {env : Env} {e : Expr} {pos : Pos} {Q : Flow → Shared → Prop} (hh : A.handled = none) (h : wpAny M A (eval e env) (RaiseMade E) E s) : wpAny M A (exec (.Raise (some e) none pos) env) Q E s := by
  show wpAny M A (do standAt pos; raiseStmt env (some (do let v ← eval e env; standAt pos; pure v)) none) Q E s
  exact wpAny_bind (wpAny_standAt (x_raiseStmt (C := 53) hh (wpAny_bind (wpAny_mono h (fun v s₁ h₁ => wpAny_bind (wpAny_standAt (wpAny_pure h₁))) fun _ _ x => x))))
section
variable {M : Model} {A : Around} {E : Value → Shared → Prop} {s' : Shared} {base g : Heap} {outer : List Env} {L a e t : Addr} {m : Str → Option Value} {name : Str} {scope : Scope} {cd : Value} {Q : Unit → Shared → Prop} {news : List (Addr × Obj)} {oe : Obj} {vs : List Value}
theorem leave_own (K : Below A base outer g) (F : Fr g L s'.heap m) (N : News g L s'.heap ((e, oe) :: (t, tupO vs.toArray) :: news)) (hc : oe.cls = .ref 53) (hd : oe.data = .fields #[.ref t, .none, .none, .none, .bool false, .none])
    (ne : ∀ p ∈ (t, tupO vs.toArray) :: news, p.1 ≠ e) (nt : ∀ p ∈ news, p.1 ≠ t)
    (hQ : ∀ h', RaisedS base g outer e (.ref 53) t vs news h' → RaisedK base outer e (.ref 53) t vs news h' → g.UpToSlots h' → Q () { s' with heap := h' }) (hk : scope.kind = .function := by rfl) :
    wpAny M (A.deeper (envOf name scope L a cd)) (leaving (envOf name scope L a cd) (.ref e)) Q E s' := by
  have K' := K.push (name := name) (a := a) (cd := cd) F hk
  let fs := (envOf name scope L a cd :: outer).filterMap (·.frame)
  have hin : ∀ env ∈ (envOf name scope L a cd :: outer), ∀ b, env.frame = some b → b ∈ e :: t :: fs := fun env he b hb => .tail _ (.tail _ (List.mem_filterMap.mpr ⟨env, he, hb⟩))
  have ge : g.get? e = none := (N _ (.head _)).2.2
  have gt : g.get? t = none := (N _ (.tail _ (.head _))).2.2
  have st : base.StaysIn (hideAll s'.heap (e :: t :: fs)) := fun b o q => hideAll_get _ (K'.stays b o q) fun hm => by
    rcases List.mem_cons.mp hm with rfl | hm
    · rw [fresh_of_stays K.stays ge] at q; cases q
    rcases List.mem_cons.mp hm with rfl | hm
    · rw [fresh_of_stays K.stays gt] at q; cases q
    · rw [(K'.frames.mem hm).1] at q; cases q
  have sg : ∀ b o, g.get? b = some o → b ∉ outer.filterMap (·.frame) → (hideAll s'.heap (e :: t :: fs)).get? b = some o := fun b o q nm => hideAll_get _ (F.keep b o q) fun hm => by
    rcases List.mem_cons.mp hm with rfl | hm
    · rw [ge] at q; cases q
    rcases List.mem_cons.mp hm with rfl | hm
    · rw [gt] at q; cases q
    · rcases kts_mem hm with z | z
      · rw [z, kts_self F] at q; cases q
      · exact nm z
  have hl : ∀ q ∈ news, (hideAll s'.heap (e :: t :: fs)).get? q.1 = some q.2 ∧ g.get? q.1 = none ∧ base.get? q.1 = none := fun q hq => by
    have z := N q (.tail _ (.tail _ hq))
    refine ⟨hideAll_get _ z.1 fun hm => ?_, z.2.2, fresh_of_stays K.stays z.2.2⟩
    rcases List.mem_cons.mp hm with hm | hm
    · exact ne q (.tail _ hq) hm
    rcases List.mem_cons.mp hm with hm | hm
    · exact nt q hq hm
    obtain ⟨env, he, hf⟩ := List.mem_filterMap.mp hm
    rcases List.mem_cons.mp he with rfl | he
    · exact z.2.1 (Option.some.inj hf).symm
    · obtain ⟨o, ho, _⟩ := (K.frames.mem (List.mem_filterMap.mpr ⟨env, he, hf⟩)).2
      rw [z.2.2] at ho; cases ho
  have be : (hideAll s'.heap (e :: t :: fs)).get? e = none := hideAll_none _ (.head _)
  have bt : (hideAll s'.heap (e :: t :: fs)).get? t = none := hideAll_none _ (.tail _ (.head _))
  refine wpAny_leaving_firstW (a0 := .ref t) K'.stack (funFrames_hide K'.frames hin) rfl (N _ (.head _)).1 (fun b o q => of_hideAll _ q) be hd rfl rfl fun h' hL => ?_
  obtain ⟨k1, ⟨_, _, k2⟩, k3, k4⟩ := hL
  rw [hc] at k3
  have tp : s'.heap.TupAt t vs := ⟨_, _, (N _ (.tail _ (.head _))).1, rfl, rfl⟩
  have R : RaisedS base g outer e (.ref 53) t vs news h' := ⟨⟨_, st, sg, hl, ⟨k1, be, k2, k3⟩, bt⟩, tp.of_slots k4⟩
  exact hQ h' R R.toK ((Heap.UpToSlots.of_keeps F.keep).trans k4)
end
theorem mem_frames {env : Env} {L b : Addr} {outer : List Env} (hf : env.frame = some L) (hm : b ∈ (env :: outer).filterMap (·.frame)) : b = L ∨ b ∈ outer.filterMap (·.frame) := by
  obtain ⟨e, he, hb⟩ := List.mem_filterMap.mp hm
  rcases List.mem_cons.mp he with rfl | he
  · exact .inl (Option.some.inj (hb.symm.trans hf))
  · exact .inr (List.mem_filterMap.mpr ⟨e, he, hb⟩)
theorem leave_onE {M : Model} {A : Around} {E : Value → Shared → Prop} {s' : Shared} {base g g₂ : Heap} {outer : List Env} {L e t : Addr} {m : Str → Option Value} {env : Env} {Q : Unit → Shared → Prop} {news : List (Addr × Obj)} {cls : Value} {vs : List Value}
    (K : Below A base outer g) (F : Fr g L g₂ m) (R : RaisedS base g₂ (env :: outer) e cls t vs news s'.heap) (hsm : g₂.UpToSlots s'.heap) (hf : env.frame = some L)
    (hQ : ∀ h', RaisedS base g outer e cls t vs news h' → RaisedK base outer e cls t vs news h' → g.UpToSlots h' → Q () { s' with heap := h' }) : wpAny M (A.deeper env) (leaving env (.ref e)) Q E s' := by
  obtain ⟨⟨B, hB, hBG, hl, hfl, hnew⟩, htup⟩ := R
  refine wpAny_leaves_onW (Around.frames_deeper K.stack) hf hfl fun h' x1 x2 => ?_
  have R' : RaisedS base g outer e cls t vs news h' := ⟨⟨B, hB, fun b o q nm => hBG b o (F.keep b o q) (fun hm => by
    rcases mem_frames hf hm with z | z
    · rw [z, kts_self F] at q; cases q
    · exact nm z), fun q hq => ⟨(hl q hq).1, kts_none F.keep (hl q hq).2.1, (hl q hq).2.2⟩, x1, hnew⟩, htup.of_slots x2⟩
  exact hQ h' R' R'.toK ((Heap.UpToSlots.of_keeps F.keep).trans (hsm.trans x2))
theorem words51 : True := by
  k_with "leaving ref" => ((k_here; k_dflt (refine' leave_onE (by assumption) (by assumption) (by assumption) (by assumption) (by exact rfl) ?_; k_whole); intro h' S' R' U'; (try dsimp only at S' R' U' ⊢); (revert h' S' R' U'; intro _ _ _ _)))
  k_with "S room" => (k_room)
  k_with "S room" => (((have hcL9 := cLine_is); simp only [units_in1, units_deeper, Around.mark_units, units_caller]; omega))
  k_with "exec Raise some none" => ((k_here; k_dflt (refine' Raise_53 (by rfl) ?_; k_whole)))
  k_with "RaiseMade" => ((k_dflt (refine' RaiseMade.intro (by k_asm) (by k_asm) (by exact cls53 (by k_asm)) (by k_mem) (by assumption) (by assumption) ?_; k_whole)))
  k_with "call ref" => ((k_here; (with_reducible show wpAny _ _ (call (Value.ref 53) _ _) _ _ _); (k_dflt (show wpAny _ _ (call (Value.ref 53) [Value.str _ _] []) _ _ _)); (k_dflt (refine' exc_spec (by walk_at "S here") (by walk_at "S room") (by walk_at "S room") ?_; k_whole)); (intro _ _ _ _ _ _ _ _ _ _ _ _)))
  k_with "leaving ref" => ((k_here; k_dflt (refine' leave_own (by assumption) (by assumption) (by k_asm) (by assumption) (by assumption) (by assumption) (by assumption) ?_; k_whole); intro h' S' R' U'; (try dsimp only at S' R' U' ⊢); (revert h' S' R' U'; intro _ _ _ _)))
  trivial
section
variable {prog : Program} {w : World} {A₀ A : Around} {s : Shared} {base h₀ g₀ : Heap} {outer : List Env} {L a : Addr} {m : Str → Option Value} {env : Env} {news : List (Addr × Obj)} {K : Frag} {p : Program} {loose : List Str} {mean : ExcName → Option Value} {mg mb : Str → Option Value}
    {R : Result → Shared → Prop} {name qual : Str} {params : Arguments} {body : List Stmt} {scope : Scope} {dV kV doc pm cdv ct oc : Value} {an od : Option Addr} {osl : Array (Option Value)} {f : Addr} {args : Args} {binds : List (Str × Value)}
theorem enterE (B : Below A₀ base outer h₀) (F : Fr h₀ L s.heap m) (N : News h₀ L s.heap news) (hA : A.frames = some (env :: outer)) (hf : env.frame = some L) (hke : env.scope.kind = .function) :
    ∃ oL es ep, (hideAll s.heap (news.map (·.1))).get? L = some oL ∧ oL.data = .dict es ep ∧ (∀ h', h'.get? L = some oL → Heap.Ns h' L m) ∧ (∀ (sl : Array (Option Value)) h', h'.get? L = some { oL with slots := sl } → Heap.Ns h' L m) ∧
      h₀.StaysIn (hideAll s.heap (news.map (·.1))) ∧ Below A base (env :: outer) (hideAll s.heap (news.map (·.1))) := by
  have nm : ∀ b o, h₀.get? b = some o → b ∉ news.map (·.1) := fun b o e q => by
    obtain ⟨p, hp, rfl⟩ := List.mem_map.mp q
    rw [(N p hp).2.2] at e; cases e
  have st : h₀.StaysIn (hideAll s.heap (news.map (·.1))) := fun b o e => hideAll_get _ (F.keep b o e) (nm b o e)
  obtain ⟨oL, es, ep, hL, hLd, hLk, hLf⟩ := F.ns
  have nL : L ∉ news.map (·.1) := fun q => by
    obtain ⟨p, hp, e⟩ := List.mem_map.mp q
    exact (N p hp).2.1 e
  have hLg := hideAll_get (news.map (·.1)) hL nL
  have B₁ := pushX B F hf hke
  exact ⟨oL, es, ep, hLg, hLd, fun h' e => ⟨oL, es, ep, e, hLd, hLk, hLf⟩, fun sl h' e => ⟨_, es, ep, e, hLd, hLk, hLf⟩, st, ⟨hA, fun b o e => st b o (B.stays b o e), funFrames_hideAll B₁.frames fun env' he b hb hf' => by
    cases he with
    | head => exact nL ((Option.some.inj (hf.symm.trans hf') : L = b) ▸ hb)
    | tail _ he =>
      obtain ⟨L₁, o₁, hf₁, ho₁⟩ := funFrames_in B.frames env' he
      rw [hf₁] at hf'
      exact nm L₁ o₁ ho₁ ((Option.some.inj hf' : L₁ = b) ▸ hb)⟩⟩
theorem code_defE0 (B : Below A₀ base [] h₀) (F : Fr h₀ L s.heap m) (X₀ : K.In h₀) (N : News h₀ L s.heap news) (T : Top p loose mean mg mb h₀) (hA : A.frames = some [env]) (hf : env.frame = some L) (hke : env.scope.kind = .function)
    (ho : K.lookup f = some ⟨oc, od, .func (fnOf name qual params body scope dV kV doc pm an cdv ct), osl⟩) (hcd : codeIn K cdv qual = true) (hroom : A.depth < recursionLimit)
    (hbind : BindsTo s (fnOf name qual params body scope dV kV doc pm an cdv ct) args binds) (hloc : ∀ y ∈ binds, scope.names.lookup y.1 = some .local)
    (h : ∀ g L' h₁, Fr h₀ L g m → Fr g L' h₁ (fun y => binds.reverse.lookup y) → News g L' h₁ news → Below A base [env] g → K.In g → Top p loose mean mg mb g → KtsDicts ([env].filterMap (·.frame)) g →
      wpAny (model prog w) (A.deeper (envOf qual scope L' f cdv)) (execs body (envOf qual scope L' f cdv))
        (fun fl s' => LeaveS0 ([env].filterMap (·.frame)) h₀ L m g R (match fl with | .ret v => v | _ => .none) s')
        (fun e s' => wpAny (model prog w) (A.deeper (envOf qual scope L' f cdv)) (leaving (envOf qual scope L' f cdv) e) (fun _ s'' => R (.error e) s'') (fun e' s'' => R (.error e') s'') s')
        { s with heap := h₁, toks := s.toks + binds.length })
    (hco : scope.isCoroutine = false) (hgen : scope.isGenerator = false) (hk : scope.kind = .function)
    (hcell : ∀ x ∈ scope.names, x.2 ≠ .cell) : codeAny (model prog w) A (.call (.ref f) args) R s := by
  have X := X₀.keeps F.keep
  refine codeAny_call_def (fd := fnOf name qual params body scope dV kV doc pm an cdv ct) (body := body) (binds := binds) hroom (X _ _ ho) rfl (T.nolimit.keeps F.keep) (codeRec_of X hcd) rfl hbind hcell hloc (fun h₁ hns hk₁ => ?_) hco hgen hk
  obtain ⟨oL, es, ep, hLg, hLd, hN, hNs, st, B₂⟩ := enterE B F N hA hf hke
  refine wpAny_mono (h _ s.heap.objs.size h₁ ⟨hN _ hLg, st, F.above⟩ ⟨hns, fun b o e => hk₁ b o (of_hideAll _ e), Nat.le_of_eq (hideAll_size _ _)⟩
    (fun p hp => ⟨hk₁ _ _ (N p hp).1, Nat.ne_of_lt (Heap.lt_size (N p hp).1), hideAll_none _ (List.mem_map_of_mem hp)⟩) B₂ (X₀.keeps st) (T.keeps st) (fun b hb => by
      rcases mem_frames hf hb with rfl | z
      · exact ⟨oL, es, ep, hLg, hLd⟩
      · simp at z)) (fun fl s' hl => ?_) fun _ _ y => y
  obtain ⟨g', L', m', news', T', F', N', k⟩ := hl
  have nL₀ : h₀.get? L = none := kts_self F
  obtain ⟨sl, hs⟩ := T'.up hLg
  refine k ⟨hNs sl _ (F'.keep _ _ hs), fun b o e => F'.keep b o (T'.other b o (st b o e) (fun q => by
    rcases mem_frames hf q with z | z
    · rw [z, nL₀] at e
      cases e
    · simp at z)), F.above⟩ fun p hp => ⟨(N' p hp).1, fun q => ?_, ?_⟩
  · have := (N' p hp).2.2; rw [q, hs] at this; cases this
  · cases q : h₀.get? p.1 with
    | none => rfl
    | some o =>
      obtain ⟨sl', hs'⟩ := T'.up (st _ _ q)
      have := (N' p hp).2.2
      rw [hs'] at this
      cases this
end
theorem words52 : True := by
  k_with "W8" => ((refine' code_defE0 (by k_asm) (by k_asm) (by k_asm) (by k_asm) (by k_asm) (by exact rfl) (by exact rfl) (by exact rfl) (by k_is) (by k_is) (by k_room) (by first | exact binds_K (by k_in) rfl (by k_is) rfl rfl rfl | exact BindsTo.of_eq rfl | fail "kts_go: no rule for these arguments") (by exact locs rfl) ?_ (by exact rfl) (by exact rfl) (by exact rfl) (by decide); k_whole))
  trivial
local macro_rules | `(tactic| walk_at "S gotry") => `(tactic| ((k_extra "W8"); intro g' L' h' FG' F' N' B' X' T' D'; (try dsimp only); (try k_lift B'); (try k_fold)))
theorem op_in {x : Str} {t u v : Tok} (h : BadOp x) : [Value.str (Str.ofString "=") t, Value.str (Str.ofString ">") u, Value.str (Str.ofString ">=") v].any (isTheStr x) = false := by
  obtain ⟨h1, h2, h3⟩ := h
  have e1 : (Str.ofString "=" == x) = false := by rw [BEq.comm]; exact h1
  have e2 : (Str.ofString ">" == x) = false := by rw [BEq.comm]; exact h2
  have e3 : (Str.ofString ">=" == x) = false := by rw [BEq.comm]; exact h3
  simp only [List.any_cons, isTheStr, List.any_nil, e1, e2, e3, Bool.or_false]
theorem words53 : True := by
  k_with "S any" => (exact op_in (by assumption))
  trivial
section
variable {w : World} {h₀ : Heap} {L : Addr} {m : Str → Option Value} {news : List (Addr × Obj)} {A : Around} {E : Value → Shared → Prop} {s : Shared} {Q : Value → Shared → Prop} {prog : Program}
theorem item_bad2 {value slice : PySem.Expr} {t : Addr} {l : List Value} {k : Int} {u : Tok} (ht : s.heap.IsTuple t l.toArray) (hl : BadTab l) (h0 : 0 ≤ k) (h1 : k < 4) (h : ∀ o t, BadOp o → o.length ≤ 2 → Q (.str o t) s)
    (hs : subscripted slice false (.ref t) (.int k u) = operate [.ref t, .int k u] (getItem (.ref t) (.int k u))) : wpAny (model prog w) A (subscriptTail value slice (.ref t) (.int k u)) Q E s := by
  obtain ⟨a, b, c, d, rfl⟩ := hl
  refine item_any (fun x => ∃ o t, BadOp o ∧ o.length ≤ 2 ∧ x = .str o t) ht ?_ h0 (by simpa using h1) (by simp) (fun x hx => by obtain ⟨op, t, hb, hn, rfl⟩ := hx; exact h op t hb hn) hs
  simp only [List.forall_mem_cons]
  exact ⟨⟨_, _, by unfold BadOp; decide, by decide, rfl⟩, ⟨_, _, by unfold BadOp; decide, by decide, rfl⟩, ⟨_, _, by unfold BadOp; decide, by decide, rfl⟩, ⟨_, _, by unfold BadOp; decide, by decide, rfl⟩, by simp⟩
theorem add_op {x y : Str} {t u : Tok} (hx : x.length ≤ 100) (hy : y.length ≤ 2) (h : ∀ t' k, Q (.str (x ++ y) t') { s with toks := k }) : wpAny (model prog w) A (binaryOp .Add (.str x t) (.str y u)) Q E s :=
  PyProof.Rows.add_str h (by rw [sizeLine_eq]; omega)
theorem told_eq {a1 a2 ra1 ra2 : Addr} {x y x' y' : Str} {p l n p' l' n' : Int} {b1 b2 b1' b2' : Bool} {t1 t2 t3 t4 t5 u1 u2 u3 u4 u5 : Tok} {tl1 tl2 : List (Addr × Obj)} {ns1 ns2 : List Int} {r : RowsT} (N : News h₀ L s.heap news)
    (m1 : (a1, tupO #[.str x t1, .str y t2, .int p t3, .bool b1, .bool b2, .int l t4, .int n t5, .ref ra1]) ∈ news) (m2 : (a2, tupO #[.str x' u1, .str y' u2, .int p' u3, .bool b1', .bool b2', .int l' u4, .int n' u5, .ref ra2]) ∈ news)
    (hv : x = x' ∧ y = y' ∧ p = p' ∧ b1 = b1' ∧ b2 = b2' ∧ l = l' ∧ n = n') (d1 : DN tl1 2 (.ref ra1) (.tuple (ns1.map (pairD r)))) (d2 : DN tl2 2 (.ref ra2) (.tuple (ns2.map (pairD r)))) (s1 : ∀ q ∈ tl1, q ∈ news) (s2 : ∀ q ∈ tl2, q ∈ news)
    (p1 : ns1.Perm (rkeys r)) (o1 : ns1.Pairwise (· ≤ ·)) (p2 : ns2.Perm (rkeys r)) (o2 : ns2.Pairwise (· ≤ ·)) (hu : A.units + 2 + 1 < cLine) (h : Q (.bool true) s) : wpAny (model prog w) A (compareOp .Eq (.ref a1) (.ref a2)) Q E s := by
  obtain ⟨rfl, rfl, rfl, rfl, rfl, rfl, rfl⟩ := hv
  have e : ns1 = ns2 := List.Perm.eq_of_pairwise (fun a b _ _ h1 h2 => by omega) o1 o2 (p1.trans p2.symm)
  subst e
  refine eq_same_refs (n := 2) (d := .tuple [.str x, .str y, .int p, .bool b1, .bool b2, .int l, .int n, .tuple (ns1.map (pairD r))]) (dt_N N m1 ?_) (dt_N N m2 ?_) hu h
  · exact .cons (.flat (.str _ _)) (.cons (.flat (.str _ _)) (.cons (.flat (.int _ _)) (.cons (.flat (.bool _)) (.cons (.flat (.bool _)) (.cons (.flat (.int _ _)) (.cons (.flat (.int _ _)) (.cons (d1.at N s1) .nil)))))))
  · exact .cons (.flat (.str _ _)) (.cons (.flat (.str _ _)) (.cons (.flat (.int _ _)) (.cons (.flat (.bool _)) (.cons (.flat (.bool _)) (.cons (.flat (.int _ _)) (.cons (.flat (.int _ _)) (.cons (d2.at N s2) .nil)))))))
end
theorem words54 : True := by
  k_with "W9" => ((refine' item_bad2 (by walk_at "S tuple") (by walk_at "S tab") (by omega) (by omega) ?_ (by with_unfolding_all rfl); k_whole))
  trivial
local macro_rules | `(tactic| walk_at "subscriptTail Tuple") => `(tactic| (k_here; (with_reducible show wpAny _ _ (subscriptTail _ _ (Value.ref _) (Value.int _ _)) _ _ _); k_dflt ((k_extra "W9"); intro op' t' bad' len')))
theorem words55 : True := by
  k_with "binaryOp Add str str" => ((k_here; (with_reducible show wpAny _ _ (binaryOp Operator.Add (Value.str _ _) (Value.str _ _)) _ _ _); (refine' add_op (by decide) (by assumption) ?_); (intro _ _)))
  k_with "S cmp" => (((with_reducible show wpAny _ _ (compareOp CmpOp.Eq _ _) _ _ _); refine' told_eq (by k_asm) (by k_mem) (by k_mem) (by exact ⟨rfl, rfl, rfl, rfl, rfl, rfl, rfl⟩) (by assumption) (by assumption) (by walk_at "S ksub") (by walk_at "S ksub") (by assumption) (by assumption) (by assumption) (by assumption) (by walk_at "S room") ?_; k_whole))
  trivial
theorem minL_pos {r : RowsT} (hr : r ≠ []) (hp : PosR r) : 0 < minL (rkeys r) := by
  have hk : rkeys r ≠ [] := by cases r <;> simp_all [rkeys]
  have h1 : 1 ≤ minL (rkeys r) := hp _ (minL_mem hk)
  omega
theorem rput_has (r : RowsT) (k : Int) (b : Bts) : rhas (rput r k b) k = true := by
  unfold rput
  by_cases h : rhas r k = true
  · rw [if_pos h]
    unfold rhas at h ⊢
    simp only [List.any_map, List.any_eq_true] at h ⊢
    obtain ⟨p, hp, e⟩ := h
    refine ⟨p, hp, ?_⟩
    simp only [Function.comp]
    split <;> exact e
  · rw [if_neg h]
    unfold rhas
    simp
theorem rput_get (r : RowsT) (k : Int) (b : Bts) : rget (rput r k b) k = b := by
  unfold rput
  by_cases h : rhas r k = true
  · rw [if_pos h]
    induction r with
    | nil => simp [rhas] at h
    | cons p r ih =>
      by_cases e : p.1 = k
      · simp [rget, e]
      · have h' : rhas r k = true := by unfold rhas at h ⊢; simpa [e] using h
        have := ih h'
        simp only [List.map_cons, if_neg e]
        unfold rget at this ⊢
        simpa [e] using this
  · rw [if_neg h]
    have hn : ∀ p ∈ r, ¬ p.1 = k := by
      intro p hp q
      apply h
      unfold rhas
      rw [List.any_eq_true]
      exact ⟨p, hp, by simp [q]⟩
    induction r with
    | nil => simp [rget]
    | cons p r ih =>
      have e := hn p (.head _)
      have h' : ¬ rhas r k = true := by unfold rhas at h ⊢; simpa [e] using h
      have := ih h' (fun q hq => hn q (.tail _ hq))
      unfold rget at this ⊢
      simpa [e] using this
section
variable {w : World} {A : Around} {E : Value → Shared → Prop} {s : Shared} {d : Addr} {r : RowsT} {k : Int} {t : Tok}
theorem last_item {value slice : PySem.Expr} {b : Bts} {Q : Value → Shared → Prop} (R : RowsAt w s.heap d (rput r (minL (rkeys r)) b)) (p : k ∈ rkeys r) (o : ∀ a ∈ rkeys r, k ≤ a) (h : ∀ t', Q (.bytes b t') { s with toks := s.toks + 1 })
    (hs : subscripted slice false (.ref d) (.int k t) = operate [.ref d, .int k t] (getItem (.ref d) (.int k t)) := by with_unfolding_all rfl) (hg : ∀ r, letTemporaryGo value (.ref d) r = pure () := by intro _; with_unfolding_all rfl) :
    wpAny (model PR w) A (subscriptTail value slice (.ref d) (.int k t)) Q E s := by
  have e : k = minL (rkeys r) := (minL_eq p o).symm
  subst e
  exact rows_item R (rput_has _ _ _) (by rw [rput_get]; exact h) hs hg
end
section
variable {w : World} {mean : ExcName → Option Value} {mg mb : Str → Option Value} {A₀ : Around} {base h₀ : Heap} {outer : List Env} {env : Env} {L : Addr} {m : Str → Option Value} {news : List (Addr × Obj)} {s : Shared}
  {dp un : Nat} {gd : Option (List Code)} {Q E : Value → Shared → Prop}
theorem rewrite_end (H : Here w mean mg mb A₀ base h₀ outer env L m news s.heap) (hd : dp + 40 < recursionLimit) (hu : un + 400 < cLine) {x dx dc : Addr} {most : Int} {b : Bts} {tb : Tok} {st : FSt} {r : RowsT} {od : Obj} {u : Obj → List (Addr × Obj)} {u2 : Obj → Obj → List (Addr × Obj)}
    (e : st = fFound (fInit .io r) (minL (rkeys r))) (hm : 0 < minL (rkeys r))
    {oc : Obj} (hod : FileObj dc (Mode.s .io) (Str.ofString "sequential") most st od) (hx : (x, instObj 168 dx) ∈ news) (U : UpdF dx od news u) (U2 : ∀ x, UpdF dc oc (u x) (u2 x)) (hdx : (dx, od) ∈ news) (hdc : (dc, oc) ∈ news) (R : RowsO w oc st.rows) (hcd : @Ne Nat dc dx) (lo : (dc == sysModules) = false) (hl : st.rows.length < 64)
    (ret : ∀ h' tk' od' oc' t1, Fr h₀ L h' m → News h₀ L h' (u2 od' oc') → RowsO w oc' (rput r (minL (rkeys r)) b) → Q (.str s00 t1) { s with heap := h', toks := tk' }) :
    wpAny (model PySem.Challenge.rw_og0083_01.row.prog w) (aro dp un gd (env :: outer)) (call (.ref 152) [.ref x, .bytes b tb]) Q E s := by
  have z : fRewrite .io b st = (s00, { st with last := 0, rows := rput r (minL (rkeys r)) b, number := minL (rkeys r) }) := by
    subst e
    have h1 : (fFound (fInit .io r) (minL (rkeys r))).last = minL (rkeys r) := rfl
    have h2 : (fFound (fInit .io r) (minL (rkeys r))).rows = r := by simp [fFound, fInit]
    unfold fRewrite
    rw [if_neg (by simp), if_pos (by rw [h1]; exact hm), h1, h2]
  refine rewrite_spec H hd hu hod hx U U2 hdx hdc R hcd lo hl ?_
  rw [z]
  exact fun h' tk' od' oc' t1 F N _ R' => ret h' tk' od' oc' t1 F N R'
end
theorem words56 : True := by
  k_with "subscriptTail" => ((k_here; (with_reducible show wpAny _ _ (subscriptTail _ _ (Value.ref _) (Value.int _ _)) _ _ _); (k_dflt (refine' last_item (by walk_at "S rows") (by assumption) (by assumption) ?_; k_whole)); (intro _)))
  k_with "call ref" => ((k_here; (with_reducible show wpAny _ _ (call (Value.ref 152) _ _) _ _ _); (k_dflt (show wpAny _ _ (call (Value.ref 152) [Value.ref _, Value.bytes _ _] []) _ _ _)); (k_dflt (refine' rewrite_end (by walk_at "S here") (by walk_at "S room") (by walk_at "S room") (by assumption) (by assumption) (by k_asm) (by k_dflt k_mem) (by k_updF) (by walk_at "S updF2") (by k_mem) (by k_mem) (by k_asm) (by walk_at "S ne") (by k_asm) (by walk_at "S len") ?_; k_whole)); (intro h' tk' od' oc' t1 F' N' R'); (try dsimp only at N'); (revert h' tk' od' oc' t1 F' N' R'; intro _ _ _ _ _ _ _ _); (try k_sweep)))
  trivial
section
set_option maxHeartbeats 8000000 in
noncomputable def law_rest_a_pre : (Pa : (World) → (ExcName → Option Value) → (Str → Option Value) → (Str → Option Value) → (Heap) → (Addr) → (Addr) → (Shared) → (Flow → Shared → Prop) → (Value → Shared → Prop) → (Addr) → (Addr) → (Addr) → (Addr) → (Addr) → (Addr) → (Addr) → (Addr) → (Addr) → (Addr) → (Obj) → (Obj) → (Obj) → (Obj) → (Obj) → (Obj) → (Obj) → (Obj) → (Obj) → (Obj) → (Array Value) → (Str → Option Value) → (RowsT) → (FSt) → (Int) → (Tok) → (Nat) → (Option Value) → (Int) → (Int) → (Int) → (Int) → (Int) → (Int) → (Int) → (Int) → (Int) → (Tok) → (Tok) → (Tok) → (Tok) → (Tok) → (Tok) → (Tok) → (Tok) → (Tok) → (Tok) → (Tok) → (Tok) → (Tok) → (Tok) → (Tok) → Prop) ×' ((∀ w mean mg mb h₀ S fa s Q E x dx D d f c1 c2 lp lc cc oF o1 o2 oL oC ocn obg cA cB cT p1 m0 r st k tk cp cb g0 g1 g2 g3 g4 g5 g6 g7 g8 y0 y1 y2 y3 y4 y5 y6 y7 y8 z1 z2 z3 z4 z5 z6, Pa w mean mg mb h₀ S fa s Q E x dx D d f c1 c2 lp lc cc oF o1 o2 oL oC ocn obg cA cB cT p1 m0 r st k tk cp cb g0 g1 g2 g3 g4 g5 g6 g7 g8 y0 y1 y2 y3 y4 y5 y6 y7 y8 z1 z2 z3 z4 z5 z6) → (∀ (w : World) (mean : ExcName → Option Value) (mg mb : Str → Option Value) (h₀ : Heap) (S fa : Addr) (s : Shared) (Q : Flow → Shared → Prop) (E : Value → Shared → Prop) (o333 : Obj) (s12 : Stmt) (rest : List Stmt) (scope : Scope) (ho : (hd.heap_39 w.params).lookup 333 = some o333) (hL : LawDef o333 s12 rest scope) (B : Below callerA h₀ [] h₀) (X : Frag.In (hd.heap_39 w.params) h₀) (T : Top VW LO mean mg mb h₀) (cH1 : CodeHd h₀ 274 270) (cH2 : CodeHd h₀ 332 330) (l0 : @LT.lt Nat _ 270 S ∧ @LT.lt Nat _ 330 S) (x dx D d f c1 c2 lp lc cc : Addr) (oF o1 o2 oL oC od ocn obg cA cB cT : Obj) (p1 : Array Value) (m0 : Str → Option Value) (r : RowsT) (st : FSt) (k : Int) (tk : Tok) (cp : Nat) (K : Tkr w f c1 c2 lp lc cc oF o1 o2 oL oC) (F : Fr h₀ S s.heap (fun y => if y = Str.ofString "content" then some (.ref D) else if y = Str.ofString "begin" then some (.ref d) else m0 y)) (N : News h₀ S s.heap [(x, instObj 168 dx), (dx, od), (D, ocn), (lp, placeO k tk cp), (d, obg), (f, oF), (cc, oC), (lc, oL), (c2, o2), (c1, o1), (S + 1 + 1 + 1, cA), (S + 1 + 1, cB), (S + 1, cT), (270, tabObj p1), (330, tabObj #[])]) (q1 : @LT.lt Nat _ dx x) (q2 : @LT.lt Nat _ D dx ∧ @LT.lt Nat _ lp dx ∧ @LT.lt Nat _ d dx ∧ @LT.lt Nat _ f dx ∧ @LT.lt Nat _ cc dx ∧ @LT.lt Nat _ lc dx ∧ @LT.lt Nat _ c2 dx ∧ @LT.lt Nat _ c1 dx ∧ @LT.lt Nat _ (S + 1 + 1 + 1) dx ∧ @LT.lt Nat _ (S + 1 + 1) dx ∧ @LT.lt Nat _ (S + 1) dx ∧ @LT.lt Nat _ 270 dx ∧ @LT.lt Nat _ 330 dx) (q3 : @LT.lt Nat _ lp D ∧ @LT.lt Nat _ d D ∧ @LT.lt Nat _ f D ∧ @LT.lt Nat _ cc D ∧ @LT.lt Nat _ lc D ∧ @LT.lt Nat _ c2 D ∧ @LT.lt Nat _ c1 D ∧ @LT.lt Nat _ (S + 1 + 1 + 1) D ∧ @LT.lt Nat _ (S + 1 + 1) D ∧ @LT.lt Nat _ (S + 1) D ∧ @LT.lt Nat _ 270 D ∧ @LT.lt Nat _ 330 D) (q4 : @LT.lt Nat _ (S + 1 + 1 + 1) lp ∧ @LT.lt Nat _ (S + 1 + 1 + 1) d ∧ @LT.lt Nat _ (S + 1 + 1 + 1) f ∧ @LT.lt Nat _ (S + 1 + 1 + 1) cc ∧ @LT.lt Nat _ (S + 1 + 1 + 1) lc ∧ @LT.lt Nat _ (S + 1 + 1 + 1) c2 ∧ @LT.lt Nat _ (S + 1 + 1 + 1) c1) (q5 : @Ne Nat lp d ∧ @Ne Nat lp f ∧ @Ne Nat lp cc ∧ @Ne Nat lp lc ∧ @Ne Nat lp c2 ∧ @Ne Nat lp c1) (cb : Option Value) (hA : cA.data = .cell (some (.ref x))) (hB : cB.data = .cell cb) (hT : cT.data = .cell (some (.ref f))) (hf : FileObj D (Mode.s .io) (Str.ofString "sequential") 0 st od) (hst : st.rows = r) (hfd : r ≠ [] → st = fFound (fInit .io r) (minL (rkeys r))) (R : RowsO w ocn r) (Rb : RowsO w obg r) (hp : PosR r) (hl : r.length < 64) (loD : (D == sysModules) = false) (lod : (d == sysModules) = false) (hk : 0 ≤ k) (hk2 : k < 300) (ret : ∀ h' tk' m', Fr h₀ S h' m' → GrownAt 270 h' ∧ GrownAt 330 h' → Q (.ret (.bool true)) { s with heap := h', toks := tk' }), wpAny (model PySem.Challenge.rw_og0083_01.row.prog w) (callerA.deeper (envOfC (Str.ofString "law") scope S fa (.ref 332))) (execs rest (envOfC (Str.ofString "law") scope S fa (.ref 332))) Q E s)) := by
  refine' ⟨_, fun hPa => ?_⟩
  rotate_left 1
  · skip
    intro w mean mg mb h₀ S fa s Q E o333 s12 rest scope ho hL B X T cH1 cH2 l0 x dx D d f c1 c2 lp lc cc oF o1 o2 oL oC od ocn obg cA cB cT p1 m0 r st k tk cp K F N q1 q2 q3 q4 q5 cb hA hB hT hf hst hfd R Rb hp hl loD lod hk hk2 ret
    (revert T; revert X; k_fill; intro X T)
    have e := same_lookup (by k_is) ho
    subst e
    cases hL
    have hR2 : RowsO w ocn st.rows := by rw [hst]; exact R
    have hl2 : st.rows.length < 64 := by rw [hst]; exact hl
    have hfo := hf
    cases hf with
    | mk g0 g1 g2 g3 g4 g5 g6 g7 g8 y0 y1 y2 y3 y4 y5 y6 y7 y8 z1 z2 z3 z4 z5 z6 =>
    k_sweep
    revert hfo; revert N; revert hl2; revert hR2; revert ho; revert T; revert X; revert ret; revert hk2; revert hk; revert lod; revert loD; revert hl; revert hp; revert Rb; revert R; revert hfd; revert hst; revert hT; revert hB; revert hA; revert q5; revert q4; revert q3; revert q2; revert q1; revert F; revert K; revert l0; revert cH2; revert cH1; revert B
    exact hPa w mean mg mb h₀ S fa s Q E x dx D d f c1 c2 lp lc cc oF o1 o2 oL oC ocn obg cA cB cT p1 m0 r st k tk cp cb g0 g1 g2 g3 g4 g5 g6 g7 g8 y0 y1 y2 y3 y4 y5 y6 y7 y8 z1 z2 z3 z4 z5 z6
noncomputable def law_rest_a_v : (World) × (ExcName → Option Value) × (Str → Option Value) × (Str → Option Value) × (Heap) × (Addr) × (Addr) × (Shared) × (Flow → Shared → Prop) × (Value → Shared → Prop) × (Addr) × (Addr) × (Addr) × (Addr) × (Addr) × (Addr) × (Addr) × (Addr) × (Addr) × (Addr) × (Obj) × (Obj) × (Obj) × (Obj) × (Obj) × (Obj) × (Obj) × (Obj) × (Obj) × (Obj) × (Array Value) × (Str → Option Value) × (RowsT) × (FSt) × (Int) × (Tok) × (Nat) × (Option Value) × (Int) × (Int) × (Int) × (Int) × (Int) × (Int) × (Int) × (Int) × (Int) × (Tok) × (Tok) × (Tok) × (Tok) × (Tok) × (Tok) × (Tok) × (Tok) × (Tok) × (Tok) × (Tok) × (Tok) × (Tok) × (Tok) × (Tok) := @Classical.epsilon _ ⟨(w0, (fun _ => none), (fun _ => none), (fun _ => none), {}, 0, 0, {}, (fun _ => (fun _ => True)), (fun _ => (fun _ => True)), 0, 0, 0, 0, 0, 0, 0, 0, 0, 0, default, default, default, default, default, default, default, default, default, default, default, (fun _ => none), [], ⟨[], 0, true, true, 0, 0⟩, 0, 0, 0, none, 0, 0, 0, 0, 0, 0, 0, 0, 0, 0, 0, 0, 0, 0, 0, 0, 0, 0, 0, 0, 0, 0, 0, 0)⟩ fun v => ¬ law_rest_a_pre.1 v.1 v.2.1 v.2.2.1 v.2.2.2.1 v.2.2.2.2.1 v.2.2.2.2.2.1 v.2.2.2.2.2.2.1 v.2.2.2.2.2.2.2.1 v.2.2.2.2.2.2.2.2.1 v.2.2.2.2.2.2.2.2.2.1 v.2.2.2.2.2.2.2.2.2.2.1 v.2.2.2.2.2.2.2.2.2.2.2.1 v.2.2.2.2.2.2.2.2.2.2.2.2.1 v.2.2.2.2.2.2.2.2.2.2.2.2.2.1 v.2.2.2.2.2.2.2.2.2.2.2.2.2.2.1 v.2.2.2.2.2.2.2.2.2.2.2.2.2.2.2.1 v.2.2.2.2.2.2.2.2.2.2.2.2.2.2.2.2.1 v.2.2.2.2.2.2.2.2.2.2.2.2.2.2.2.2.2.1 v.2.2.2.2.2.2.2.2.2.2.2.2.2.2.2.2.2.2.1 v.2.2.2.2.2.2.2.2.2.2.2.2.2.2.2.2.2.2.2.1 v.2.2.2.2.2.2.2.2.2.2.2.2.2.2.2.2.2.2.2.2.1 v.2.2.2.2.2.2.2.2.2.2.2.2.2.2.2.2.2.2.2.2.2.1 v.2.2.2.2.2.2.2.2.2.2.2.2.2.2.2.2.2.2.2.2.2.2.1 v.2.2.2.2.2.2.2.2.2.2.2.2.2.2.2.2.2.2.2.2.2.2.2.1 v.2.2.2.2.2.2.2.2.2.2.2.2.2.2.2.2.2.2.2.2.2.2.2.2.1 v.2.2.2.2.2.2.2.2.2.2.2.2.2.2.2.2.2.2.2.2.2.2.2.2.2.1 v.2.2.2.2.2.2.2.2.2.2.2.2.2.2.2.2.2.2.2.2.2.2.2.2.2.2.1 v.2.2.2.2.2.2.2.2.2.2.2.2.2.2.2.2.2.2.2.2.2.2.2.2.2.2.2.1 v.2.2.2.2.2.2.2.2.2.2.2.2.2.2.2.2.2.2.2.2.2.2.2.2.2.2.2.2.1 v.2.2.2.2.2.2.2.2.2.2.2.2.2.2.2.2.2.2.2.2.2.2.2.2.2.2.2.2.2.1 v.2.2.2.2.2.2.2.2.2.2.2.2.2.2.2.2.2.2.2.2.2.2.2.2.2.2.2.2.2.2.1 v.2.2.2.2.2.2.2.2.2.2.2.2.2.2.2.2.2.2.2.2.2.2.2.2.2.2.2.2.2.2.2.1 v.2.2.2.2.2.2.2.2.2.2.2.2.2.2.2.2.2.2.2.2.2.2.2.2.2.2.2.2.2.2.2.2.1 v.2.2.2.2.2.2.2.2.2.2.2.2.2.2.2.2.2.2.2.2.2.2.2.2.2.2.2.2.2.2.2.2.2.1 v.2.2.2.2.2.2.2.2.2.2.2.2.2.2.2.2.2.2.2.2.2.2.2.2.2.2.2.2.2.2.2.2.2.2.1 v.2.2.2.2.2.2.2.2.2.2.2.2.2.2.2.2.2.2.2.2.2.2.2.2.2.2.2.2.2.2.2.2.2.2.2.1 v.2.2.2.2.2.2.2.2.2.2.2.2.2.2.2.2.2.2.2.2.2.2.2.2.2.2.2.2.2.2.2.2.2.2.2.2.1 v.2.2.2.2.2.2.2.2.2.2.2.2.2.2.2.2.2.2.2.2.2.2.2.2.2.2.2.2.2.2.2.2.2.2.2.2.2.1 v.2.2.2.2.2.2.2.2.2.2.2.2.2.2.2.2.2.2.2.2.2.2.2.2.2.2.2.2.2.2.2.2.2.2.2.2.2.2.1 v.2.2.2.2.2.2.2.2.2.2.2.2.2.2.2.2.2.2.2.2.2.2.2.2.2.2.2.2.2.2.2.2.2.2.2.2.2.2.2.1 v.2.2.2.2.2.2.2.2.2.2.2.2.2.2.2.2.2.2.2.2.2.2.2.2.2.2.2.2.2.2.2.2.2.2.2.2.2.2.2.2.1 v.2.2.2.2.2.2.2.2.2.2.2.2.2.2.2.2.2.2.2.2.2.2.2.2.2.2.2.2.2.2.2.2.2.2.2.2.2.2.2.2.2.1 v.2.2.2.2.2.2.2.2.2.2.2.2.2.2.2.2.2.2.2.2.2.2.2.2.2.2.2.2.2.2.2.2.2.2.2.2.2.2.2.2.2.2.1 v.2.2.2.2.2.2.2.2.2.2.2.2.2.2.2.2.2.2.2.2.2.2.2.2.2.2.2.2.2.2.2.2.2.2.2.2.2.2.2.2.2.2.2.1 v.2.2.2.2.2.2.2.2.2.2.2.2.2.2.2.2.2.2.2.2.2.2.2.2.2.2.2.2.2.2.2.2.2.2.2.2.2.2.2.2.2.2.2.2.1 v.2.2.2.2.2.2.2.2.2.2.2.2.2.2.2.2.2.2.2.2.2.2.2.2.2.2.2.2.2.2.2.2.2.2.2.2.2.2.2.2.2.2.2.2.2.1 v.2.2.2.2.2.2.2.2.2.2.2.2.2.2.2.2.2.2.2.2.2.2.2.2.2.2.2.2.2.2.2.2.2.2.2.2.2.2.2.2.2.2.2.2.2.2.1 v.2.2.2.2.2.2.2.2.2.2.2.2.2.2.2.2.2.2.2.2.2.2.2.2.2.2.2.2.2.2.2.2.2.2.2.2.2.2.2.2.2.2.2.2.2.2.2.1 v.2.2.2.2.2.2.2.2.2.2.2.2.2.2.2.2.2.2.2.2.2.2.2.2.2.2.2.2.2.2.2.2.2.2.2.2.2.2.2.2.2.2.2.2.2.2.2.2.1 v.2.2.2.2.2.2.2.2.2.2.2.2.2.2.2.2.2.2.2.2.2.2.2.2.2.2.2.2.2.2.2.2.2.2.2.2.2.2.2.2.2.2.2.2.2.2.2.2.2.1 v.2.2.2.2.2.2.2.2.2.2.2.2.2.2.2.2.2.2.2.2.2.2.2.2.2.2.2.2.2.2.2.2.2.2.2.2.2.2.2.2.2.2.2.2.2.2.2.2.2.2.1 v.2.2.2.2.2.2.2.2.2.2.2.2.2.2.2.2.2.2.2.2.2.2.2.2.2.2.2.2.2.2.2.2.2.2.2.2.2.2.2.2.2.2.2.2.2.2.2.2.2.2.2.1 v.2.2.2.2.2.2.2.2.2.2.2.2.2.2.2.2.2.2.2.2.2.2.2.2.2.2.2.2.2.2.2.2.2.2.2.2.2.2.2.2.2.2.2.2.2.2.2.2.2.2.2.2.1 v.2.2.2.2.2.2.2.2.2.2.2.2.2.2.2.2.2.2.2.2.2.2.2.2.2.2.2.2.2.2.2.2.2.2.2.2.2.2.2.2.2.2.2.2.2.2.2.2.2.2.2.2.2.1 v.2.2.2.2.2.2.2.2.2.2.2.2.2.2.2.2.2.2.2.2.2.2.2.2.2.2.2.2.2.2.2.2.2.2.2.2.2.2.2.2.2.2.2.2.2.2.2.2.2.2.2.2.2.2.1 v.2.2.2.2.2.2.2.2.2.2.2.2.2.2.2.2.2.2.2.2.2.2.2.2.2.2.2.2.2.2.2.2.2.2.2.2.2.2.2.2.2.2.2.2.2.2.2.2.2.2.2.2.2.2.2.1 v.2.2.2.2.2.2.2.2.2.2.2.2.2.2.2.2.2.2.2.2.2.2.2.2.2.2.2.2.2.2.2.2.2.2.2.2.2.2.2.2.2.2.2.2.2.2.2.2.2.2.2.2.2.2.2.2.1 v.2.2.2.2.2.2.2.2.2.2.2.2.2.2.2.2.2.2.2.2.2.2.2.2.2.2.2.2.2.2.2.2.2.2.2.2.2.2.2.2.2.2.2.2.2.2.2.2.2.2.2.2.2.2.2.2.2.1 v.2.2.2.2.2.2.2.2.2.2.2.2.2.2.2.2.2.2.2.2.2.2.2.2.2.2.2.2.2.2.2.2.2.2.2.2.2.2.2.2.2.2.2.2.2.2.2.2.2.2.2.2.2.2.2.2.2.2.1 v.2.2.2.2.2.2.2.2.2.2.2.2.2.2.2.2.2.2.2.2.2.2.2.2.2.2.2.2.2.2.2.2.2.2.2.2.2.2.2.2.2.2.2.2.2.2.2.2.2.2.2.2.2.2.2.2.2.2.2.1 v.2.2.2.2.2.2.2.2.2.2.2.2.2.2.2.2.2.2.2.2.2.2.2.2.2.2.2.2.2.2.2.2.2.2.2.2.2.2.2.2.2.2.2.2.2.2.2.2.2.2.2.2.2.2.2.2.2.2.2.2.1 v.2.2.2.2.2.2.2.2.2.2.2.2.2.2.2.2.2.2.2.2.2.2.2.2.2.2.2.2.2.2.2.2.2.2.2.2.2.2.2.2.2.2.2.2.2.2.2.2.2.2.2.2.2.2.2.2.2.2.2.2.2
namespace law_rest_a
noncomputable def w : World := law_rest_a_v.1
noncomputable def mean : ExcName → Option Value := law_rest_a_v.2.1
noncomputable def mg : Str → Option Value := law_rest_a_v.2.2.1
noncomputable def mb : Str → Option Value := law_rest_a_v.2.2.2.1
noncomputable def h₀ : Heap := law_rest_a_v.2.2.2.2.1
noncomputable def S : Addr := law_rest_a_v.2.2.2.2.2.1
noncomputable def fa : Addr := law_rest_a_v.2.2.2.2.2.2.1
noncomputable def s : Shared := law_rest_a_v.2.2.2.2.2.2.2.1
noncomputable def Q : Flow → Shared → Prop := law_rest_a_v.2.2.2.2.2.2.2.2.1
noncomputable def E : Value → Shared → Prop := law_rest_a_v.2.2.2.2.2.2.2.2.2.1
noncomputable def x : Addr := law_rest_a_v.2.2.2.2.2.2.2.2.2.2.1
noncomputable def dx : Addr := law_rest_a_v.2.2.2.2.2.2.2.2.2.2.2.1
noncomputable def D : Addr := law_rest_a_v.2.2.2.2.2.2.2.2.2.2.2.2.1
noncomputable def d : Addr := law_rest_a_v.2.2.2.2.2.2.2.2.2.2.2.2.2.1
noncomputable def f : Addr := law_rest_a_v.2.2.2.2.2.2.2.2.2.2.2.2.2.2.1
noncomputable def c1 : Addr := law_rest_a_v.2.2.2.2.2.2.2.2.2.2.2.2.2.2.2.1
noncomputable def c2 : Addr := law_rest_a_v.2.2.2.2.2.2.2.2.2.2.2.2.2.2.2.2.1
noncomputable def lp : Addr := law_rest_a_v.2.2.2.2.2.2.2.2.2.2.2.2.2.2.2.2.2.1
noncomputable def lc : Addr := law_rest_a_v.2.2.2.2.2.2.2.2.2.2.2.2.2.2.2.2.2.2.1
noncomputable def cc : Addr := law_rest_a_v.2.2.2.2.2.2.2.2.2.2.2.2.2.2.2.2.2.2.2.1
noncomputable def oF : Obj := law_rest_a_v.2.2.2.2.2.2.2.2.2.2.2.2.2.2.2.2.2.2.2.2.1
noncomputable def o1 : Obj := law_rest_a_v.2.2.2.2.2.2.2.2.2.2.2.2.2.2.2.2.2.2.2.2.2.1
noncomputable def o2 : Obj := law_rest_a_v.2.2.2.2.2.2.2.2.2.2.2.2.2.2.2.2.2.2.2.2.2.2.1
noncomputable def oL : Obj := law_rest_a_v.2.2.2.2.2.2.2.2.2.2.2.2.2.2.2.2.2.2.2.2.2.2.2.1
noncomputable def oC : Obj := law_rest_a_v.2.2.2.2.2.2.2.2.2.2.2.2.2.2.2.2.2.2.2.2.2.2.2.2.1
noncomputable def ocn : Obj := law_rest_a_v.2.2.2.2.2.2.2.2.2.2.2.2.2.2.2.2.2.2.2.2.2.2.2.2.2.1
noncomputable def obg : Obj := law_rest_a_v.2.2.2.2.2.2.2.2.2.2.2.2.2.2.2.2.2.2.2.2.2.2.2.2.2.2.1
noncomputable def cA : Obj := law_rest_a_v.2.2.2.2.2.2.2.2.2.2.2.2.2.2.2.2.2.2.2.2.2.2.2.2.2.2.2.1
noncomputable def cB : Obj := law_rest_a_v.2.2.2.2.2.2.2.2.2.2.2.2.2.2.2.2.2.2.2.2.2.2.2.2.2.2.2.2.1
noncomputable def cT : Obj := law_rest_a_v.2.2.2.2.2.2.2.2.2.2.2.2.2.2.2.2.2.2.2.2.2.2.2.2.2.2.2.2.2.1
noncomputable def p1 : Array Value := law_rest_a_v.2.2.2.2.2.2.2.2.2.2.2.2.2.2.2.2.2.2.2.2.2.2.2.2.2.2.2.2.2.2.1
noncomputable def m0 : Str → Option Value := law_rest_a_v.2.2.2.2.2.2.2.2.2.2.2.2.2.2.2.2.2.2.2.2.2.2.2.2.2.2.2.2.2.2.2.1
noncomputable def r : RowsT := law_rest_a_v.2.2.2.2.2.2.2.2.2.2.2.2.2.2.2.2.2.2.2.2.2.2.2.2.2.2.2.2.2.2.2.2.1
noncomputable def st : FSt := law_rest_a_v.2.2.2.2.2.2.2.2.2.2.2.2.2.2.2.2.2.2.2.2.2.2.2.2.2.2.2.2.2.2.2.2.2.1
noncomputable def k : Int := law_rest_a_v.2.2.2.2.2.2.2.2.2.2.2.2.2.2.2.2.2.2.2.2.2.2.2.2.2.2.2.2.2.2.2.2.2.2.1
noncomputable def tk : Tok := law_rest_a_v.2.2.2.2.2.2.2.2.2.2.2.2.2.2.2.2.2.2.2.2.2.2.2.2.2.2.2.2.2.2.2.2.2.2.2.1
noncomputable def cp : Nat := law_rest_a_v.2.2.2.2.2.2.2.2.2.2.2.2.2.2.2.2.2.2.2.2.2.2.2.2.2.2.2.2.2.2.2.2.2.2.2.2.1
noncomputable def cb : Option Value := law_rest_a_v.2.2.2.2.2.2.2.2.2.2.2.2.2.2.2.2.2.2.2.2.2.2.2.2.2.2.2.2.2.2.2.2.2.2.2.2.2.1
noncomputable def g0 : Int := law_rest_a_v.2.2.2.2.2.2.2.2.2.2.2.2.2.2.2.2.2.2.2.2.2.2.2.2.2.2.2.2.2.2.2.2.2.2.2.2.2.2.1
noncomputable def g1 : Int := law_rest_a_v.2.2.2.2.2.2.2.2.2.2.2.2.2.2.2.2.2.2.2.2.2.2.2.2.2.2.2.2.2.2.2.2.2.2.2.2.2.2.2.1
noncomputable def g2 : Int := law_rest_a_v.2.2.2.2.2.2.2.2.2.2.2.2.2.2.2.2.2.2.2.2.2.2.2.2.2.2.2.2.2.2.2.2.2.2.2.2.2.2.2.2.1
noncomputable def g3 : Int := law_rest_a_v.2.2.2.2.2.2.2.2.2.2.2.2.2.2.2.2.2.2.2.2.2.2.2.2.2.2.2.2.2.2.2.2.2.2.2.2.2.2.2.2.2.1
noncomputable def g4 : Int := law_rest_a_v.2.2.2.2.2.2.2.2.2.2.2.2.2.2.2.2.2.2.2.2.2.2.2.2.2.2.2.2.2.2.2.2.2.2.2.2.2.2.2.2.2.2.1
noncomputable def g5 : Int := law_rest_a_v.2.2.2.2.2.2.2.2.2.2.2.2.2.2.2.2.2.2.2.2.2.2.2.2.2.2.2.2.2.2.2.2.2.2.2.2.2.2.2.2.2.2.2.1
noncomputable def g6 : Int := law_rest_a_v.2.2.2.2.2.2.2.2.2.2.2.2.2.2.2.2.2.2.2.2.2.2.2.2.2.2.2.2.2.2.2.2.2.2.2.2.2.2.2.2.2.2.2.2.1
noncomputable def g7 : Int := law_rest_a_v.2.2.2.2.2.2.2.2.2.2.2.2.2.2.2.2.2.2.2.2.2.2.2.2.2.2.2.2.2.2.2.2.2.2.2.2.2.2.2.2.2.2.2.2.2.1
noncomputable def g8 : Int := law_rest_a_v.2.2.2.2.2.2.2.2.2.2.2.2.2.2.2.2.2.2.2.2.2.2.2.2.2.2.2.2.2.2.2.2.2.2.2.2.2.2.2.2.2.2.2.2.2.2.1
noncomputable def y0 : Tok := law_rest_a_v.2.2.2.2.2.2.2.2.2.2.2.2.2.2.2.2.2.2.2.2.2.2.2.2.2.2.2.2.2.2.2.2.2.2.2.2.2.2.2.2.2.2.2.2.2.2.2.1
noncomputable def y1 : Tok := law_rest_a_v.2.2.2.2.2.2.2.2.2.2.2.2.2.2.2.2.2.2.2.2.2.2.2.2.2.2.2.2.2.2.2.2.2.2.2.2.2.2.2.2.2.2.2.2.2.2.2.2.1
noncomputable def y2 : Tok := law_rest_a_v.2.2.2.2.2.2.2.2.2.2.2.2.2.2.2.2.2.2.2.2.2.2.2.2.2.2.2.2.2.2.2.2.2.2.2.2.2.2.2.2.2.2.2.2.2.2.2.2.2.1
noncomputable def y3 : Tok := law_rest_a_v.2.2.2.2.2.2.2.2.2.2.2.2.2.2.2.2.2.2.2.2.2.2.2.2.2.2.2.2.2.2.2.2.2.2.2.2.2.2.2.2.2.2.2.2.2.2.2.2.2.2.1
noncomputable def y4 : Tok := law_rest_a_v.2.2.2.2.2.2.2.2.2.2.2.2.2.2.2.2.2.2.2.2.2.2.2.2.2.2.2.2.2.2.2.2.2.2.2.2.2.2.2.2.2.2.2.2.2.2.2.2.2.2.2.1
noncomputable def y5 : Tok := law_rest_a_v.2.2.2.2.2.2.2.2.2.2.2.2.2.2.2.2.2.2.2.2.2.2.2.2.2.2.2.2.2.2.2.2.2.2.2.2.2.2.2.2.2.2.2.2.2.2.2.2.2.2.2.2.1
noncomputable def y6 : Tok := law_rest_a_v.2.2.2.2.2.2.2.2.2.2.2.2.2.2.2.2.2.2.2.2.2.2.2.2.2.2.2.2.2.2.2.2.2.2.2.2.2.2.2.2.2.2.2.2.2.2.2.2.2.2.2.2.2.1
noncomputable def y7 : Tok := law_rest_a_v.2.2.2.2.2.2.2.2.2.2.2.2.2.2.2.2.2.2.2.2.2.2.2.2.2.2.2.2.2.2.2.2.2.2.2.2.2.2.2.2.2.2.2.2.2.2.2.2.2.2.2.2.2.2.1
noncomputable def y8 : Tok := law_rest_a_v.2.2.2.2.2.2.2.2.2.2.2.2.2.2.2.2.2.2.2.2.2.2.2.2.2.2.2.2.2.2.2.2.2.2.2.2.2.2.2.2.2.2.2.2.2.2.2.2.2.2.2.2.2.2.2.1
noncomputable def z1 : Tok := law_rest_a_v.2.2.2.2.2.2.2.2.2.2.2.2.2.2.2.2.2.2.2.2.2.2.2.2.2.2.2.2.2.2.2.2.2.2.2.2.2.2.2.2.2.2.2.2.2.2.2.2.2.2.2.2.2.2.2.2.1
noncomputable def z2 : Tok := law_rest_a_v.2.2.2.2.2.2.2.2.2.2.2.2.2.2.2.2.2.2.2.2.2.2.2.2.2.2.2.2.2.2.2.2.2.2.2.2.2.2.2.2.2.2.2.2.2.2.2.2.2.2.2.2.2.2.2.2.2.1
noncomputable def z3 : Tok := law_rest_a_v.2.2.2.2.2.2.2.2.2.2.2.2.2.2.2.2.2.2.2.2.2.2.2.2.2.2.2.2.2.2.2.2.2.2.2.2.2.2.2.2.2.2.2.2.2.2.2.2.2.2.2.2.2.2.2.2.2.2.1
noncomputable def z4 : Tok := law_rest_a_v.2.2.2.2.2.2.2.2.2.2.2.2.2.2.2.2.2.2.2.2.2.2.2.2.2.2.2.2.2.2.2.2.2.2.2.2.2.2.2.2.2.2.2.2.2.2.2.2.2.2.2.2.2.2.2.2.2.2.2.1
noncomputable def z5 : Tok := law_rest_a_v.2.2.2.2.2.2.2.2.2.2.2.2.2.2.2.2.2.2.2.2.2.2.2.2.2.2.2.2.2.2.2.2.2.2.2.2.2.2.2.2.2.2.2.2.2.2.2.2.2.2.2.2.2.2.2.2.2.2.2.2.1
noncomputable def z6 : Tok := law_rest_a_v.2.2.2.2.2.2.2.2.2.2.2.2.2.2.2.2.2.2.2.2.2.2.2.2.2.2.2.2.2.2.2.2.2.2.2.2.2.2.2.2.2.2.2.2.2.2.2.2.2.2.2.2.2.2.2.2.2.2.2.2.2
set_option maxHeartbeats 8000000 in
theorem walk : law_rest_a_pre.1 w mean mg mb h₀ S fa s Q E x dx D d f c1 c2 lp lc cc oF o1 o2 oL oC ocn obg cA cB cT p1 m0 r st k tk cp cb g0 g1 g2 g3 g4 g5 g6 g7 g8 y0 y1 y2 y3 y4 y5 y6 y7 y8 z1 z2 z3 z4 z5 z6 := by
  delta law_rest_a_pre
  dsimp only
  intro B cH1 cH2 l0 K F q1 q2 q3 q4 q5 hA hB hT hst hfd R Rb hp hl loD lod hk hk2 ret X T ho hR2 hl2 N hfo
  k_with "S noteq" => ((rename Flagged 23 => mk23); (k_dflt (walk_at "S cmp")))
  have mk23 : Flagged 23 := ⟨⟩
  k_with "S refused" => ((rename Flagged 24 => mk24); ((k_dflt (refine wpAny_call ?_; walk_at "S gotry"))))
  have mk24 : Flagged 24 := ⟨⟩
  k_with "S eq" => ((rename Flagged 25 => mk25); ((refine stop_at ?_)))
  have mk25 : Flagged 25 := ⟨⟩
  k_steps
  k_with "S eq" => ((rename Flagged 26 => mk26); (first | (k_dflt (walk_at "S cmp")) | (refine stop_at ?_)))
  have mk26 : Flagged 26 := ⟨⟩
  by_cases hr : r = []
  · refine stop_off ?_
    k_steps
    all_goals exact ret _ _ _ (by assumption) ⟨GrownAt.of (by k_asm) (by k_mem), GrownAt.of (by k_asm) (by k_mem)⟩
  · have e2 := hfd hr
    have e3 := minL_pos hr hp
    refine stop_off ?_
    k_steps
    all_goals exact ret _ _ _ (by assumption) ⟨GrownAt.of (by k_asm) (by k_mem), GrownAt.of (by k_asm) (by k_mem)⟩
end law_rest_a
theorem law_rest_a_all : ∀ (w' : World) (mean' : ExcName → Option Value) (mg' : Str → Option Value) (mb' : Str → Option Value) (h₀' : Heap) (S' : Addr) (fa' : Addr) (s' : Shared) (Q' : Flow → Shared → Prop) (E' : Value → Shared → Prop) (x' : Addr) (dx' : Addr) (D' : Addr) (d' : Addr) (f' : Addr) (c1' : Addr) (c2' : Addr) (lp' : Addr) (lc' : Addr) (cc' : Addr) (oF' : Obj) (o1' : Obj) (o2' : Obj) (oL' : Obj) (oC' : Obj) (ocn' : Obj) (obg' : Obj) (cA' : Obj) (cB' : Obj) (cT' : Obj) (p1' : Array Value) (m0' : Str → Option Value) (r' : RowsT) (st' : FSt) (k' : Int) (tk' : Tok) (cp' : Nat) (cb' : Option Value) (g0' : Int) (g1' : Int) (g2' : Int) (g3' : Int) (g4' : Int) (g5' : Int) (g6' : Int) (g7' : Int) (g8' : Int) (y0' : Tok) (y1' : Tok) (y2' : Tok) (y3' : Tok) (y4' : Tok) (y5' : Tok) (y6' : Tok) (y7' : Tok) (y8' : Tok) (z1' : Tok) (z2' : Tok) (z3' : Tok) (z4' : Tok) (z5' : Tok) (z6' : Tok), law_rest_a_pre.1 w' mean' mg' mb' h₀' S' fa' s' Q' E' x' dx' D' d' f' c1' c2' lp' lc' cc' oF' o1' o2' oL' oC' ocn' obg' cA' cB' cT' p1' m0' r' st' k' tk' cp' cb' g0' g1' g2' g3' g4' g5' g6' g7' g8' y0' y1' y2' y3' y4' y5' y6' y7' y8' z1' z2' z3' z4' z5' z6' := by
  intro w' mean' mg' mb' h₀' S' fa' s' Q' E' x' dx' D' d' f' c1' c2' lp' lc' cc' oF' o1' o2' oL' oC' ocn' obg' cA' cB' cT' p1' m0' r' st' k' tk' cp' cb' g0' g1' g2' g3' g4' g5' g6' g7' g8' y0' y1' y2' y3' y4' y5' y6' y7' y8' z1' z2' z3' z4' z5' z6'
  have hw := law_rest_a.walk
  with_unfolding_all exact hk (α := (World) × (ExcName → Option Value) × (Str → Option Value) × (Str → Option Value) × (Heap) × (Addr) × (Addr) × (Shared) × (Flow → Shared → Prop) × (Value → Shared → Prop) × (Addr) × (Addr) × (Addr) × (Addr) × (Addr) × (Addr) × (Addr) × (Addr) × (Addr) × (Addr) × (Obj) × (Obj) × (Obj) × (Obj) × (Obj) × (Obj) × (Obj) × (Obj) × (Obj) × (Obj) × (Array Value) × (Str → Option Value) × (RowsT) × (FSt) × (Int) × (Tok) × (Nat) × (Option Value) × (Int) × (Int) × (Int) × (Int) × (Int) × (Int) × (Int) × (Int) × (Int) × (Tok) × (Tok) × (Tok) × (Tok) × (Tok) × (Tok) × (Tok) × (Tok) × (Tok) × (Tok) × (Tok) × (Tok) × (Tok) × (Tok) × (Tok)) (p := fun v => law_rest_a_pre.1 v.1 v.2.1 v.2.2.1 v.2.2.2.1 v.2.2.2.2.1 v.2.2.2.2.2.1 v.2.2.2.2.2.2.1 v.2.2.2.2.2.2.2.1 v.2.2.2.2.2.2.2.2.1 v.2.2.2.2.2.2.2.2.2.1 v.2.2.2.2.2.2.2.2.2.2.1 v.2.2.2.2.2.2.2.2.2.2.2.1 v.2.2.2.2.2.2.2.2.2.2.2.2.1 v.2.2.2.2.2.2.2.2.2.2.2.2.2.1 v.2.2.2.2.2.2.2.2.2.2.2.2.2.2.1 v.2.2.2.2.2.2.2.2.2.2.2.2.2.2.2.1 v.2.2.2.2.2.2.2.2.2.2.2.2.2.2.2.2.1 v.2.2.2.2.2.2.2.2.2.2.2.2.2.2.2.2.2.1 v.2.2.2.2.2.2.2.2.2.2.2.2.2.2.2.2.2.2.1 v.2.2.2.2.2.2.2.2.2.2.2.2.2.2.2.2.2.2.2.1 v.2.2.2.2.2.2.2.2.2.2.2.2.2.2.2.2.2.2.2.2.1 v.2.2.2.2.2.2.2.2.2.2.2.2.2.2.2.2.2.2.2.2.2.1 v.2.2.2.2.2.2.2.2.2.2.2.2.2.2.2.2.2.2.2.2.2.2.1 v.2.2.2.2.2.2.2.2.2.2.2.2.2.2.2.2.2.2.2.2.2.2.2.1 v.2.2.2.2.2.2.2.2.2.2.2.2.2.2.2.2.2.2.2.2.2.2.2.2.1 v.2.2.2.2.2.2.2.2.2.2.2.2.2.2.2.2.2.2.2.2.2.2.2.2.2.1 v.2.2.2.2.2.2.2.2.2.2.2.2.2.2.2.2.2.2.2.2.2.2.2.2.2.2.1 v.2.2.2.2.2.2.2.2.2.2.2.2.2.2.2.2.2.2.2.2.2.2.2.2.2.2.2.1 v.2.2.2.2.2.2.2.2.2.2.2.2.2.2.2.2.2.2.2.2.2.2.2.2.2.2.2.2.1 v.2.2.2.2.2.2.2.2.2.2.2.2.2.2.2.2.2.2.2.2.2.2.2.2.2.2.2.2.2.1 v.2.2.2.2.2.2.2.2.2.2.2.2.2.2.2.2.2.2.2.2.2.2.2.2.2.2.2.2.2.2.1 v.2.2.2.2.2.2.2.2.2.2.2.2.2.2.2.2.2.2.2.2.2.2.2.2.2.2.2.2.2.2.2.1 v.2.2.2.2.2.2.2.2.2.2.2.2.2.2.2.2.2.2.2.2.2.2.2.2.2.2.2.2.2.2.2.2.1 v.2.2.2.2.2.2.2.2.2.2.2.2.2.2.2.2.2.2.2.2.2.2.2.2.2.2.2.2.2.2.2.2.2.1 v.2.2.2.2.2.2.2.2.2.2.2.2.2.2.2.2.2.2.2.2.2.2.2.2.2.2.2.2.2.2.2.2.2.2.1 v.2.2.2.2.2.2.2.2.2.2.2.2.2.2.2.2.2.2.2.2.2.2.2.2.2.2.2.2.2.2.2.2.2.2.2.1 v.2.2.2.2.2.2.2.2.2.2.2.2.2.2.2.2.2.2.2.2.2.2.2.2.2.2.2.2.2.2.2.2.2.2.2.2.1 v.2.2.2.2.2.2.2.2.2.2.2.2.2.2.2.2.2.2.2.2.2.2.2.2.2.2.2.2.2.2.2.2.2.2.2.2.2.1 v.2.2.2.2.2.2.2.2.2.2.2.2.2.2.2.2.2.2.2.2.2.2.2.2.2.2.2.2.2.2.2.2.2.2.2.2.2.2.1 v.2.2.2.2.2.2.2.2.2.2.2.2.2.2.2.2.2.2.2.2.2.2.2.2.2.2.2.2.2.2.2.2.2.2.2.2.2.2.2.1 v.2.2.2.2.2.2.2.2.2.2.2.2.2.2.2.2.2.2.2.2.2.2.2.2.2.2.2.2.2.2.2.2.2.2.2.2.2.2.2.2.1 v.2.2.2.2.2.2.2.2.2.2.2.2.2.2.2.2.2.2.2.2.2.2.2.2.2.2.2.2.2.2.2.2.2.2.2.2.2.2.2.2.2.1 v.2.2.2.2.2.2.2.2.2.2.2.2.2.2.2.2.2.2.2.2.2.2.2.2.2.2.2.2.2.2.2.2.2.2.2.2.2.2.2.2.2.2.1 v.2.2.2.2.2.2.2.2.2.2.2.2.2.2.2.2.2.2.2.2.2.2.2.2.2.2.2.2.2.2.2.2.2.2.2.2.2.2.2.2.2.2.2.1 v.2.2.2.2.2.2.2.2.2.2.2.2.2.2.2.2.2.2.2.2.2.2.2.2.2.2.2.2.2.2.2.2.2.2.2.2.2.2.2.2.2.2.2.2.1 v.2.2.2.2.2.2.2.2.2.2.2.2.2.2.2.2.2.2.2.2.2.2.2.2.2.2.2.2.2.2.2.2.2.2.2.2.2.2.2.2.2.2.2.2.2.1 v.2.2.2.2.2.2.2.2.2.2.2.2.2.2.2.2.2.2.2.2.2.2.2.2.2.2.2.2.2.2.2.2.2.2.2.2.2.2.2.2.2.2.2.2.2.2.1 v.2.2.2.2.2.2.2.2.2.2.2.2.2.2.2.2.2.2.2.2.2.2.2.2.2.2.2.2.2.2.2.2.2.2.2.2.2.2.2.2.2.2.2.2.2.2.2.1 v.2.2.2.2.2.2.2.2.2.2.2.2.2.2.2.2.2.2.2.2.2.2.2.2.2.2.2.2.2.2.2.2.2.2.2.2.2.2.2.2.2.2.2.2.2.2.2.2.1 v.2.2.2.2.2.2.2.2.2.2.2.2.2.2.2.2.2.2.2.2.2.2.2.2.2.2.2.2.2.2.2.2.2.2.2.2.2.2.2.2.2.2.2.2.2.2.2.2.2.1 v.2.2.2.2.2.2.2.2.2.2.2.2.2.2.2.2.2.2.2.2.2.2.2.2.2.2.2.2.2.2.2.2.2.2.2.2.2.2.2.2.2.2.2.2.2.2.2.2.2.2.1 v.2.2.2.2.2.2.2.2.2.2.2.2.2.2.2.2.2.2.2.2.2.2.2.2.2.2.2.2.2.2.2.2.2.2.2.2.2.2.2.2.2.2.2.2.2.2.2.2.2.2.2.1 v.2.2.2.2.2.2.2.2.2.2.2.2.2.2.2.2.2.2.2.2.2.2.2.2.2.2.2.2.2.2.2.2.2.2.2.2.2.2.2.2.2.2.2.2.2.2.2.2.2.2.2.2.1 v.2.2.2.2.2.2.2.2.2.2.2.2.2.2.2.2.2.2.2.2.2.2.2.2.2.2.2.2.2.2.2.2.2.2.2.2.2.2.2.2.2.2.2.2.2.2.2.2.2.2.2.2.2.1 v.2.2.2.2.2.2.2.2.2.2.2.2.2.2.2.2.2.2.2.2.2.2.2.2.2.2.2.2.2.2.2.2.2.2.2.2.2.2.2.2.2.2.2.2.2.2.2.2.2.2.2.2.2.2.1 v.2.2.2.2.2.2.2.2.2.2.2.2.2.2.2.2.2.2.2.2.2.2.2.2.2.2.2.2.2.2.2.2.2.2.2.2.2.2.2.2.2.2.2.2.2.2.2.2.2.2.2.2.2.2.2.1 v.2.2.2.2.2.2.2.2.2.2.2.2.2.2.2.2.2.2.2.2.2.2.2.2.2.2.2.2.2.2.2.2.2.2.2.2.2.2.2.2.2.2.2.2.2.2.2.2.2.2.2.2.2.2.2.2.1 v.2.2.2.2.2.2.2.2.2.2.2.2.2.2.2.2.2.2.2.2.2.2.2.2.2.2.2.2.2.2.2.2.2.2.2.2.2.2.2.2.2.2.2.2.2.2.2.2.2.2.2.2.2.2.2.2.2.1 v.2.2.2.2.2.2.2.2.2.2.2.2.2.2.2.2.2.2.2.2.2.2.2.2.2.2.2.2.2.2.2.2.2.2.2.2.2.2.2.2.2.2.2.2.2.2.2.2.2.2.2.2.2.2.2.2.2.2.1 v.2.2.2.2.2.2.2.2.2.2.2.2.2.2.2.2.2.2.2.2.2.2.2.2.2.2.2.2.2.2.2.2.2.2.2.2.2.2.2.2.2.2.2.2.2.2.2.2.2.2.2.2.2.2.2.2.2.2.2.1 v.2.2.2.2.2.2.2.2.2.2.2.2.2.2.2.2.2.2.2.2.2.2.2.2.2.2.2.2.2.2.2.2.2.2.2.2.2.2.2.2.2.2.2.2.2.2.2.2.2.2.2.2.2.2.2.2.2.2.2.2.1 v.2.2.2.2.2.2.2.2.2.2.2.2.2.2.2.2.2.2.2.2.2.2.2.2.2.2.2.2.2.2.2.2.2.2.2.2.2.2.2.2.2.2.2.2.2.2.2.2.2.2.2.2.2.2.2.2.2.2.2.2.2) hw (w', mean', mg', mb', h₀', S', fa', s', Q', E', x', dx', D', d', f', c1', c2', lp', lc', cc', oF', o1', o2', oL', oC', ocn', obg', cA', cB', cT', p1', m0', r', st', k', tk', cp', cb', g0', g1', g2', g3', g4', g5', g6', g7', g8', y0', y1', y2', y3', y4', y5', y6', y7', y8', z1', z2', z3', z4', z5', z6')
theorem law_rest {w : World} {mean : ExcName → Option Value} {mg mb : Str → Option Value} {h₀ : Heap} {S fa : Addr} {s : Shared} {Q : Flow → Shared → Prop} {E : Value → Shared → Prop} {o333 : Obj} {s12 : Stmt} {rest : List Stmt} {scope : Scope} (ho : (hd.heap_39 w.params).lookup 333 = some o333) (hL : LawDef o333 s12 rest scope)
    (B : Below callerA h₀ [] h₀) (X : Frag.In (hd.heap_39 w.params) h₀) (T : Top VW LO mean mg mb h₀) (cH1 : CodeHd h₀ 274 270) (cH2 : CodeHd h₀ 332 330) (l0 : @LT.lt Nat _ 270 S ∧ @LT.lt Nat _ 330 S)
    {x dx D d f c1 c2 lp lc cc : Addr} {oF o1 o2 oL oC od ocn obg cA cB cT : Obj} {p1 : Array Value} {m0 : Str → Option Value} {r : RowsT} {st : FSt} {k : Int} {tk : Tok} {cp : Nat}
    (K : Tkr w f c1 c2 lp lc cc oF o1 o2 oL oC)
    (F : Fr h₀ S s.heap (fun y => if y = Str.ofString "content" then some (.ref D) else if y = Str.ofString "begin" then some (.ref d) else m0 y))
    (N : News h₀ S s.heap [(x, instObj 168 dx), (dx, od), (D, ocn), (lp, placeO k tk cp), (d, obg), (f, oF), (cc, oC), (lc, oL), (c2, o2), (c1, o1), (S + 1 + 1 + 1, cA), (S + 1 + 1, cB), (S + 1, cT), (270, tabObj p1), (330, tabObj #[])])
    (q1 : @LT.lt Nat _ dx x) (q2 : @LT.lt Nat _ D dx ∧ @LT.lt Nat _ lp dx ∧ @LT.lt Nat _ d dx ∧ @LT.lt Nat _ f dx ∧ @LT.lt Nat _ cc dx ∧ @LT.lt Nat _ lc dx ∧ @LT.lt Nat _ c2 dx ∧ @LT.lt Nat _ c1 dx ∧ @LT.lt Nat _ (S + 1 + 1 + 1) dx ∧ @LT.lt Nat _ (S + 1 + 1) dx ∧ @LT.lt Nat _ (S + 1) dx ∧ @LT.lt Nat _ 270 dx ∧ @LT.lt Nat _ 330 dx)
    (q3 : @LT.lt Nat _ lp D ∧ @LT.lt Nat _ d D ∧ @LT.lt Nat _ f D ∧ @LT.lt Nat _ cc D ∧ @LT.lt Nat _ lc D ∧ @LT.lt Nat _ c2 D ∧ @LT.lt Nat _ c1 D ∧ @LT.lt Nat _ (S + 1 + 1 + 1) D ∧ @LT.lt Nat _ (S + 1 + 1) D ∧ @LT.lt Nat _ (S + 1) D ∧ @LT.lt Nat _ 270 D ∧ @LT.lt Nat _ 330 D)
    (q4 : @LT.lt Nat _ (S + 1 + 1 + 1) lp ∧ @LT.lt Nat _ (S + 1 + 1 + 1) d ∧ @LT.lt Nat _ (S + 1 + 1 + 1) f ∧ @LT.lt Nat _ (S + 1 + 1 + 1) cc ∧ @LT.lt Nat _ (S + 1 + 1 + 1) lc ∧ @LT.lt Nat _ (S + 1 + 1 + 1) c2 ∧ @LT.lt Nat _ (S + 1 + 1 + 1) c1) (q5 : @Ne Nat lp d ∧ @Ne Nat lp f ∧ @Ne Nat lp cc ∧ @Ne Nat lp lc ∧ @Ne Nat lp c2 ∧ @Ne Nat lp c1)
    {cb : Option Value} (hA : cA.data = .cell (some (.ref x))) (hB : cB.data = .cell cb) (hT : cT.data = .cell (some (.ref f))) (hf : FileObj D (Mode.s .io) (Str.ofString "sequential") 0 st od) (hst : st.rows = r) (hfd : r ≠ [] → st = fFound (fInit .io r) (minL (rkeys r))) (R : RowsO w ocn r) (Rb : RowsO w obg r) (hp : PosR r) (hl : r.length < 64)
    (loD : (D == sysModules) = false) (lod : (d == sysModules) = false) (hk : 0 ≤ k) (hk2 : k < 300)
    (ret : ∀ h' tk' m', Fr h₀ S h' m' → GrownAt 270 h' ∧ GrownAt 330 h' → Q (.ret (.bool true)) { s with heap := h', toks := tk' }) :
    wpAny (model PySem.Challenge.rw_og0083_01.row.prog w) (callerA.deeper (envOfC (Str.ofString "law") scope S fa (.ref 332))) (execs rest (envOfC (Str.ofString "law") scope S fa (.ref 332))) Q E s := by
  exact law_rest_a_pre.2 law_rest_a_all w mean mg mb h₀ S fa s Q E o333 s12 rest scope ho hL B X T cH1 cH2 l0 x dx D d f c1 c2 lp lc cc oF o1 o2 oL oC od ocn obg cA cB cT p1 m0 r st k tk cp K F N q1 q2 q3 q4 q5 cb hA hB hT hf hst hfd R Rb hp hl loD lod hk hk2 ret
end
section
variable {w : World} {mean : ExcName → Option Value} {mg mb : Str → Option Value} {h₀ : Heap} {S fa : Addr} {s : Shared} {Q : Flow → Shared → Prop} {E : Value → Shared → Prop}
set_option maxHeartbeats 8000000 in
theorem law_end {o333 : Obj} {s12 : Stmt} {rest : List Stmt} {scope : Scope} (ho : (hd.heap_39 w.params).lookup 333 = some o333) (hL : LawDef o333 s12 rest scope)
    (B : Below callerA h₀ [] h₀) (X : Frag.In (hd.heap_39 w.params) h₀) (T : Top VW LO mean mg mb h₀) (cH1 : CodeHd h₀ 274 270) (cH2 : CodeHd h₀ 332 330) (l0 : @LT.lt Nat _ 270 S ∧ @LT.lt Nat _ 330 S)
    {x dx D d f c1 c2 lp lc cc : Addr} {oF o1 o2 oL oC od ocn obg cA cB cT : Obj} {p1 : Array Value} {m0 : Str → Option Value} {r : RowsT} {k : Int} {tk : Tok} {cp : Nat}
    (K : Tkr w f c1 c2 lp lc cc oF o1 o2 oL oC)
    (F : Fr h₀ S s.heap (fun y => if y = Str.ofString "content" then some (.ref D) else if y = Str.ofString "begin" then some (.ref d) else m0 y))
    (N : News h₀ S s.heap [(x, instObj 168 dx), (dx, od), (D, ocn), (lp, placeO k tk cp), (d, obg), (f, oF), (cc, oC), (lc, oL), (c2, o2), (c1, o1), (S + 1 + 1 + 1, cA), (S + 1 + 1, cB), (S + 1, cT), (270, tabObj p1), (330, tabObj #[])])
    (q1 : @LT.lt Nat _ dx x) (q2 : @LT.lt Nat _ D dx ∧ @LT.lt Nat _ lp dx ∧ @LT.lt Nat _ d dx ∧ @LT.lt Nat _ f dx ∧ @LT.lt Nat _ cc dx ∧ @LT.lt Nat _ lc dx ∧ @LT.lt Nat _ c2 dx ∧ @LT.lt Nat _ c1 dx ∧ @LT.lt Nat _ (S + 1 + 1 + 1) dx ∧ @LT.lt Nat _ (S + 1 + 1) dx ∧ @LT.lt Nat _ (S + 1) dx ∧ @LT.lt Nat _ 270 dx ∧ @LT.lt Nat _ 330 dx)
    (q3 : @LT.lt Nat _ lp D ∧ @LT.lt Nat _ d D ∧ @LT.lt Nat _ f D ∧ @LT.lt Nat _ cc D ∧ @LT.lt Nat _ lc D ∧ @LT.lt Nat _ c2 D ∧ @LT.lt Nat _ c1 D ∧ @LT.lt Nat _ (S + 1 + 1 + 1) D ∧ @LT.lt Nat _ (S + 1 + 1) D ∧ @LT.lt Nat _ (S + 1) D ∧ @LT.lt Nat _ 270 D ∧ @LT.lt Nat _ 330 D)
    (q4 : @LT.lt Nat _ (S + 1 + 1 + 1) lp ∧ @LT.lt Nat _ (S + 1 + 1 + 1) d ∧ @LT.lt Nat _ (S + 1 + 1 + 1) f ∧ @LT.lt Nat _ (S + 1 + 1 + 1) cc ∧ @LT.lt Nat _ (S + 1 + 1 + 1) lc ∧ @LT.lt Nat _ (S + 1 + 1 + 1) c2 ∧ @LT.lt Nat _ (S + 1 + 1 + 1) c1) (q5 : @Ne Nat lp d ∧ @Ne Nat lp f ∧ @Ne Nat lp cc ∧ @Ne Nat lp lc ∧ @Ne Nat lp c2 ∧ @Ne Nat lp c1)
    {cb : Option Value} (hA : cA.data = .cell (some (.ref x))) (hB : cB.data = .cell cb) (hT : cT.data = .cell (some (.ref f))) (hf : FileObj D (Mode.s .io) (Str.ofString "sequential") 0 (fInit .io r) od) (R : RowsO w ocn r) (Rb : RowsO w obg r) (hp : PosR r) (hl : r.length < 64)
    (loD : (D == sysModules) = false) (lod : (d == sysModules) = false) (hk : 0 ≤ k) (hk2 : k < 300)
    (ret : ∀ h' tk' m', Fr h₀ S h' m' → GrownAt 270 h' ∧ GrownAt 330 h' → Q (.ret (.bool true)) { s with heap := h', toks := tk' }) :
    wpAny (model PySem.Challenge.rw_og0083_01.row.prog w) (callerA.deeper (envOfC (Str.ofString "law") scope S fa (.ref 332))) (exec s12 (envOfC (Str.ofString "law") scope S fa (.ref 332)))
      (fun fl s' => match fl with | .next => wpAny (model PySem.Challenge.rw_og0083_01.row.prog w) (callerA.deeper (envOfC (Str.ofString "law") scope S fa (.ref 332))) (execs rest (envOfC (Str.ofString "law") scope S fa (.ref 332))) Q E s' | fl => Q fl s') E s := by
  (revert T; revert X; k_fill; intro X T)
  have e := same_lookup (by k_is) ho
  have hL2 := hL
  subst e
  cases hL
  have hrows : (fInit .io r).rows = r := by simp [fInit]
  have hR2 : RowsO w ocn (fInit .io r).rows := by rw [hrows]; exact R
  have hl2 : (fInit .io r).rows.length < 64 := by rw [hrows]; exact hl
  have hfo := hf
  cases hf with
  | mk g0 g1 g2 g3 g4 g5 g6 g7 g8 y0 y1 y2 y3 y4 y5 y6 y7 y8 z1 z2 z3 z4 z5 z6 =>
  k_with "S noteq" => ((rename Flagged 27 => mk27); (k_dflt (walk_at "S cmp")))
  have mk27 : Flagged 27 := ⟨⟩
  k_with "S fold" => ((rename Flagged 28 => mk28); (((k_dflt (show wpAny _ _ (execs _ (envOfC (Str.ofString "law") _ _ _ _)) _ _ _)); refine stop_at ?_)))
  have mk28 : Flagged 28 := ⟨⟩
  by_cases hr : r = []
  · k_steps
    exact stop_off (law_rest (st := fInit .io r) (r := r) ho hL2 B X T cH1 cH2 l0 K (by assumption) (fun p hp => (by assumption : News h₀ S _ _) p (List.mem_cons_of_mem _ hp)) q1 q2 q3 q4 q5 hA hB hT hfo hrows (fun h => absurd hr h) R Rb hp hl loD lod hk hk2 (fun h' tk' m' F' G' => ret h' tk' m' F' G'))
  · have e1 := rn_first hr hp
    k_steps
    rename_i N9 hfo9
    exact stop_off (law_rest (st := fFound (fInit .io r) (minL (rkeys r))) (r := r) ho hL2 B X T cH1 cH2 l0 K (by assumption) (fun p hp => N9 p (List.mem_cons_of_mem _ (List.mem_cons_of_mem _ hp))) q1 q2 q3 q4 q5 hA hB hT hfo9 (by simp [fFound, fInit]) (fun _ => rfl) R Rb hp hl loD lod hk hk2 (fun h' tk' m' F' G' => ret h' tk' m' F' G'))
end
theorem fr_one {h₀ h : Heap} {L : Addr} {m : Str → Option Value} (F : Fr h₀ L h m) {a : Str} {x : Value} (ha : m a = some x) : Fr h₀ L h (fun z => if z = a then some x else m z) := by
  have e : (fun z => if z = a then some x else m z) = m := funext fun z => by
    by_cases h1 : z = a
    · subst h1; rw [if_pos rfl, ha]
    · rw [if_neg h1]
  rw [e]; exact F
inductive LawAll : Obj → List Stmt → Scope → Prop
  | mk {oc : Value} {od : Option Addr} {osl : Array (Option Value)} {nm q : Str} {ps : Arguments} {body : List Stmt} {scope : Scope} {dV kV doc pm cdv ct : Value} {an : Option Addr} :
      LawAll ⟨oc, od, .func (fnOf nm q ps body scope dV kV doc pm an cdv ct), osl⟩ body scope
theorem fr_two {h₀ h : Heap} {L : Addr} {m : Str → Option Value} (F : Fr h₀ L h m) {a b : Str} {x y : Value} (ha : m a = some x) (hb : m b = some y) : Fr h₀ L h (fun z => if z = a then some x else if z = b then some y else m z) := by
  have e : (fun z => if z = a then some x else if z = b then some y else m z) = m := funext fun z => by
    by_cases h1 : z = a
    · subst h1; rw [if_pos rfl, ha]
    · rw [if_neg h1]
      by_cases h2 : z = b
      · subst h2; rw [if_pos rfl, hb]
      · rw [if_neg h2]
  rw [e]; exact F
theorem ints_pos {ws : List Value} {zs : List Int} (h : IntsAre ws zs) (hne : ¬ ws = []) : 0 < zs.length := Nat.pos_of_ne_zero fun q => hne (List.length_eq_zero_iff.mp (h.length.trans q))
theorem own_off1b {D : Addr} {p x : Addr × Obj} {rest tail : List (Addr × Obj)} {adr : List Addr} (off : Off1 D (p :: x :: (rest ++ tail))) (o : OwnOff tail adr) : OwnOff tail (D :: adr) := fun q hq b hb => by
  rcases List.mem_cons.mp hb with rfl | hb
  · exact off1_mem off q (.tail _ (.tail _ (List.mem_append_right _ hq)))
  · exact o q hq b hb
theorem pre_nil {l : List (Addr × Obj)} : ∀ p ∈ ([] : List (Addr × Obj)), p ∈ l := fun _ h => nomatch h
theorem pre_cons {x : Addr × Obj} {r l : List (Addr × Obj)} (h : ∀ p ∈ r, p ∈ l) : ∀ p ∈ x :: r, p ∈ x :: l := fun p hp => (List.mem_cons.mp hp).elim (fun e => e ▸ .head _) fun q => .tail _ (h p q)
theorem if_skip4 {prog : Program} {w : World} {A : Around} {E : Value → Shared → Prop} {s : Shared} {h₀ : Heap} {L : Addr} {m : Str → Option Value} {env : Env} {st : Stmt} {Q : Flow → Shared → Prop} {x1 x2 x3 x4 : Addr × Obj} {rest news' : List (Addr × Obj)} (_F : Fr h₀ L s.heap m) (_N : News h₀ L s.heap (x1 :: x2 :: x3 :: x4 :: rest)) (sub : ∀ p ∈ news', p ∈ rest)
    (h : ∀ Q' : Flow → Shared → Prop, (∀ h' tk, Fr h₀ L h' m → News h₀ L h' (x1 :: x2 :: x3 :: x4 :: rest) → Q' .next { s with heap := h', toks := tk }) → wpAny (model prog w) A (exec st env) Q' E s)
    (k : ∀ h' tk, Fr h₀ L h' m → News h₀ L h' news' → Q .next { s with heap := h', toks := tk }) : wpAny (model prog w) A (exec st env) Q E s :=
  h Q fun h' tk F' N' => k h' tk F' fun p hp => N' p (.tail _ (.tail _ (.tail _ (.tail _ (sub p hp)))))
section
variable {prog : Program} {w : World} {A : Around} {E : Value → Shared → Prop} {s : Shared} {h₀ : Heap} {L : Addr} {m : Str → Option Value}
theorem if_cells2 (c0 : Nat) {st : Stmt} {env : Env} {Q : Flow → Shared → Prop} {D c1 : Addr} {o oD : Obj} {rest : List (Addr × Obj)} {u : Obj → List (Addr × Obj)} (_F : Fr h₀ L s.heap m) (_N : News h₀ L s.heap ((D, oD) :: rest)) (_U : UpdF c1 o rest u)
    (h : ∀ Q' : Flow → Shared → Prop, (∀ h' tk D2 oc ws c zs, Fr h₀ L h' m → News h₀ L h' ((D2, listOf (List.toArray ws) c) :: u oc) → AllNe D2 rest → @LT.lt Nat _ c0 D2 → oc.data = .cell (some (.ref D2)) → IntsAre ws zs → 0 < zs.length → zs.length ≤ 63 → Q' .next { s with heap := h', toks := tk }) → wpAny (model prog w) A (exec st env) Q' E s)
    (k : ∀ h' tk D2 oc ws c zs, Fr h₀ L h' m → News h₀ L h' ((D2, listOf (List.toArray ws) c) :: u oc) → AllNe D2 rest → @LT.lt Nat _ c0 D2 → oc.data = .cell (some (.ref D2)) → IntsAre ws zs → 0 < zs.length → zs.length ≤ 63 → Q .next { s with heap := h', toks := tk }) : wpAny (model prog w) A (exec st env) Q E s := h Q k
end
theorem rows_init {w : World} {o : Obj} {r : RowsT} (h : RowsO w o (fInit .io r).rows) : RowsO w o r := by
  have e : (fInit .io r).rows = r := by simp [fInit]
  rw [e] at h; exact h
theorem words57 : True := by
  k_with "S ifs" => (((try dsimp only); first | exact if_pos rfl | (rw [if_neg (by decide)]; walk_at "S ifs")))
  trivial
section
set_option maxHeartbeats 8000000 in
noncomputable def law_main_a_pre : (Pa : (World) → (ExcName → Option Value) → (Str → Option Value) → (Str → Option Value) → (Heap) → (Addr) → (Addr) → (Shared) → (Flow → Shared → Prop) → (Addr) → (List Value) → (List Int) → (Obj) → (Obj) → (Obj) → (Option Value) → (Option Value) → (Option Value) → Prop) ×' ((∀ w mean mg mb h₀ S fa s Q ls ws0 zs0 cA cB cT ca cb ct, Pa w mean mg mb h₀ S fa s Q ls ws0 zs0 cA cB cT ca cb ct) → (∀ (w : World) (mean : ExcName → Option Value) (mg mb : Str → Option Value) (h₀ : Heap) (S fa : Addr) (s : Shared) (Q : Flow → Shared → Prop) (o333 : Obj) (body : List Stmt) (scope : Scope) (ho : (hd.heap_39 w.params).lookup 333 = some o333) (hL : LawAll o333 body scope) (B : Below callerA h₀ [] h₀) (X : Frag.In (hd.heap_39 w.params) h₀) (T : Top VW LO mean mg mb h₀) (cH1 : CodeHd h₀ 274 270) (cH2 : CodeHd h₀ 332 330) (l0 : @LT.lt Nat _ 270 S ∧ @LT.lt Nat _ 330 S) (ls : Addr) (ws0 : List Value) (zs0 : List Int) (hLs : h₀.IsList ls ws0.toArray) (hI0 : IntsAre ws0 zs0) (hz0 : zs0.length ≤ 63) (cA cB cT : Obj) (ca cb ct : Option Value) (F : Fr h₀ S s.heap (fun y => if y = Str.ofString "script" then some (.ref ls) else none)) (N : News h₀ S s.heap [(S + 1 + 1 + 1, cA), (S + 1 + 1, cB), (S + 1, cT), (270, tabObj #[]), (330, tabObj #[])]) (hA0 : cA.data = .cell ca) (hB0 : cB.data = .cell cb) (hT0 : cT.data = .cell ct) (ret : ∀ h' tk' m', Fr h₀ S h' m' → GrownAt 270 h' ∧ GrownAt 330 h' → Q (.ret (.bool true)) { s with heap := h', toks := tk' }), wpAny (model PySem.Challenge.rw_og0083_01.row.prog w) (callerA.deeper (envOfC (Str.ofString "law") scope S fa (.ref 332))) (execs body (envOfC (Str.ofString "law") scope S fa (.ref 332))) Q (fun _ _ => False) s)) := by
  refine' ⟨_, fun hPa => ?_⟩
  rotate_left 1
  · skip
    intro w mean mg mb h₀ S fa s Q o333 body scope ho hL B X T cH1 cH2 l0 ls ws0 zs0 hLs hI0 hz0 cA cB cT ca cb ct F N hA0 hB0 hT0 ret
    (revert T; revert X; k_fill; intro X T)
    have e := same_lookup (by k_is) ho
    subst e
    cases hL
    k_sweep
    revert ho; revert T; revert X; revert ret; revert hT0; revert hB0; revert hA0; revert N; revert F; revert hz0; revert hI0; revert hLs; revert l0; revert cH2; revert cH1; revert B
    exact hPa w mean mg mb h₀ S fa s Q ls ws0 zs0 cA cB cT ca cb ct
noncomputable def law_main_a_v : (World) × (ExcName → Option Value) × (Str → Option Value) × (Str → Option Value) × (Heap) × (Addr) × (Addr) × (Shared) × (Flow → Shared → Prop) × (Addr) × (List Value) × (List Int) × (Obj) × (Obj) × (Obj) × (Option Value) × (Option Value) × (Option Value) := @Classical.epsilon _ ⟨(w0, (fun _ => none), (fun _ => none), (fun _ => none), {}, 0, 0, {}, (fun _ => (fun _ => True)), 0, [], [], default, default, default, none, none, none)⟩ fun v => ¬ law_main_a_pre.1 v.1 v.2.1 v.2.2.1 v.2.2.2.1 v.2.2.2.2.1 v.2.2.2.2.2.1 v.2.2.2.2.2.2.1 v.2.2.2.2.2.2.2.1 v.2.2.2.2.2.2.2.2.1 v.2.2.2.2.2.2.2.2.2.1 v.2.2.2.2.2.2.2.2.2.2.1 v.2.2.2.2.2.2.2.2.2.2.2.1 v.2.2.2.2.2.2.2.2.2.2.2.2.1 v.2.2.2.2.2.2.2.2.2.2.2.2.2.1 v.2.2.2.2.2.2.2.2.2.2.2.2.2.2.1 v.2.2.2.2.2.2.2.2.2.2.2.2.2.2.2.1 v.2.2.2.2.2.2.2.2.2.2.2.2.2.2.2.2.1 v.2.2.2.2.2.2.2.2.2.2.2.2.2.2.2.2.2
namespace law_main_a
noncomputable def w : World := law_main_a_v.1
noncomputable def mean : ExcName → Option Value := law_main_a_v.2.1
noncomputable def mg : Str → Option Value := law_main_a_v.2.2.1
noncomputable def mb : Str → Option Value := law_main_a_v.2.2.2.1
noncomputable def h₀ : Heap := law_main_a_v.2.2.2.2.1
noncomputable def S : Addr := law_main_a_v.2.2.2.2.2.1
noncomputable def fa : Addr := law_main_a_v.2.2.2.2.2.2.1
noncomputable def s : Shared := law_main_a_v.2.2.2.2.2.2.2.1
noncomputable def Q : Flow → Shared → Prop := law_main_a_v.2.2.2.2.2.2.2.2.1
noncomputable def ls : Addr := law_main_a_v.2.2.2.2.2.2.2.2.2.1
noncomputable def ws0 : List Value := law_main_a_v.2.2.2.2.2.2.2.2.2.2.1
noncomputable def zs0 : List Int := law_main_a_v.2.2.2.2.2.2.2.2.2.2.2.1
noncomputable def cA : Obj := law_main_a_v.2.2.2.2.2.2.2.2.2.2.2.2.1
noncomputable def cB : Obj := law_main_a_v.2.2.2.2.2.2.2.2.2.2.2.2.2.1
noncomputable def cT : Obj := law_main_a_v.2.2.2.2.2.2.2.2.2.2.2.2.2.2.1
noncomputable def ca : Option Value := law_main_a_v.2.2.2.2.2.2.2.2.2.2.2.2.2.2.2.1
noncomputable def cb : Option Value := law_main_a_v.2.2.2.2.2.2.2.2.2.2.2.2.2.2.2.2.1
noncomputable def ct : Option Value := law_main_a_v.2.2.2.2.2.2.2.2.2.2.2.2.2.2.2.2.2
set_option maxHeartbeats 8000000 in
noncomputable def walk_b_pre : (Pb : (Heap) → (Addr) → (Obj) → (Obj) → (Addr) → (List Value) → (Obj) → (Nat) → (Addr) → (Obj) → (List Value) → (Nat) → (List Int) → (Addr) → (Obj) → (Addr) → (Addr) → (Obj) → (Array Value) → (Tok) → (Value) → (Value) → (Nat) → (Heap) → (Heap) → (Obj) → (Addr) → (Heap) → (Nat) → (Obj) → (Heap) → (Heap) → (Obj) → (Obj) → Prop) ×' ((∀ zb0 zb1 zb8 zb9 zb12 zb13 zb20 tk2 D2 oc2 ws2 c2 zs2 zb22 zb26 zb28 zb29 zb30 zb31 zb32 zb33 zb34 zb36 zb41 zb46 zb47 zb49 zb51 zb52 zb53 zb55 h9 oF oL, Pb zb0 zb1 zb8 zb9 zb12 zb13 zb20 tk2 D2 oc2 ws2 c2 zs2 zb22 zb26 zb28 zb29 zb30 zb31 zb32 zb33 zb34 zb36 zb41 zb46 zb47 zb49 zb51 zb52 zb53 zb55 h9 oF oL) → (law_main_a_pre.1 w mean mg mb h₀ S fa s Q ls ws0 zs0 cA cB cT ca cb ct)) := by
  refine' ⟨_, fun hPb => ?_⟩
  rotate_left 1
  · skip
    delta law_main_a_pre
    dsimp only
    intro B cH1 cH2 l0 hLs hI0 hz0 F N hA0 hB0 hT0 ret X T ho
    k_with "S if" => ((rename Flagged 29 => mk29); ((refine stop_at ?_)))
    have mk29 : Flagged 29 := ⟨⟩
    walk_at "STEPS0"
    (repeat (rename Flagged _ => mk0; clear mk0))
    refine stop_off (if_cells2 (S + 1 + 1 + 1) (by assumption) (by assumption) (UpdF.tail (by k_ne) (UpdF.head (by k_all))) ?_ ?_)
    · intro Q' hQ'
      walk_at "STEPS0"
      · refine' hQ' _ _ _ _ _ _ _ ?a1 ?a2 ?a3 ?a8 ?a4 ?a5 ?a6 ?a7
        case a1 => assumption
        case a4 => assumption
        case a2 => exact news_drop2 (by assumption)
        case a5 => exact .cons _ _ .nil
        case a3 => walk_at "S nes"
        case a8 => omega
        case a6 => exact Nat.zero_lt_one
        case a7 => exact Nat.le_add_left 1 62
      · refine' hQ' _ _ _ _ _ _ _ ?a1 ?a2 ?a3 ?a8 ?a4 ?a5 ?a6 ?a7
        case a1 => assumption
        case a4 => assumption
        case a2 => exact news_drop1 (by assumption)
        case a5 => assumption
        case a3 => walk_at "S nes"
        case a8 => omega
        case a6 => exact ints_pos (by assumption) (by assumption)
        case a7 => omega
    intro h2 tk2 D2 oc2 ws2 c2 zs2 F2 N2 l2 l3 d2 hi2 z2 z2'
    simp only [AllNe, and_true] at l2
    k_with "S if" => ((rename Flagged 30 => mk30); ((refine stop_at ?_)))
    have mk30 : Flagged 30 := ⟨⟩
    walk_at "STEPS0"
    (repeat (rename Flagged _ => mk0; clear mk0))
    rename_i h9 F9 N9
    obtain ⟨oF, oL, K, N5⟩ := tk_law N9 (by assumption) (by k_is) .mk (by assumption) (by assumption) d2 (by assumption) hi2 z2 z2'
    clear N9
    k_sweep
    rename_i zb0 zb1 zb2 zb3 zb4 zb5 zb6 zb7 zb8 zb9 zb10 zb11 zb12 zb13 zb14 zb15 zb16 zb17 zb18 zb19 zb20 zb21 zb22 zb23 zb24 zb25 zb26 zb27 zb28 zb29 zb30 zb31 zb32 zb33 zb34 zb35 zb36 zb37 zb38 zb39 zb40 zb41 zb42 zb43 zb44 zb45 zb46 zb47 zb48 zb49 zb50 zb51 zb52 zb53 zb54 zb55 zb56 zb57 zb58 zb59 zb60 zb61 zb62 zb63
    revert N5; revert K; revert F9; revert zb57; revert zb56; revert zb54; revert zb50; revert zb48; revert zb45; revert zb44; revert zb43; revert zb42; revert zb40; revert zb39; revert zb38; revert zb37; revert zb27; revert zb24; revert l2; revert z2'; revert z2; revert hi2; revert d2; revert l3; revert zb21; revert zb18; revert zb17; revert zb16; revert zb15; revert lifted; revert zb11; revert zb10; revert zb7; revert zb6; revert zb5; revert zb4; revert ho; revert T; revert X; revert ret; revert hT0; revert hB0; revert hA0; revert hz0; revert hI0; revert hLs; revert l0; revert cH2; revert cH1; revert B
    exact hPb zb0 zb1 zb8 zb9 zb12 zb13 zb20 tk2 D2 oc2 ws2 c2 zs2 zb22 zb26 zb28 zb29 zb30 zb31 zb32 zb33 zb34 zb36 zb41 zb46 zb47 zb49 zb51 zb52 zb53 zb55 h9 oF oL
noncomputable def walk_b_v : (Heap) × (Addr) × (Obj) × (Obj) × (Addr) × (List Value) × (Obj) × (Nat) × (Addr) × (Obj) × (List Value) × (Nat) × (List Int) × (Addr) × (Obj) × (Addr) × (Addr) × (Obj) × (Array Value) × (Tok) × (Value) × (Value) × (Nat) × (Heap) × (Heap) × (Obj) × (Addr) × (Heap) × (Nat) × (Obj) × (Heap) × (Heap) × (Obj) × (Obj) := @Classical.epsilon _ ⟨({}, 0, default, default, 0, [], default, 0, 0, default, [], 0, [], 0, default, 0, 0, default, default, 0, default, default, 0, {}, {}, default, 0, {}, 0, default, {}, {}, default, default)⟩ fun v => ¬ walk_b_pre.1 v.1 v.2.1 v.2.2.1 v.2.2.2.1 v.2.2.2.2.1 v.2.2.2.2.2.1 v.2.2.2.2.2.2.1 v.2.2.2.2.2.2.2.1 v.2.2.2.2.2.2.2.2.1 v.2.2.2.2.2.2.2.2.2.1 v.2.2.2.2.2.2.2.2.2.2.1 v.2.2.2.2.2.2.2.2.2.2.2.1 v.2.2.2.2.2.2.2.2.2.2.2.2.1 v.2.2.2.2.2.2.2.2.2.2.2.2.2.1 v.2.2.2.2.2.2.2.2.2.2.2.2.2.2.1 v.2.2.2.2.2.2.2.2.2.2.2.2.2.2.2.1 v.2.2.2.2.2.2.2.2.2.2.2.2.2.2.2.2.1 v.2.2.2.2.2.2.2.2.2.2.2.2.2.2.2.2.2.1 v.2.2.2.2.2.2.2.2.2.2.2.2.2.2.2.2.2.2.1 v.2.2.2.2.2.2.2.2.2.2.2.2.2.2.2.2.2.2.2.1 v.2.2.2.2.2.2.2.2.2.2.2.2.2.2.2.2.2.2.2.2.1 v.2.2.2.2.2.2.2.2.2.2.2.2.2.2.2.2.2.2.2.2.2.1 v.2.2.2.2.2.2.2.2.2.2.2.2.2.2.2.2.2.2.2.2.2.2.1 v.2.2.2.2.2.2.2.2.2.2.2.2.2.2.2.2.2.2.2.2.2.2.2.1 v.2.2.2.2.2.2.2.2.2.2.2.2.2.2.2.2.2.2.2.2.2.2.2.2.1 v.2.2.2.2.2.2.2.2.2.2.2.2.2.2.2.2.2.2.2.2.2.2.2.2.2.1 v.2.2.2.2.2.2.2.2.2.2.2.2.2.2.2.2.2.2.2.2.2.2.2.2.2.2.1 v.2.2.2.2.2.2.2.2.2.2.2.2.2.2.2.2.2.2.2.2.2.2.2.2.2.2.2.1 v.2.2.2.2.2.2.2.2.2.2.2.2.2.2.2.2.2.2.2.2.2.2.2.2.2.2.2.2.1 v.2.2.2.2.2.2.2.2.2.2.2.2.2.2.2.2.2.2.2.2.2.2.2.2.2.2.2.2.2.1 v.2.2.2.2.2.2.2.2.2.2.2.2.2.2.2.2.2.2.2.2.2.2.2.2.2.2.2.2.2.2.1 v.2.2.2.2.2.2.2.2.2.2.2.2.2.2.2.2.2.2.2.2.2.2.2.2.2.2.2.2.2.2.2.1 v.2.2.2.2.2.2.2.2.2.2.2.2.2.2.2.2.2.2.2.2.2.2.2.2.2.2.2.2.2.2.2.2.1 v.2.2.2.2.2.2.2.2.2.2.2.2.2.2.2.2.2.2.2.2.2.2.2.2.2.2.2.2.2.2.2.2.2
namespace walk_b
noncomputable def zb0 : Heap := walk_b_v.1
noncomputable def zb1 : Addr := walk_b_v.2.1
noncomputable def zb8 : Obj := walk_b_v.2.2.1
noncomputable def zb9 : Obj := walk_b_v.2.2.2.1
noncomputable def zb12 : Addr := walk_b_v.2.2.2.2.1
noncomputable def zb13 : List Value := walk_b_v.2.2.2.2.2.1
noncomputable def zb20 : Obj := walk_b_v.2.2.2.2.2.2.1
noncomputable def tk2 : Nat := walk_b_v.2.2.2.2.2.2.2.1
noncomputable def D2 : Addr := walk_b_v.2.2.2.2.2.2.2.2.1
noncomputable def oc2 : Obj := walk_b_v.2.2.2.2.2.2.2.2.2.1
noncomputable def ws2 : List Value := walk_b_v.2.2.2.2.2.2.2.2.2.2.1
noncomputable def c2 : Nat := walk_b_v.2.2.2.2.2.2.2.2.2.2.2.1
noncomputable def zs2 : List Int := walk_b_v.2.2.2.2.2.2.2.2.2.2.2.2.1
noncomputable def zb22 : Addr := walk_b_v.2.2.2.2.2.2.2.2.2.2.2.2.2.1
noncomputable def zb26 : Obj := walk_b_v.2.2.2.2.2.2.2.2.2.2.2.2.2.2.1
noncomputable def zb28 : Addr := walk_b_v.2.2.2.2.2.2.2.2.2.2.2.2.2.2.2.1
noncomputable def zb29 : Addr := walk_b_v.2.2.2.2.2.2.2.2.2.2.2.2.2.2.2.2.1
noncomputable def zb30 : Obj := walk_b_v.2.2.2.2.2.2.2.2.2.2.2.2.2.2.2.2.2.1
noncomputable def zb31 : Array Value := walk_b_v.2.2.2.2.2.2.2.2.2.2.2.2.2.2.2.2.2.2.1
noncomputable def zb32 : Tok := walk_b_v.2.2.2.2.2.2.2.2.2.2.2.2.2.2.2.2.2.2.2.1
noncomputable def zb33 : Value := walk_b_v.2.2.2.2.2.2.2.2.2.2.2.2.2.2.2.2.2.2.2.2.1
noncomputable def zb34 : Value := walk_b_v.2.2.2.2.2.2.2.2.2.2.2.2.2.2.2.2.2.2.2.2.2.1
noncomputable def zb36 : Nat := walk_b_v.2.2.2.2.2.2.2.2.2.2.2.2.2.2.2.2.2.2.2.2.2.2.1
noncomputable def zb41 : Heap := walk_b_v.2.2.2.2.2.2.2.2.2.2.2.2.2.2.2.2.2.2.2.2.2.2.2.1
noncomputable def zb46 : Heap := walk_b_v.2.2.2.2.2.2.2.2.2.2.2.2.2.2.2.2.2.2.2.2.2.2.2.2.1
noncomputable def zb47 : Obj := walk_b_v.2.2.2.2.2.2.2.2.2.2.2.2.2.2.2.2.2.2.2.2.2.2.2.2.2.1
noncomputable def zb49 : Addr := walk_b_v.2.2.2.2.2.2.2.2.2.2.2.2.2.2.2.2.2.2.2.2.2.2.2.2.2.2.1
noncomputable def zb51 : Heap := walk_b_v.2.2.2.2.2.2.2.2.2.2.2.2.2.2.2.2.2.2.2.2.2.2.2.2.2.2.2.1
noncomputable def zb52 : Nat := walk_b_v.2.2.2.2.2.2.2.2.2.2.2.2.2.2.2.2.2.2.2.2.2.2.2.2.2.2.2.2.1
noncomputable def zb53 : Obj := walk_b_v.2.2.2.2.2.2.2.2.2.2.2.2.2.2.2.2.2.2.2.2.2.2.2.2.2.2.2.2.2.1
noncomputable def zb55 : Heap := walk_b_v.2.2.2.2.2.2.2.2.2.2.2.2.2.2.2.2.2.2.2.2.2.2.2.2.2.2.2.2.2.2.1
noncomputable def h9 : Heap := walk_b_v.2.2.2.2.2.2.2.2.2.2.2.2.2.2.2.2.2.2.2.2.2.2.2.2.2.2.2.2.2.2.2.1
noncomputable def oF : Obj := walk_b_v.2.2.2.2.2.2.2.2.2.2.2.2.2.2.2.2.2.2.2.2.2.2.2.2.2.2.2.2.2.2.2.2.1
noncomputable def oL : Obj := walk_b_v.2.2.2.2.2.2.2.2.2.2.2.2.2.2.2.2.2.2.2.2.2.2.2.2.2.2.2.2.2.2.2.2.2
set_option maxHeartbeats 8000000 in
noncomputable def walk_c_pre : (Pc : (Obj) → (Obj) → (Obj) → (Obj) → (Nat) → (Addr) → (Int) → (Nat) → (Mode) → (Tok) → (Addr) → (Int) → (Int) → (Tok) → (Addr) → (Obj) → (Int) → (Heap) → (Nat) → (Tok) → (Nat) → (Heap) → (Nat) → (Tok) → (Tok) → (Tok) → (Nat) → (Tok) → (Option Value) → (Obj) → (RowsT) → (Int) → (Tok) → (Nat) → (Addr) → (Obj) → (Heap) → (Nat) → Prop) ×' (Pd : (Obj) → (Obj) → (Obj) → (Obj) → (Nat) → (Addr) → (Int) → (Nat) → (Mode) → (Tok) → (Addr) → (Int) → (Int) → (Tok) → (Addr) → (Obj) → (Int) → (Heap) → (Nat) → (Tok) → (Nat) → (Heap) → (Nat) → (Tok) → (Tok) → (Tok) → (Option Value) → (Obj) → (RowsT) → (Int) → (Tok) → (Nat) → (Heap) → (Nat) → Prop) ×' ((∀ zc4 zc18 zc32 zc46 zc59 zc60 zc63 zc66 zc71 zc72 zc74 zc77 zc85 zc86 zc88 zc90 zc98 zc100 zc101 zc102 zc103 zc108 zc109 zc110 zc111 zc112 i t5 u1 o1 r k1 tk1 cp1 I oI h tk, Pc zc4 zc18 zc32 zc46 zc59 zc60 zc63 zc66 zc71 zc72 zc74 zc77 zc85 zc86 zc88 zc90 zc98 zc100 zc101 zc102 zc103 zc108 zc109 zc110 zc111 zc112 i t5 u1 o1 r k1 tk1 cp1 I oI h tk) → (∀ zd4 zd18 zd32 zd46 zd59 zd60 zd63 zd66 zd71 zd72 zd74 zd77 zd85 zd86 zd88 zd90 zd98 zd100 zd101 zd102 zd103 zd108 zd109 zd110 zd111 zd112 u1 o1 r k1 tk1 cp1 h tk, Pd zd4 zd18 zd32 zd46 zd59 zd60 zd63 zd66 zd71 zd72 zd74 zd77 zd85 zd86 zd88 zd90 zd98 zd100 zd101 zd102 zd103 zd108 zd109 zd110 zd111 zd112 u1 o1 r k1 tk1 cp1 h tk) → (walk_b_pre.1 zb0 zb1 zb8 zb9 zb12 zb13 zb20 tk2 D2 oc2 ws2 c2 zs2 zb22 zb26 zb28 zb29 zb30 zb31 zb32 zb33 zb34 zb36 zb41 zb46 zb47 zb49 zb51 zb52 zb53 zb55 h9 oF oL)) := by
  refine' ⟨_, _, fun hPc hPd => ?_⟩
  rotate_left 2
  · skip
    delta walk_b_pre
    dsimp only
    intro B cH1 cH2 l0 hLs hI0 hz0 hA0 hB0 hT0 ret X T ho zb4 zb5 zb6 zb7 zb10 zb11 lifted zb15 zb16 zb17 zb18 zb21 l3 d2 hi2 z2 z2' l2 zb24 zb27 zb37 zb38 zb39 zb40 zb42 zb43 zb44 zb45 zb48 zb50 zb54 zb56 zb57 F9 K N5
    k_with "S iter" => ((rename Flagged 31 => mk31); (((with_reducible show wpAny _ _ (pyIter _) (fun it s₂ => TurnsAt _ _ _ _ _ (PySem.Expr.Name _ _) _ _ _ _ _) _ _); refine stop_at ?_)))
    have mk31 : Flagged 31 := ⟨⟩
    refine stop_off ?_
    k_steps
    (repeat (rename Flagged _ => mk0; clear mk0))
    rename_i hr1 F1 N1 _
    refine stop_off (for_begin rfl hr1 (by omega) (by omega) (fun _ _ => rfl) F1 N1 ⟨[], by assumption, .nil⟩ ?_ ?_)
    · intro i t5 u1 o1 r k1 tk1 cp1 I oI h tk hi hk1 hk2 hR hP hl F N off
      have hkk : k1 < 100 := by omega
      have hkk0 : 0 ≤ k1 := by omega
      simp only [Off1, and_true] at off
      repeat (have _ := And.left off; replace off := And.right off)
      have hl64 : r.length < 64 := by omega
      k_sweep
      rename_i zc0 zc1 zc2 zc3 zc4 zc5 zc6 zc7 zc8 zc9 zc10 zc11 zc12 zc13 zc14 zc15 zc16 zc17 zc18 zc19 zc20 zc21 zc22 zc23 zc24 zc25 zc26 zc27 zc28 zc29 zc30 zc31 zc32 zc33 zc34 zc35 zc36 zc37 zc38 zc39 zc40 zc41 zc42 zc43 zc44 zc45 zc46 zc47 zc48 zc49 zc50 zc51 zc52 zc53 zc54 zc55 zc56 zc57 zc58 zc59 zc60 zc61 zc62 zc63 zc64 zc65 zc66 zc67 zc68 zc69 zc70 zc71 zc72 zc73 zc74 zc75 zc76 zc77 zc78 zc79 zc80 zc81 zc82 zc83 zc84 zc85 zc86 zc87 zc88 zc89 zc90 zc91 zc92 zc93 zc94 zc95 zc96 zc97 zc98 zc99 zc100 zc101 zc102 zc103 zc104 zc105 zc106 zc107 zc108 zc109 zc110 zc111 zc112 zc113 zc114 zc115 zc116 zc117 zc118 zc119 zc120 zc121 zc122 zc123 zc124
      revert hl64; revert off; revert zc124; revert zc123; revert zc122; revert zc121; revert zc120; revert zc119; revert zc118; revert zc117; revert zc116; revert zc115; revert zc114; revert hkk0; revert hkk; revert N; revert F; revert hl; revert hP; revert hR; revert hk2; revert hk1; revert hi; revert zc113; revert N1; revert F1; revert hr1; revert zc107; revert zc106; revert zc105; revert zc104; revert zc96; revert zc95; revert zc94; revert zc93; revert zc92; revert zc91; revert zc84; revert zc83; revert zc76; revert zc70; revert zc69; revert zc62; revert zc47; revert zc33; revert zc19; revert zc5; revert K; revert zb54; revert zb50; revert zb48; revert zb45; revert zb44; revert zb43; revert zb42; revert zb40; revert zb39; revert zb38; revert zb37; revert zb27; revert zb24; revert l2; revert z2'; revert z2; revert hi2; revert d2; revert l3; revert zb21; revert zb18; revert zb17; revert zb16; revert zb15; revert lifted; revert zb11; revert zb10; revert zb7; revert zb6; revert zb5; revert zb4; revert ho; revert T; revert X; revert ret; revert hT0; revert hB0; revert hA0; revert hz0; revert hI0; revert hLs; revert l0; revert cH2; revert cH1; revert B
      exact hPc zc4 zc18 zc32 zc46 zc59 zc60 zc63 zc66 zc71 zc72 zc74 zc77 zc85 zc86 zc88 zc90 zc98 zc100 zc101 zc102 zc103 zc108 zc109 zc110 zc111 zc112 i t5 u1 o1 r k1 tk1 cp1 I oI h tk
    · intro u1 o1 r k1 tk1 cp1 h tk hk1 hk2 hR hP hl F N
      have hkk : k1 < 100 := by omega
      have hkk0 : 0 ≤ k1 := by omega
      k_sweep
      rename_i zd0 zd1 zd2 zd3 zd4 zd5 zd6 zd7 zd8 zd9 zd10 zd11 zd12 zd13 zd14 zd15 zd16 zd17 zd18 zd19 zd20 zd21 zd22 zd23 zd24 zd25 zd26 zd27 zd28 zd29 zd30 zd31 zd32 zd33 zd34 zd35 zd36 zd37 zd38 zd39 zd40 zd41 zd42 zd43 zd44 zd45 zd46 zd47 zd48 zd49 zd50 zd51 zd52 zd53 zd54 zd55 zd56 zd57 zd58 zd59 zd60 zd61 zd62 zd63 zd64 zd65 zd66 zd67 zd68 zd69 zd70 zd71 zd72 zd73 zd74 zd75 zd76 zd77 zd78 zd79 zd80 zd81 zd82 zd83 zd84 zd85 zd86 zd87 zd88 zd89 zd90 zd91 zd92 zd93 zd94 zd95 zd96 zd97 zd98 zd99 zd100 zd101 zd102 zd103 zd104 zd105 zd106 zd107 zd108 zd109 zd110 zd111 zd112 zd113
      revert hkk0; revert hkk; revert N; revert F; revert hl; revert hP; revert hR; revert hk2; revert hk1; revert zd113; revert N1; revert F1; revert hr1; revert zd107; revert zd106; revert zd105; revert zd104; revert zd96; revert zd95; revert zd94; revert zd93; revert zd92; revert zd91; revert zd84; revert zd83; revert zd76; revert zd70; revert zd69; revert zd62; revert zd47; revert zd33; revert zd19; revert zd5; revert K; revert zb54; revert zb50; revert zb48; revert zb45; revert zb44; revert zb43; revert zb42; revert zb40; revert zb39; revert zb38; revert zb37; revert zb27; revert zb24; revert l2; revert z2'; revert z2; revert hi2; revert d2; revert l3; revert zb21; revert zb18; revert zb17; revert zb16; revert zb15; revert lifted; revert zb11; revert zb10; revert zb7; revert zb6; revert zb5; revert zb4; revert ho; revert T; revert X; revert ret; revert hT0; revert hB0; revert hA0; revert hz0; revert hI0; revert hLs; revert l0; revert cH2; revert cH1; revert B
      exact hPd zd4 zd18 zd32 zd46 zd59 zd60 zd63 zd66 zd71 zd72 zd74 zd77 zd85 zd86 zd88 zd90 zd98 zd100 zd101 zd102 zd103 zd108 zd109 zd110 zd111 zd112 u1 o1 r k1 tk1 cp1 h tk
noncomputable def walk_c_c_v : (Obj) × (Obj) × (Obj) × (Obj) × (Nat) × (Addr) × (Int) × (Nat) × (Mode) × (Tok) × (Addr) × (Int) × (Int) × (Tok) × (Addr) × (Obj) × (Int) × (Heap) × (Nat) × (Tok) × (Nat) × (Heap) × (Nat) × (Tok) × (Tok) × (Tok) × (Nat) × (Tok) × (Option Value) × (Obj) × (RowsT) × (Int) × (Tok) × (Nat) × (Addr) × (Obj) × (Heap) × (Nat) := @Classical.epsilon _ ⟨(default, default, default, default, 0, 0, 0, 0, .inp, 0, 0, 0, 0, 0, 0, default, 0, {}, 0, 0, 0, {}, 0, 0, 0, 0, 0, 0, none, default, [], 0, 0, 0, 0, default, {}, 0)⟩ fun v => ¬ walk_c_pre.1 v.1 v.2.1 v.2.2.1 v.2.2.2.1 v.2.2.2.2.1 v.2.2.2.2.2.1 v.2.2.2.2.2.2.1 v.2.2.2.2.2.2.2.1 v.2.2.2.2.2.2.2.2.1 v.2.2.2.2.2.2.2.2.2.1 v.2.2.2.2.2.2.2.2.2.2.1 v.2.2.2.2.2.2.2.2.2.2.2.1 v.2.2.2.2.2.2.2.2.2.2.2.2.1 v.2.2.2.2.2.2.2.2.2.2.2.2.2.1 v.2.2.2.2.2.2.2.2.2.2.2.2.2.2.1 v.2.2.2.2.2.2.2.2.2.2.2.2.2.2.2.1 v.2.2.2.2.2.2.2.2.2.2.2.2.2.2.2.2.1 v.2.2.2.2.2.2.2.2.2.2.2.2.2.2.2.2.2.1 v.2.2.2.2.2.2.2.2.2.2.2.2.2.2.2.2.2.2.1 v.2.2.2.2.2.2.2.2.2.2.2.2.2.2.2.2.2.2.2.1 v.2.2.2.2.2.2.2.2.2.2.2.2.2.2.2.2.2.2.2.2.1 v.2.2.2.2.2.2.2.2.2.2.2.2.2.2.2.2.2.2.2.2.2.1 v.2.2.2.2.2.2.2.2.2.2.2.2.2.2.2.2.2.2.2.2.2.2.1 v.2.2.2.2.2.2.2.2.2.2.2.2.2.2.2.2.2.2.2.2.2.2.2.1 v.2.2.2.2.2.2.2.2.2.2.2.2.2.2.2.2.2.2.2.2.2.2.2.2.1 v.2.2.2.2.2.2.2.2.2.2.2.2.2.2.2.2.2.2.2.2.2.2.2.2.2.1 v.2.2.2.2.2.2.2.2.2.2.2.2.2.2.2.2.2.2.2.2.2.2.2.2.2.2.1 v.2.2.2.2.2.2.2.2.2.2.2.2.2.2.2.2.2.2.2.2.2.2.2.2.2.2.2.1 v.2.2.2.2.2.2.2.2.2.2.2.2.2.2.2.2.2.2.2.2.2.2.2.2.2.2.2.2.1 v.2.2.2.2.2.2.2.2.2.2.2.2.2.2.2.2.2.2.2.2.2.2.2.2.2.2.2.2.2.1 v.2.2.2.2.2.2.2.2.2.2.2.2.2.2.2.2.2.2.2.2.2.2.2.2.2.2.2.2.2.2.1 v.2.2.2.2.2.2.2.2.2.2.2.2.2.2.2.2.2.2.2.2.2.2.2.2.2.2.2.2.2.2.2.1 v.2.2.2.2.2.2.2.2.2.2.2.2.2.2.2.2.2.2.2.2.2.2.2.2.2.2.2.2.2.2.2.2.1 v.2.2.2.2.2.2.2.2.2.2.2.2.2.2.2.2.2.2.2.2.2.2.2.2.2.2.2.2.2.2.2.2.2.1 v.2.2.2.2.2.2.2.2.2.2.2.2.2.2.2.2.2.2.2.2.2.2.2.2.2.2.2.2.2.2.2.2.2.2.1 v.2.2.2.2.2.2.2.2.2.2.2.2.2.2.2.2.2.2.2.2.2.2.2.2.2.2.2.2.2.2.2.2.2.2.2.1 v.2.2.2.2.2.2.2.2.2.2.2.2.2.2.2.2.2.2.2.2.2.2.2.2.2.2.2.2.2.2.2.2.2.2.2.2.1 v.2.2.2.2.2.2.2.2.2.2.2.2.2.2.2.2.2.2.2.2.2.2.2.2.2.2.2.2.2.2.2.2.2.2.2.2.2
namespace walk_c_c
noncomputable def zc4 : Obj := walk_c_c_v.1
noncomputable def zc18 : Obj := walk_c_c_v.2.1
noncomputable def zc32 : Obj := walk_c_c_v.2.2.1
noncomputable def zc46 : Obj := walk_c_c_v.2.2.2.1
noncomputable def zc59 : Nat := walk_c_c_v.2.2.2.2.1
noncomputable def zc60 : Addr := walk_c_c_v.2.2.2.2.2.1
noncomputable def zc63 : Int := walk_c_c_v.2.2.2.2.2.2.1
noncomputable def zc66 : Nat := walk_c_c_v.2.2.2.2.2.2.2.1
noncomputable def zc71 : Mode := walk_c_c_v.2.2.2.2.2.2.2.2.1
noncomputable def zc72 : Tok := walk_c_c_v.2.2.2.2.2.2.2.2.2.1
noncomputable def zc74 : Addr := walk_c_c_v.2.2.2.2.2.2.2.2.2.2.1
noncomputable def zc77 : Int := walk_c_c_v.2.2.2.2.2.2.2.2.2.2.2.1
noncomputable def zc85 : Int := walk_c_c_v.2.2.2.2.2.2.2.2.2.2.2.2.1
noncomputable def zc86 : Tok := walk_c_c_v.2.2.2.2.2.2.2.2.2.2.2.2.2.1
noncomputable def zc88 : Addr := walk_c_c_v.2.2.2.2.2.2.2.2.2.2.2.2.2.2.1
noncomputable def zc90 : Obj := walk_c_c_v.2.2.2.2.2.2.2.2.2.2.2.2.2.2.2.1
noncomputable def zc98 : Int := walk_c_c_v.2.2.2.2.2.2.2.2.2.2.2.2.2.2.2.2.1
noncomputable def zc100 : Heap := walk_c_c_v.2.2.2.2.2.2.2.2.2.2.2.2.2.2.2.2.2.1
noncomputable def zc101 : Nat := walk_c_c_v.2.2.2.2.2.2.2.2.2.2.2.2.2.2.2.2.2.2.1
noncomputable def zc102 : Tok := walk_c_c_v.2.2.2.2.2.2.2.2.2.2.2.2.2.2.2.2.2.2.2.1
noncomputable def zc103 : Nat := walk_c_c_v.2.2.2.2.2.2.2.2.2.2.2.2.2.2.2.2.2.2.2.2.1
noncomputable def zc108 : Heap := walk_c_c_v.2.2.2.2.2.2.2.2.2.2.2.2.2.2.2.2.2.2.2.2.2.1
noncomputable def zc109 : Nat := walk_c_c_v.2.2.2.2.2.2.2.2.2.2.2.2.2.2.2.2.2.2.2.2.2.2.1
noncomputable def zc110 : Tok := walk_c_c_v.2.2.2.2.2.2.2.2.2.2.2.2.2.2.2.2.2.2.2.2.2.2.2.1
noncomputable def zc111 : Tok := walk_c_c_v.2.2.2.2.2.2.2.2.2.2.2.2.2.2.2.2.2.2.2.2.2.2.2.2.1
noncomputable def zc112 : Tok := walk_c_c_v.2.2.2.2.2.2.2.2.2.2.2.2.2.2.2.2.2.2.2.2.2.2.2.2.2.1
noncomputable def i : Nat := walk_c_c_v.2.2.2.2.2.2.2.2.2.2.2.2.2.2.2.2.2.2.2.2.2.2.2.2.2.2.1
noncomputable def t5 : Tok := walk_c_c_v.2.2.2.2.2.2.2.2.2.2.2.2.2.2.2.2.2.2.2.2.2.2.2.2.2.2.2.1
noncomputable def u1 : Option Value := walk_c_c_v.2.2.2.2.2.2.2.2.2.2.2.2.2.2.2.2.2.2.2.2.2.2.2.2.2.2.2.2.1
noncomputable def o1 : Obj := walk_c_c_v.2.2.2.2.2.2.2.2.2.2.2.2.2.2.2.2.2.2.2.2.2.2.2.2.2.2.2.2.2.1
noncomputable def r : RowsT := walk_c_c_v.2.2.2.2.2.2.2.2.2.2.2.2.2.2.2.2.2.2.2.2.2.2.2.2.2.2.2.2.2.2.1
noncomputable def k1 : Int := walk_c_c_v.2.2.2.2.2.2.2.2.2.2.2.2.2.2.2.2.2.2.2.2.2.2.2.2.2.2.2.2.2.2.2.1
noncomputable def tk1 : Tok := walk_c_c_v.2.2.2.2.2.2.2.2.2.2.2.2.2.2.2.2.2.2.2.2.2.2.2.2.2.2.2.2.2.2.2.2.1
noncomputable def cp1 : Nat := walk_c_c_v.2.2.2.2.2.2.2.2.2.2.2.2.2.2.2.2.2.2.2.2.2.2.2.2.2.2.2.2.2.2.2.2.2.1
noncomputable def I : Addr := walk_c_c_v.2.2.2.2.2.2.2.2.2.2.2.2.2.2.2.2.2.2.2.2.2.2.2.2.2.2.2.2.2.2.2.2.2.2.1
noncomputable def oI : Obj := walk_c_c_v.2.2.2.2.2.2.2.2.2.2.2.2.2.2.2.2.2.2.2.2.2.2.2.2.2.2.2.2.2.2.2.2.2.2.2.1
noncomputable def h : Heap := walk_c_c_v.2.2.2.2.2.2.2.2.2.2.2.2.2.2.2.2.2.2.2.2.2.2.2.2.2.2.2.2.2.2.2.2.2.2.2.2.1
noncomputable def tk : Nat := walk_c_c_v.2.2.2.2.2.2.2.2.2.2.2.2.2.2.2.2.2.2.2.2.2.2.2.2.2.2.2.2.2.2.2.2.2.2.2.2.2
set_option maxHeartbeats 8000000 in
theorem walk : walk_c_pre.1 zc4 zc18 zc32 zc46 zc59 zc60 zc63 zc66 zc71 zc72 zc74 zc77 zc85 zc86 zc88 zc90 zc98 zc100 zc101 zc102 zc103 zc108 zc109 zc110 zc111 zc112 i t5 u1 o1 r k1 tk1 cp1 I oI h tk := by
  delta walk_c_pre
  dsimp only
  intro B cH1 cH2 l0 hLs hI0 hz0 hA0 hB0 hT0 ret X T ho zb4 zb5 zb6 zb7 zb10 zb11 lifted zb15 zb16 zb17 zb18 zb21 l3 d2 hi2 z2 z2' l2 zb24 zb27 zb37 zb38 zb39 zb40 zb42 zb43 zb44 zb45 zb48 zb50 zb54 K zc5 zc19 zc33 zc47 zc62 zc69 zc70 zc76 zc83 zc84 zc91 zc92 zc93 zc94 zc95 zc96 zc104 zc105 zc106 zc107 hr1 F1 N1 zc113 hi hk1 hk2 hR hP hl F N hkk hkk0 zc114 zc115 zc116 zc117 zc118 zc119 zc120 zc121 zc122 zc123 zc124 off hl64
  k_steps
  rename_i hr5 F5 N5 _
  refine cs_octets rfl hr5 (by omega) (by omega) F5 N5 ?_ ?_
  · intro i2 t6 k6 tk6 cp6 ys I2 oI2 C2 oC2 D6 m2 h6 tk6' E' hi6 hk6 hC hx F6 N6 off6 ne6
    simp only [Off3, and_true] at off6
    repeat (have _ := off6.1.1; have _ := off6.1.2.1; have _ := off6.1.2.2; replace off6 := And.right off6)
    have _ := off6.1; have _ := off6.2.1; have _ := off6.2.2; clear off6
    have _ := ne6.1; have _ := ne6.2.1; have _ := ne6.2.2; clear ne6
    k_steps
    rename_i r7 t7 h7 _ tp7 cp7 lo7 hi7 F7 N7
    exact TEndS.intro [] (k6 + 1, tp7, cp7) F7 N7 (fun _ hp => hp) own_nil ⟨rfl, rfl, r7, t7, rfl, lo7, hi7⟩
  · intro g6 ys k6 tk6 cp6 zs hk6 hz1 hz2 hyl
    unfold FinE
    intro D6 h6 tk6' F6 N6 off6
    simp only [Off1, and_true] at off6
    repeat (have _ := And.left off6; replace off6 := And.right off6)
    k_steps
    rename_i r8 t8 _ _ tp8 cp8 lo8 hi8 _ o8 F8 N8 R8
    refine FEnd.intro [] (o8, k6 + 1, tp8, cp8) F8 N8 (by walk_at "S sub") own_nil ⟨rfl, by dsimp only; omega, by dsimp only; push_cast; omega, ⟨_, R8, hP.put (by omega), rputs_len hl⟩, by walk_at "S frb"⟩
end walk_c_c
noncomputable def walk_c_d_v : (Obj) × (Obj) × (Obj) × (Obj) × (Nat) × (Addr) × (Int) × (Nat) × (Mode) × (Tok) × (Addr) × (Int) × (Int) × (Tok) × (Addr) × (Obj) × (Int) × (Heap) × (Nat) × (Tok) × (Nat) × (Heap) × (Nat) × (Tok) × (Tok) × (Tok) × (Option Value) × (Obj) × (RowsT) × (Int) × (Tok) × (Nat) × (Heap) × (Nat) := @Classical.epsilon _ ⟨(default, default, default, default, 0, 0, 0, 0, .inp, 0, 0, 0, 0, 0, 0, default, 0, {}, 0, 0, 0, {}, 0, 0, 0, 0, none, default, [], 0, 0, 0, {}, 0)⟩ fun v => ¬ walk_c_pre.2.1 v.1 v.2.1 v.2.2.1 v.2.2.2.1 v.2.2.2.2.1 v.2.2.2.2.2.1 v.2.2.2.2.2.2.1 v.2.2.2.2.2.2.2.1 v.2.2.2.2.2.2.2.2.1 v.2.2.2.2.2.2.2.2.2.1 v.2.2.2.2.2.2.2.2.2.2.1 v.2.2.2.2.2.2.2.2.2.2.2.1 v.2.2.2.2.2.2.2.2.2.2.2.2.1 v.2.2.2.2.2.2.2.2.2.2.2.2.2.1 v.2.2.2.2.2.2.2.2.2.2.2.2.2.2.1 v.2.2.2.2.2.2.2.2.2.2.2.2.2.2.2.1 v.2.2.2.2.2.2.2.2.2.2.2.2.2.2.2.2.1 v.2.2.2.2.2.2.2.2.2.2.2.2.2.2.2.2.2.1 v.2.2.2.2.2.2.2.2.2.2.2.2.2.2.2.2.2.2.1 v.2.2.2.2.2.2.2.2.2.2.2.2.2.2.2.2.2.2.2.1 v.2.2.2.2.2.2.2.2.2.2.2.2.2.2.2.2.2.2.2.2.1 v.2.2.2.2.2.2.2.2.2.2.2.2.2.2.2.2.2.2.2.2.2.1 v.2.2.2.2.2.2.2.2.2.2.2.2.2.2.2.2.2.2.2.2.2.2.1 v.2.2.2.2.2.2.2.2.2.2.2.2.2.2.2.2.2.2.2.2.2.2.2.1 v.2.2.2.2.2.2.2.2.2.2.2.2.2.2.2.2.2.2.2.2.2.2.2.2.1 v.2.2.2.2.2.2.2.2.2.2.2.2.2.2.2.2.2.2.2.2.2.2.2.2.2.1 v.2.2.2.2.2.2.2.2.2.2.2.2.2.2.2.2.2.2.2.2.2.2.2.2.2.2.1 v.2.2.2.2.2.2.2.2.2.2.2.2.2.2.2.2.2.2.2.2.2.2.2.2.2.2.2.1 v.2.2.2.2.2.2.2.2.2.2.2.2.2.2.2.2.2.2.2.2.2.2.2.2.2.2.2.2.1 v.2.2.2.2.2.2.2.2.2.2.2.2.2.2.2.2.2.2.2.2.2.2.2.2.2.2.2.2.2.1 v.2.2.2.2.2.2.2.2.2.2.2.2.2.2.2.2.2.2.2.2.2.2.2.2.2.2.2.2.2.2.1 v.2.2.2.2.2.2.2.2.2.2.2.2.2.2.2.2.2.2.2.2.2.2.2.2.2.2.2.2.2.2.2.1 v.2.2.2.2.2.2.2.2.2.2.2.2.2.2.2.2.2.2.2.2.2.2.2.2.2.2.2.2.2.2.2.2.1 v.2.2.2.2.2.2.2.2.2.2.2.2.2.2.2.2.2.2.2.2.2.2.2.2.2.2.2.2.2.2.2.2.2
namespace walk_c_d
noncomputable def zd4 : Obj := walk_c_d_v.1
noncomputable def zd18 : Obj := walk_c_d_v.2.1
noncomputable def zd32 : Obj := walk_c_d_v.2.2.1
noncomputable def zd46 : Obj := walk_c_d_v.2.2.2.1
noncomputable def zd59 : Nat := walk_c_d_v.2.2.2.2.1
noncomputable def zd60 : Addr := walk_c_d_v.2.2.2.2.2.1
noncomputable def zd63 : Int := walk_c_d_v.2.2.2.2.2.2.1
noncomputable def zd66 : Nat := walk_c_d_v.2.2.2.2.2.2.2.1
noncomputable def zd71 : Mode := walk_c_d_v.2.2.2.2.2.2.2.2.1
noncomputable def zd72 : Tok := walk_c_d_v.2.2.2.2.2.2.2.2.2.1
noncomputable def zd74 : Addr := walk_c_d_v.2.2.2.2.2.2.2.2.2.2.1
noncomputable def zd77 : Int := walk_c_d_v.2.2.2.2.2.2.2.2.2.2.2.1
noncomputable def zd85 : Int := walk_c_d_v.2.2.2.2.2.2.2.2.2.2.2.2.1
noncomputable def zd86 : Tok := walk_c_d_v.2.2.2.2.2.2.2.2.2.2.2.2.2.1
noncomputable def zd88 : Addr := walk_c_d_v.2.2.2.2.2.2.2.2.2.2.2.2.2.2.1
noncomputable def zd90 : Obj := walk_c_d_v.2.2.2.2.2.2.2.2.2.2.2.2.2.2.2.1
noncomputable def zd98 : Int := walk_c_d_v.2.2.2.2.2.2.2.2.2.2.2.2.2.2.2.2.1
noncomputable def zd100 : Heap := walk_c_d_v.2.2.2.2.2.2.2.2.2.2.2.2.2.2.2.2.2.1
noncomputable def zd101 : Nat := walk_c_d_v.2.2.2.2.2.2.2.2.2.2.2.2.2.2.2.2.2.2.1
noncomputable def zd102 : Tok := walk_c_d_v.2.2.2.2.2.2.2.2.2.2.2.2.2.2.2.2.2.2.2.1
noncomputable def zd103 : Nat := walk_c_d_v.2.2.2.2.2.2.2.2.2.2.2.2.2.2.2.2.2.2.2.2.1
noncomputable def zd108 : Heap := walk_c_d_v.2.2.2.2.2.2.2.2.2.2.2.2.2.2.2.2.2.2.2.2.2.1
noncomputable def zd109 : Nat := walk_c_d_v.2.2.2.2.2.2.2.2.2.2.2.2.2.2.2.2.2.2.2.2.2.2.1
noncomputable def zd110 : Tok := walk_c_d_v.2.2.2.2.2.2.2.2.2.2.2.2.2.2.2.2.2.2.2.2.2.2.2.1
noncomputable def zd111 : Tok := walk_c_d_v.2.2.2.2.2.2.2.2.2.2.2.2.2.2.2.2.2.2.2.2.2.2.2.2.1
noncomputable def zd112 : Tok := walk_c_d_v.2.2.2.2.2.2.2.2.2.2.2.2.2.2.2.2.2.2.2.2.2.2.2.2.2.1
noncomputable def u1 : Option Value := walk_c_d_v.2.2.2.2.2.2.2.2.2.2.2.2.2.2.2.2.2.2.2.2.2.2.2.2.2.2.1
noncomputable def o1 : Obj := walk_c_d_v.2.2.2.2.2.2.2.2.2.2.2.2.2.2.2.2.2.2.2.2.2.2.2.2.2.2.2.1
noncomputable def r : RowsT := walk_c_d_v.2.2.2.2.2.2.2.2.2.2.2.2.2.2.2.2.2.2.2.2.2.2.2.2.2.2.2.2.1
noncomputable def k1 : Int := walk_c_d_v.2.2.2.2.2.2.2.2.2.2.2.2.2.2.2.2.2.2.2.2.2.2.2.2.2.2.2.2.2.1
noncomputable def tk1 : Tok := walk_c_d_v.2.2.2.2.2.2.2.2.2.2.2.2.2.2.2.2.2.2.2.2.2.2.2.2.2.2.2.2.2.2.1
noncomputable def cp1 : Nat := walk_c_d_v.2.2.2.2.2.2.2.2.2.2.2.2.2.2.2.2.2.2.2.2.2.2.2.2.2.2.2.2.2.2.2.1
noncomputable def h : Heap := walk_c_d_v.2.2.2.2.2.2.2.2.2.2.2.2.2.2.2.2.2.2.2.2.2.2.2.2.2.2.2.2.2.2.2.2.1
noncomputable def tk : Nat := walk_c_d_v.2.2.2.2.2.2.2.2.2.2.2.2.2.2.2.2.2.2.2.2.2.2.2.2.2.2.2.2.2.2.2.2.2
set_option maxHeartbeats 8000000 in
noncomputable def walk_e_pre : (Pe : (Int) → (Heap) → (Nat) → (Tok) → (Nat) → (Heap) → (Nat) → (Tok) → (Tok) → (Tok) → (Nat) → (Tok) → (Int) → (Tok) → (Nat) → (List Value) → (List (Addr × Obj)) → (Addr) → (Obj) → (Addr) → (Obj) → (Addr) → (Str → Option Value) → (Heap) → (Nat) → (Value → Shared → Prop) → Prop) ×' (Pf : (Int) → (Heap) → (Nat) → (Tok) → (Nat) → (Heap) → (Nat) → (Tok) → (Tok) → (Tok) → (Heap) → (List Value) → (Int) → (Tok) → (Nat) → (List Deed) → (List (Addr × Obj)) → (Addr) → (Heap) → (Nat) → Prop) ×' ((∀ ze0 ze2 ze3 ze4 ze5 ze10 ze11 ze12 ze13 ze14 i t6 k6 tk6 cp6 ys tail I oI C oC D6 m2 h6 tk6' E', Pe ze0 ze2 ze3 ze4 ze5 ze10 ze11 ze12 ze13 ze14 i t6 k6 tk6 cp6 ys tail I oI C oC D6 m2 h6 tk6' E') → (∀ zf0 zf2 zf3 zf4 zf5 zf10 zf11 zf12 zf13 zf14 g6 ys k6 tk6 cp6 ds tail D6 h6 tk6', Pf zf0 zf2 zf3 zf4 zf5 zf10 zf11 zf12 zf13 zf14 g6 ys k6 tk6 cp6 ds tail D6 h6 tk6') → (walk_c_pre.2.1 zd4 zd18 zd32 zd46 zd59 zd60 zd63 zd66 zd71 zd72 zd74 zd77 zd85 zd86 zd88 zd90 zd98 zd100 zd101 zd102 zd103 zd108 zd109 zd110 zd111 zd112 u1 o1 r k1 tk1 cp1 h tk)) := by
  refine' ⟨_, _, fun hPe hPf => ?_⟩
  rotate_left 2
  · skip
    delta walk_c_pre
    dsimp only
    intro B cH1 cH2 l0 hLs hI0 hz0 hA0 hB0 hT0 ret X T ho zb4 zb5 zb6 zb7 zb10 zb11 lifted zb15 zb16 zb17 zb18 zb21 l3 d2 hi2 z2 z2' l2 zb24 zb27 zb37 zb38 zb39 zb40 zb42 zb43 zb44 zb45 zb48 zb50 zb54 K zd5 zd19 zd33 zd47 zd62 zd69 zd70 zd76 zd83 zd84 zd91 zd92 zd93 zd94 zd95 zd96 zd104 zd105 zd106 zd107 hr1 F1 N1 zd113 hk1 hk2 hR hP hl F N hkk hkk0
    k_steps
    rename_i hr5 F5 N5 _
    refine cs_deeds rfl hr5 (by omega) (by omega) F5 N5 ?_ ?_
    · intro i t6 k6 tk6 cp6 ys tail I oI C oC D6 m2 h6 tk6' E' hi6 hk6 hk6' hC hx F6 N6 off6 own6 ne6
      have hkk6 : k6 < 390 := by omega
      have hkk60 : 0 ≤ k6 := by omega
      simp only [Off3, and_true] at off6
      repeat (have _ := off6.1.1; have _ := off6.1.2.1; have _ := off6.1.2.2; replace off6 := And.right off6)
      have _ := off6.1; have _ := off6.2.1; have _ := off6.2.2; clear off6
      have _ := ne6.1; have _ := ne6.2.1; have _ := ne6.2.2; clear ne6
      simp only [adr2, List.map_cons, List.map_nil] at own6
      simp only [List.cons_append, List.nil_append] at N6
      k_sweep
      rename_i ze0 ze1 ze2 ze3 ze4 ze5 ze6 ze7 ze8 ze9 ze10 ze11 ze12 ze13 ze14 ze15 ze16 ze17 ze18 ze19 ze20 ze21 ze22 ze23 ze24 ze25 ze26 ze27 ze28 ze29 ze30 ze31 ze32 ze33 ze34 ze35 ze36 ze37 ze38 ze39 ze40 ze41 ze42 ze43 ze44 ze45 ze46 ze47 ze48 ze49 ze50 ze51 ze52 ze53 ze54
      revert own6; revert ze54; revert ze53; revert ze52; revert ze51; revert ze50; revert ze49; revert ze48; revert ze47; revert ze46; revert ze45; revert ze44; revert ze43; revert ze42; revert ze41; revert ze40; revert ze39; revert ze38; revert ze37; revert ze36; revert ze35; revert ze34; revert ze33; revert ze32; revert ze31; revert ze30; revert ze29; revert ze28; revert ze27; revert ze26; revert ze25; revert ze24; revert ze23; revert ze22; revert ze21; revert ze20; revert ze19; revert ze18; revert ze17; revert ze16; revert hkk60; revert hkk6; revert N6; revert F6; revert hx; revert hC; revert hk6'; revert hk6; revert hi6; revert ze15; revert N5; revert F5; revert hr5; revert ze9; revert ze8; revert ze7; revert ze6; revert hkk0; revert hkk; revert hl; revert hP; revert hR; revert hk2; revert hk1; revert zd113; revert hr1; revert zd105; revert zd104; revert zd96; revert zd95; revert zd94; revert zd93; revert zd92; revert zd91; revert zd84; revert zd83; revert zd76; revert zd70; revert zd69; revert zd62; revert zd47; revert zd33; revert zd19; revert zd5; revert K; revert zb54; revert zb50; revert zb48; revert zb45; revert zb44; revert zb43; revert zb42; revert zb40; revert zb39; revert zb38; revert zb37; revert zb27; revert zb24; revert l2; revert z2'; revert z2; revert hi2; revert d2; revert l3; revert zb21; revert zb18; revert zb17; revert zb16; revert zb15; revert lifted; revert zb11; revert zb10; revert zb7; revert zb6; revert zb5; revert zb4; revert ho; revert T; revert X; revert ret; revert hT0; revert hB0; revert hA0; revert hz0; revert hI0; revert hLs; revert l0; revert cH2; revert cH1; revert B
      exact hPe ze0 ze2 ze3 ze4 ze5 ze10 ze11 ze12 ze13 ze14 i t6 k6 tk6 cp6 ys tail I oI C oC D6 m2 h6 tk6' E'
    · intro g6 ys k6 tk6 cp6 ds tail hk6 hk6' hds hdl own6
      unfold FinA
      intro D6 h6 tk6' F6 N6 off6
      have own7 := own_off1b off6 own6
      simp only [Off1, List.cons_append, List.nil_append] at off6
      repeat (have _ := And.left off6; replace off6 := And.right off6)
      clear off6
      simp only [adr2, List.map_cons, List.map_nil] at own7
      simp only [List.cons_append, List.nil_append] at N6
      have hyl := hds.length
      have hkk6 : k6 < 200 := by omega
      have hkk60 : 0 ≤ k6 := by omega
      k_sweep
      rename_i zf0 zf1 zf2 zf3 zf4 zf5 zf6 zf7 zf8 zf9 zf10 zf11 zf12 zf13 zf14 zf15 zf16 zf17 zf18 zf19 zf20 zf21 zf22 zf23 zf24 zf25 zf26 zf27
      revert hkk60; revert hkk6; revert hyl; revert own7; revert zf27; revert zf26; revert zf25; revert zf24; revert zf23; revert zf22; revert zf21; revert zf20; revert zf19; revert zf18; revert zf17; revert zf16; revert N6; revert F6; revert own6; revert hdl; revert hds; revert hk6'; revert hk6; revert zf15; revert N5; revert F5; revert hr5; revert zf9; revert zf8; revert zf7; revert zf6; revert hkk0; revert hkk; revert hl; revert hP; revert hR; revert hk2; revert hk1; revert zd113; revert hr1; revert zd105; revert zd104; revert zd96; revert zd95; revert zd94; revert zd93; revert zd92; revert zd91; revert zd84; revert zd83; revert zd76; revert zd70; revert zd69; revert zd62; revert zd47; revert zd33; revert zd19; revert zd5; revert K; revert zb54; revert zb50; revert zb48; revert zb45; revert zb44; revert zb43; revert zb42; revert zb40; revert zb39; revert zb38; revert zb37; revert zb27; revert zb24; revert l2; revert z2'; revert z2; revert hi2; revert d2; revert l3; revert zb21; revert zb18; revert zb17; revert zb16; revert zb15; revert lifted; revert zb11; revert zb10; revert zb7; revert zb6; revert zb5; revert zb4; revert ho; revert T; revert X; revert ret; revert hT0; revert hB0; revert hA0; revert hz0; revert hI0; revert hLs; revert l0; revert cH2; revert cH1; revert B
      exact hPf zf0 zf2 zf3 zf4 zf5 zf10 zf11 zf12 zf13 zf14 g6 ys k6 tk6 cp6 ds tail D6 h6 tk6'
noncomputable def walk_e_e_v : (Int) × (Heap) × (Nat) × (Tok) × (Nat) × (Heap) × (Nat) × (Tok) × (Tok) × (Tok) × (Nat) × (Tok) × (Int) × (Tok) × (Nat) × (List Value) × (List (Addr × Obj)) × (Addr) × (Obj) × (Addr) × (Obj) × (Addr) × (Str → Option Value) × (Heap) × (Nat) × (Value → Shared → Prop) := @Classical.epsilon _ ⟨(0, {}, 0, 0, 0, {}, 0, 0, 0, 0, 0, 0, 0, 0, 0, [], [], 0, default, 0, default, 0, (fun _ => none), {}, 0, (fun _ => (fun _ => True)))⟩ fun v => ¬ walk_e_pre.1 v.1 v.2.1 v.2.2.1 v.2.2.2.1 v.2.2.2.2.1 v.2.2.2.2.2.1 v.2.2.2.2.2.2.1 v.2.2.2.2.2.2.2.1 v.2.2.2.2.2.2.2.2.1 v.2.2.2.2.2.2.2.2.2.1 v.2.2.2.2.2.2.2.2.2.2.1 v.2.2.2.2.2.2.2.2.2.2.2.1 v.2.2.2.2.2.2.2.2.2.2.2.2.1 v.2.2.2.2.2.2.2.2.2.2.2.2.2.1 v.2.2.2.2.2.2.2.2.2.2.2.2.2.2.1 v.2.2.2.2.2.2.2.2.2.2.2.2.2.2.2.1 v.2.2.2.2.2.2.2.2.2.2.2.2.2.2.2.2.1 v.2.2.2.2.2.2.2.2.2.2.2.2.2.2.2.2.2.1 v.2.2.2.2.2.2.2.2.2.2.2.2.2.2.2.2.2.2.1 v.2.2.2.2.2.2.2.2.2.2.2.2.2.2.2.2.2.2.2.1 v.2.2.2.2.2.2.2.2.2.2.2.2.2.2.2.2.2.2.2.2.1 v.2.2.2.2.2.2.2.2.2.2.2.2.2.2.2.2.2.2.2.2.2.1 v.2.2.2.2.2.2.2.2.2.2.2.2.2.2.2.2.2.2.2.2.2.2.1 v.2.2.2.2.2.2.2.2.2.2.2.2.2.2.2.2.2.2.2.2.2.2.2.1 v.2.2.2.2.2.2.2.2.2.2.2.2.2.2.2.2.2.2.2.2.2.2.2.2.1 v.2.2.2.2.2.2.2.2.2.2.2.2.2.2.2.2.2.2.2.2.2.2.2.2.2
namespace walk_e_e
noncomputable def ze0 : Int := walk_e_e_v.1
noncomputable def ze2 : Heap := walk_e_e_v.2.1
noncomputable def ze3 : Nat := walk_e_e_v.2.2.1
noncomputable def ze4 : Tok := walk_e_e_v.2.2.2.1
noncomputable def ze5 : Nat := walk_e_e_v.2.2.2.2.1
noncomputable def ze10 : Heap := walk_e_e_v.2.2.2.2.2.1
noncomputable def ze11 : Nat := walk_e_e_v.2.2.2.2.2.2.1
noncomputable def ze12 : Tok := walk_e_e_v.2.2.2.2.2.2.2.1
noncomputable def ze13 : Tok := walk_e_e_v.2.2.2.2.2.2.2.2.1
noncomputable def ze14 : Tok := walk_e_e_v.2.2.2.2.2.2.2.2.2.1
noncomputable def i : Nat := walk_e_e_v.2.2.2.2.2.2.2.2.2.2.1
noncomputable def t6 : Tok := walk_e_e_v.2.2.2.2.2.2.2.2.2.2.2.1
noncomputable def k6 : Int := walk_e_e_v.2.2.2.2.2.2.2.2.2.2.2.2.1
noncomputable def tk6 : Tok := walk_e_e_v.2.2.2.2.2.2.2.2.2.2.2.2.2.1
noncomputable def cp6 : Nat := walk_e_e_v.2.2.2.2.2.2.2.2.2.2.2.2.2.2.1
noncomputable def ys : List Value := walk_e_e_v.2.2.2.2.2.2.2.2.2.2.2.2.2.2.2.1
noncomputable def tail : List (Addr × Obj) := walk_e_e_v.2.2.2.2.2.2.2.2.2.2.2.2.2.2.2.2.1
noncomputable def I : Addr := walk_e_e_v.2.2.2.2.2.2.2.2.2.2.2.2.2.2.2.2.2.1
noncomputable def oI : Obj := walk_e_e_v.2.2.2.2.2.2.2.2.2.2.2.2.2.2.2.2.2.2.1
noncomputable def C : Addr := walk_e_e_v.2.2.2.2.2.2.2.2.2.2.2.2.2.2.2.2.2.2.2.1
noncomputable def oC : Obj := walk_e_e_v.2.2.2.2.2.2.2.2.2.2.2.2.2.2.2.2.2.2.2.2.1
noncomputable def D6 : Addr := walk_e_e_v.2.2.2.2.2.2.2.2.2.2.2.2.2.2.2.2.2.2.2.2.2.1
noncomputable def m2 : Str → Option Value := walk_e_e_v.2.2.2.2.2.2.2.2.2.2.2.2.2.2.2.2.2.2.2.2.2.2.1
noncomputable def h6 : Heap := walk_e_e_v.2.2.2.2.2.2.2.2.2.2.2.2.2.2.2.2.2.2.2.2.2.2.2.1
noncomputable def tk6' : Nat := walk_e_e_v.2.2.2.2.2.2.2.2.2.2.2.2.2.2.2.2.2.2.2.2.2.2.2.2.1
noncomputable def E' : Value → Shared → Prop := walk_e_e_v.2.2.2.2.2.2.2.2.2.2.2.2.2.2.2.2.2.2.2.2.2.2.2.2.2
set_option maxHeartbeats 8000000 in
theorem walk : walk_e_pre.1 ze0 ze2 ze3 ze4 ze5 ze10 ze11 ze12 ze13 ze14 i t6 k6 tk6 cp6 ys tail I oI C oC D6 m2 h6 tk6' E' := by
  delta walk_e_pre
  dsimp only
  intro B cH1 cH2 l0 hLs hI0 hz0 hA0 hB0 hT0 ret X T ho zb4 zb5 zb6 zb7 zb10 zb11 lifted zb15 zb16 zb17 zb18 zb21 l3 d2 hi2 z2 z2' l2 zb24 zb27 zb37 zb38 zb39 zb40 zb42 zb43 zb44 zb45 zb48 zb50 zb54 K zd5 zd19 zd33 zd47 zd62 zd69 zd70 zd76 zd83 zd84 zd91 zd92 zd93 zd94 zd95 zd96 zd104 zd105 hr1 zd113 hk1 hk2 hR hP hl hkk hkk0 ze6 ze7 ze8 ze9 hr5 F5 N5 ze15 hi6 hk6 hk6' hC hx F6 N6 hkk6 hkk60 ze16 ze17 ze18 ze19 ze20 ze21 ze22 ze23 ze24 ze25 ze26 ze27 ze28 ze29 ze30 ze31 ze32 ze33 ze34 ze35 ze36 ze37 ze38 ze39 ze40 ze41 ze42 ze43 ze44 ze45 ze46 ze47 ze48 ze49 ze50 ze51 ze52 ze53 ze54 own6
  k_steps
  rename_i a5 h5 _ k5 t5 cp5 vs5 d5 lo5 hi5 F5 N5 hd5 nz5 ne5
  refine TEndS.intro [(a5, tupO vs5.toArray)] (k5, t5, cp5) F5 N5 (fun _ hp => hp) (own_news nz5 ?_) ⟨lo5, hi5, fun _ hp => .tail _ hp, d5, a5, vs5, _, rfl, .head _, hd5⟩
  intro b hb
  simp only [adr2, List.map_cons, List.map_nil, List.cons_append, List.nil_append, List.mem_cons, List.not_mem_nil, or_false] at hb ⊢
  grind
end walk_e_e
noncomputable def walk_e_f_v : (Int) × (Heap) × (Nat) × (Tok) × (Nat) × (Heap) × (Nat) × (Tok) × (Tok) × (Tok) × (Heap) × (List Value) × (Int) × (Tok) × (Nat) × (List Deed) × (List (Addr × Obj)) × (Addr) × (Heap) × (Nat) := @Classical.epsilon _ ⟨(0, {}, 0, 0, 0, {}, 0, 0, 0, 0, {}, [], 0, 0, 0, [], [], 0, {}, 0)⟩ fun v => ¬ walk_e_pre.2.1 v.1 v.2.1 v.2.2.1 v.2.2.2.1 v.2.2.2.2.1 v.2.2.2.2.2.1 v.2.2.2.2.2.2.1 v.2.2.2.2.2.2.2.1 v.2.2.2.2.2.2.2.2.1 v.2.2.2.2.2.2.2.2.2.1 v.2.2.2.2.2.2.2.2.2.2.1 v.2.2.2.2.2.2.2.2.2.2.2.1 v.2.2.2.2.2.2.2.2.2.2.2.2.1 v.2.2.2.2.2.2.2.2.2.2.2.2.2.1 v.2.2.2.2.2.2.2.2.2.2.2.2.2.2.1 v.2.2.2.2.2.2.2.2.2.2.2.2.2.2.2.1 v.2.2.2.2.2.2.2.2.2.2.2.2.2.2.2.2.1 v.2.2.2.2.2.2.2.2.2.2.2.2.2.2.2.2.2.1 v.2.2.2.2.2.2.2.2.2.2.2.2.2.2.2.2.2.2.1 v.2.2.2.2.2.2.2.2.2.2.2.2.2.2.2.2.2.2.2
namespace walk_e_f
noncomputable def zf0 : Int := walk_e_f_v.1
noncomputable def zf2 : Heap := walk_e_f_v.2.1
noncomputable def zf3 : Nat := walk_e_f_v.2.2.1
noncomputable def zf4 : Tok := walk_e_f_v.2.2.2.1
noncomputable def zf5 : Nat := walk_e_f_v.2.2.2.2.1
noncomputable def zf10 : Heap := walk_e_f_v.2.2.2.2.2.1
noncomputable def zf11 : Nat := walk_e_f_v.2.2.2.2.2.2.1
noncomputable def zf12 : Tok := walk_e_f_v.2.2.2.2.2.2.2.1
noncomputable def zf13 : Tok := walk_e_f_v.2.2.2.2.2.2.2.2.1
noncomputable def zf14 : Tok := walk_e_f_v.2.2.2.2.2.2.2.2.2.1
noncomputable def g6 : Heap := walk_e_f_v.2.2.2.2.2.2.2.2.2.2.1
noncomputable def ys : List Value := walk_e_f_v.2.2.2.2.2.2.2.2.2.2.2.1
noncomputable def k6 : Int := walk_e_f_v.2.2.2.2.2.2.2.2.2.2.2.2.1
noncomputable def tk6 : Tok := walk_e_f_v.2.2.2.2.2.2.2.2.2.2.2.2.2.1
noncomputable def cp6 : Nat := walk_e_f_v.2.2.2.2.2.2.2.2.2.2.2.2.2.2.1
noncomputable def ds : List Deed := walk_e_f_v.2.2.2.2.2.2.2.2.2.2.2.2.2.2.2.1
noncomputable def tail : List (Addr × Obj) := walk_e_f_v.2.2.2.2.2.2.2.2.2.2.2.2.2.2.2.2.1
noncomputable def D6 : Addr := walk_e_f_v.2.2.2.2.2.2.2.2.2.2.2.2.2.2.2.2.2.1
noncomputable def h6 : Heap := walk_e_f_v.2.2.2.2.2.2.2.2.2.2.2.2.2.2.2.2.2.2.1
noncomputable def tk6' : Nat := walk_e_f_v.2.2.2.2.2.2.2.2.2.2.2.2.2.2.2.2.2.2.2
set_option maxHeartbeats 8000000 in
noncomputable def walk_g_pre : (Pg : (Addr) → (Addr) → (Addr) → (Nat) → (List (Addr × Obj)) → (List Value) → (Nat) → (List Value) → (RowsT) → (Tok) → (Heap) → (Heap) → (Nat) → Prop) ×' ((∀ zg0 zg1 zg2 zg4 zg5 zg6 zg7 zg8 zg9 zg10 zg18 h9 tk9, Pg zg0 zg1 zg2 zg4 zg5 zg6 zg7 zg8 zg9 zg10 zg18 h9 tk9) → (walk_e_pre.2.1 zf0 zf2 zf3 zf4 zf5 zf10 zf11 zf12 zf13 zf14 g6 ys k6 tk6 cp6 ds tail D6 h6 tk6')) := by
  refine' ⟨_, fun hPg => ?_⟩
  rotate_left 1
  · skip
    delta walk_e_pre
    dsimp only
    intro B cH1 cH2 l0 hLs hI0 hz0 hA0 hB0 hT0 ret X T ho zb4 zb5 zb6 zb7 zb10 zb11 lifted zb15 zb16 zb17 zb18 zb21 l3 d2 hi2 z2 z2' l2 zb24 zb27 zb37 zb38 zb39 zb40 zb42 zb43 zb44 zb45 zb48 zb50 zb54 K zd5 zd19 zd33 zd47 zd62 zd69 zd70 zd76 zd83 zd84 zd91 zd92 zd93 zd94 zd95 zd96 zd104 zd105 hr1 zd113 hk1 hk2 hR hP hl hkk hkk0 zf6 zf7 zf8 zf9 hr5 F5 N5 zf15 hk6 hk6' hds hdl own6 F6 N6 zf16 zf17 zf18 zf19 zf20 zf21 zf22 zf23 zf24 zf25 zf26 zf27 own7 hyl hkk6 hkk60
    k_with "S if" => ((rename Flagged 32 => mk32); ((refine stop_at ?_)))
    have mk32 : Flagged 32 := ⟨⟩
    k_with "S deeds2" => ((rename Flagged 33 => mk33); (exact deeds_at hds (by assumption) (by walk_at "S sub")))
    have mk33 : Flagged 33 := ⟨⟩
    k_steps
    (repeat (rename Flagged _ => mk0; clear mk0))
    refine stop_off (if_skip4 (by assumption) (by assumption) (pre_cons (pre_cons (pre_cons (pre_cons (pre_cons (pre_cons (pre_cons (pre_cons (pre_cons (pre_cons (pre_cons (pre_cons pre_nil)))))))))))) ?_ ?_)
    · intro Q' hQ'
      k_with "S deeds2" => ((rename Flagged 34 => mk34); (exact deeds_at hds (by assumption) (by walk_at "S sub")))
      have mk34 : Flagged 34 := ⟨⟩
      k_steps
      exact hQ' _ _ (by assumption) (by assumption)
    · intro h9 tk9 F9 N9
      (repeat (rename Flagged _ => mk0; clear mk0))
      clear hds hdl own6 own7 hyl
      have hl64 : r.length < 64 := by omega
      k_sweep
      rename_i zg0 zg1 zg2 zg3 zg4 zg5 zg6 zg7 zg8 zg9 zg10 zg11 zg12 zg13 zg14 zg15 zg16 zg17 zg18
      revert hl64; revert N9; revert F9; revert zg14; revert zg13; revert zg12; revert zg11; revert hkk60; revert hkk6; revert zf27; revert zf26; revert zf25; revert zf24; revert zf23; revert zf22; revert zf21; revert zf20; revert zf19; revert zf18; revert zf17; revert zf16; revert N6; revert F6; revert hk6'; revert hk6; revert zf15; revert hr5; revert zf7; revert zf6; revert hkk0; revert hkk; revert hl; revert hP; revert hR; revert hk2; revert hk1; revert zd113; revert hr1; revert zd105; revert zd104; revert zd96; revert zd95; revert zd94; revert zd93; revert zd92; revert zd91; revert zd84; revert zd83; revert zd76; revert zd70; revert zd69; revert zd62; revert zd47; revert zd33; revert zd19; revert zd5; revert K; revert zb54; revert zb50; revert zb48; revert zb45; revert zb44; revert zb43; revert zb42; revert zb40; revert zb39; revert zb38; revert zb37; revert zb27; revert zb24; revert l2; revert z2'; revert z2; revert hi2; revert d2; revert l3; revert zb21; revert zb18; revert zb17; revert zb16; revert zb15; revert lifted; revert zb11; revert zb10; revert zb7; revert zb6; revert zb5; revert zb4; revert ho; revert T; revert X; revert ret; revert hT0; revert hB0; revert hA0; revert hz0; revert hI0; revert hLs; revert l0; revert cH2; revert cH1; revert B
      exact hPg zg0 zg1 zg2 zg4 zg5 zg6 zg7 zg8 zg9 zg10 zg18 h9 tk9
noncomputable def walk_g_v : (Addr) × (Addr) × (Addr) × (Nat) × (List (Addr × Obj)) × (List Value) × (Nat) × (List Value) × (RowsT) × (Tok) × (Heap) × (Heap) × (Nat) := @Classical.epsilon _ ⟨(0, 0, 0, 0, [], [], 0, [], [], 0, {}, {}, 0)⟩ fun v => ¬ walk_g_pre.1 v.1 v.2.1 v.2.2.1 v.2.2.2.1 v.2.2.2.2.1 v.2.2.2.2.2.1 v.2.2.2.2.2.2.1 v.2.2.2.2.2.2.2.1 v.2.2.2.2.2.2.2.2.1 v.2.2.2.2.2.2.2.2.2.1 v.2.2.2.2.2.2.2.2.2.2.1 v.2.2.2.2.2.2.2.2.2.2.2.1 v.2.2.2.2.2.2.2.2.2.2.2.2
namespace walk_g
noncomputable def zg0 : Addr := walk_g_v.1
noncomputable def zg1 : Addr := walk_g_v.2.1
noncomputable def zg2 : Addr := walk_g_v.2.2.1
noncomputable def zg4 : Nat := walk_g_v.2.2.2.1
noncomputable def zg5 : List (Addr × Obj) := walk_g_v.2.2.2.2.1
noncomputable def zg6 : List Value := walk_g_v.2.2.2.2.2.1
noncomputable def zg7 : Nat := walk_g_v.2.2.2.2.2.2.1
noncomputable def zg8 : List Value := walk_g_v.2.2.2.2.2.2.2.1
noncomputable def zg9 : RowsT := walk_g_v.2.2.2.2.2.2.2.2.1
noncomputable def zg10 : Tok := walk_g_v.2.2.2.2.2.2.2.2.2.1
noncomputable def zg18 : Heap := walk_g_v.2.2.2.2.2.2.2.2.2.2.1
noncomputable def h9 : Heap := walk_g_v.2.2.2.2.2.2.2.2.2.2.2.1
noncomputable def tk9 : Nat := walk_g_v.2.2.2.2.2.2.2.2.2.2.2.2
set_option maxHeartbeats 8000000 in
theorem walk : walk_g_pre.1 zg0 zg1 zg2 zg4 zg5 zg6 zg7 zg8 zg9 zg10 zg18 h9 tk9 := by
  delta walk_g_pre
  dsimp only
  intro B cH1 cH2 l0 hLs hI0 hz0 hA0 hB0 hT0 ret X T ho zb4 zb5 zb6 zb7 zb10 zb11 lifted zb15 zb16 zb17 zb18 zb21 l3 d2 hi2 z2 z2' l2 zb24 zb27 zb37 zb38 zb39 zb40 zb42 zb43 zb44 zb45 zb48 zb50 zb54 K zd5 zd19 zd33 zd47 zd62 zd69 zd70 zd76 zd83 zd84 zd91 zd92 zd93 zd94 zd95 zd96 zd104 zd105 hr1 zd113 hk1 hk2 hR hP hl hkk hkk0 zf6 zf7 hr5 zf15 hk6 hk6' F6 N6 zf16 zf17 zf18 zf19 zf20 zf21 zf22 zf23 zf24 zf25 zf26 zf27 hkk6 hkk60 zg11 zg12 zg13 zg14 F9 N9 hl64
  k_with "S noteq" => ((rename Flagged 35 => mk35); (walk_at "S rows_noteq"))
  have mk35 : Flagged 35 := ⟨⟩
  k_with "S if" => ((rename Flagged 36 => mk36); ((refine stop_at ?_)))
  have mk36 : Flagged 36 := ⟨⟩
  k_steps
  (repeat (rename Flagged _ => mk0; clear mk0))
  refine stop_off ?_
  rename_i F9 N9 hd9
  have F9 := fr_two F9 (a := Str.ofString "content") (b := Str.ofString "begin") (by walk_at "S ifs") (by walk_at "S ifs")
  refine' law_end (r := r) ?ho .mk ?B ?X ?T ?cH1 ?cH2 ?l0 ?K F9 ?N ?q1 ?q2 ?q3 ?q4 ?q5 ?hA ?hB ?hT ?hf ?R ?Rb hP hl64 ?loD ?lod ?hk ?hk2 ?ret
  case ho => k_is
  case B => assumption
  case X => assumption
  case T => assumption
  case cH1 => assumption
  case cH2 => assumption
  case K => assumption
  case N => exact N9
  case l0 => first | assumption | exact ⟨by omega, by omega⟩
  case q1 => assumption
  case q2 => first | assumption | (refine ⟨?_, ?_, ?_, ?_, ?_, ?_, ?_, ?_, ?_, ?_, ?_, ?_, ?_⟩ <;> first | walk_at "S lt" | omega)
  case q3 => first | assumption | (refine ⟨?_, ?_, ?_, ?_, ?_, ?_, ?_, ?_, ?_, ?_, ?_, ?_⟩ <;> first | walk_at "S lt" | omega)
  case q4 => (refine ⟨?_, ?_, ?_, ?_, ?_, ?_, ?_⟩ <;> first | walk_at "S lt" | walk_at "S cne" | omega)
  case q5 => (refine ⟨?_, ?_, ?_, ?_, ?_, ?_⟩ <;> first | assumption | exact Ne.symm (by assumption) | walk_at "S cne" | omega)
  case hA => assumption
  case hB => assumption
  case hT => assumption
  case hf => assumption
  case R => exact rows_init (by assumption)
  case Rb => assumption
  case loD => assumption
  case lod => assumption
  case hk => omega
  case hk2 => omega
  case ret => exact fun h' tk' m' F' G' => ret h' tk' m' F' G'
end walk_g
theorem walk_g_all : ∀ (zg0' : Addr) (zg1' : Addr) (zg2' : Addr) (zg4' : Nat) (zg5' : List (Addr × Obj)) (zg6' : List Value) (zg7' : Nat) (zg8' : List Value) (zg9' : RowsT) (zg10' : Tok) (zg18' : Heap) (h9' : Heap) (tk9' : Nat), walk_g_pre.1 zg0' zg1' zg2' zg4' zg5' zg6' zg7' zg8' zg9' zg10' zg18' h9' tk9' := by
  intro zg0' zg1' zg2' zg4' zg5' zg6' zg7' zg8' zg9' zg10' zg18' h9' tk9'
  have hw := walk_g.walk
  with_unfolding_all exact hk (α := (Addr) × (Addr) × (Addr) × (Nat) × (List (Addr × Obj)) × (List Value) × (Nat) × (List Value) × (RowsT) × (Tok) × (Heap) × (Heap) × (Nat)) (p := fun v => walk_g_pre.1 v.1 v.2.1 v.2.2.1 v.2.2.2.1 v.2.2.2.2.1 v.2.2.2.2.2.1 v.2.2.2.2.2.2.1 v.2.2.2.2.2.2.2.1 v.2.2.2.2.2.2.2.2.1 v.2.2.2.2.2.2.2.2.2.1 v.2.2.2.2.2.2.2.2.2.2.1 v.2.2.2.2.2.2.2.2.2.2.2.1 v.2.2.2.2.2.2.2.2.2.2.2.2) hw (zg0', zg1', zg2', zg4', zg5', zg6', zg7', zg8', zg9', zg10', zg18', h9', tk9')
theorem walk : walk_e_pre.2.1 zf0 zf2 zf3 zf4 zf5 zf10 zf11 zf12 zf13 zf14 g6 ys k6 tk6 cp6 ds tail D6 h6 tk6' := by
  exact walk_g_pre.2 walk_g_all
end walk_e_f
theorem walk_e_e_all : ∀ (ze0' : Int) (ze2' : Heap) (ze3' : Nat) (ze4' : Tok) (ze5' : Nat) (ze10' : Heap) (ze11' : Nat) (ze12' : Tok) (ze13' : Tok) (ze14' : Tok) (i' : Nat) (t6' : Tok) (k6' : Int) (tk6' : Tok) (cp6' : Nat) (ys' : List Value) (tail' : List (Addr × Obj)) (I' : Addr) (oI' : Obj) (C' : Addr) (oC' : Obj) (D6' : Addr) (m2' : Str → Option Value) (h6' : Heap) (tk6'' : Nat) (E'' : Value → Shared → Prop), walk_e_pre.1 ze0' ze2' ze3' ze4' ze5' ze10' ze11' ze12' ze13' ze14' i' t6' k6' tk6' cp6' ys' tail' I' oI' C' oC' D6' m2' h6' tk6'' E'' := by
  intro ze0' ze2' ze3' ze4' ze5' ze10' ze11' ze12' ze13' ze14' i' t6' k6' tk6' cp6' ys' tail' I' oI' C' oC' D6' m2' h6' tk6'' E''
  have hw := walk_e_e.walk
  with_unfolding_all exact hk (α := (Int) × (Heap) × (Nat) × (Tok) × (Nat) × (Heap) × (Nat) × (Tok) × (Tok) × (Tok) × (Nat) × (Tok) × (Int) × (Tok) × (Nat) × (List Value) × (List (Addr × Obj)) × (Addr) × (Obj) × (Addr) × (Obj) × (Addr) × (Str → Option Value) × (Heap) × (Nat) × (Value → Shared → Prop)) (p := fun v => walk_e_pre.1 v.1 v.2.1 v.2.2.1 v.2.2.2.1 v.2.2.2.2.1 v.2.2.2.2.2.1 v.2.2.2.2.2.2.1 v.2.2.2.2.2.2.2.1 v.2.2.2.2.2.2.2.2.1 v.2.2.2.2.2.2.2.2.2.1 v.2.2.2.2.2.2.2.2.2.2.1 v.2.2.2.2.2.2.2.2.2.2.2.1 v.2.2.2.2.2.2.2.2.2.2.2.2.1 v.2.2.2.2.2.2.2.2.2.2.2.2.2.1 v.2.2.2.2.2.2.2.2.2.2.2.2.2.2.1 v.2.2.2.2.2.2.2.2.2.2.2.2.2.2.2.1 v.2.2.2.2.2.2.2.2.2.2.2.2.2.2.2.2.1 v.2.2.2.2.2.2.2.2.2.2.2.2.2.2.2.2.2.1 v.2.2.2.2.2.2.2.2.2.2.2.2.2.2.2.2.2.2.1 v.2.2.2.2.2.2.2.2.2.2.2.2.2.2.2.2.2.2.2.1 v.2.2.2.2.2.2.2.2.2.2.2.2.2.2.2.2.2.2.2.2.1 v.2.2.2.2.2.2.2.2.2.2.2.2.2.2.2.2.2.2.2.2.2.1 v.2.2.2.2.2.2.2.2.2.2.2.2.2.2.2.2.2.2.2.2.2.2.1 v.2.2.2.2.2.2.2.2.2.2.2.2.2.2.2.2.2.2.2.2.2.2.2.1 v.2.2.2.2.2.2.2.2.2.2.2.2.2.2.2.2.2.2.2.2.2.2.2.2.1 v.2.2.2.2.2.2.2.2.2.2.2.2.2.2.2.2.2.2.2.2.2.2.2.2.2) hw (ze0', ze2', ze3', ze4', ze5', ze10', ze11', ze12', ze13', ze14', i', t6', k6', tk6', cp6', ys', tail', I', oI', C', oC', D6', m2', h6', tk6'', E'')
theorem walk_e_f_all : ∀ (zf0' : Int) (zf2' : Heap) (zf3' : Nat) (zf4' : Tok) (zf5' : Nat) (zf10' : Heap) (zf11' : Nat) (zf12' : Tok) (zf13' : Tok) (zf14' : Tok) (g6' : Heap) (ys' : List Value) (k6' : Int) (tk6' : Tok) (cp6' : Nat) (ds' : List Deed) (tail' : List (Addr × Obj)) (D6' : Addr) (h6' : Heap) (tk6'' : Nat), walk_e_pre.2.1 zf0' zf2' zf3' zf4' zf5' zf10' zf11' zf12' zf13' zf14' g6' ys' k6' tk6' cp6' ds' tail' D6' h6' tk6'' := by
  intro zf0' zf2' zf3' zf4' zf5' zf10' zf11' zf12' zf13' zf14' g6' ys' k6' tk6' cp6' ds' tail' D6' h6' tk6''
  have hw := walk_e_f.walk
  with_unfolding_all exact hk (α := (Int) × (Heap) × (Nat) × (Tok) × (Nat) × (Heap) × (Nat) × (Tok) × (Tok) × (Tok) × (Heap) × (List Value) × (Int) × (Tok) × (Nat) × (List Deed) × (List (Addr × Obj)) × (Addr) × (Heap) × (Nat)) (p := fun v => walk_e_pre.2.1 v.1 v.2.1 v.2.2.1 v.2.2.2.1 v.2.2.2.2.1 v.2.2.2.2.2.1 v.2.2.2.2.2.2.1 v.2.2.2.2.2.2.2.1 v.2.2.2.2.2.2.2.2.1 v.2.2.2.2.2.2.2.2.2.1 v.2.2.2.2.2.2.2.2.2.2.1 v.2.2.2.2.2.2.2.2.2.2.2.1 v.2.2.2.2.2.2.2.2.2.2.2.2.1 v.2.2.2.2.2.2.2.2.2.2.2.2.2.1 v.2.2.2.2.2.2.2.2.2.2.2.2.2.2.1 v.2.2.2.2.2.2.2.2.2.2.2.2.2.2.2.1 v.2.2.2.2.2.2.2.2.2.2.2.2.2.2.2.2.1 v.2.2.2.2.2.2.2.2.2.2.2.2.2.2.2.2.2.1 v.2.2.2.2.2.2.2.2.2.2.2.2.2.2.2.2.2.2.1 v.2.2.2.2.2.2.2.2.2.2.2.2.2.2.2.2.2.2.2) hw (zf0', zf2', zf3', zf4', zf5', zf10', zf11', zf12', zf13', zf14', g6', ys', k6', tk6', cp6', ds', tail', D6', h6', tk6'')
theorem walk : walk_c_pre.2.1 zd4 zd18 zd32 zd46 zd59 zd60 zd63 zd66 zd71 zd72 zd74 zd77 zd85 zd86 zd88 zd90 zd98 zd100 zd101 zd102 zd103 zd108 zd109 zd110 zd111 zd112 u1 o1 r k1 tk1 cp1 h tk := by
  exact walk_e_pre.2.2 walk_e_e_all walk_e_f_all
end walk_c_d
theorem walk_c_c_all : ∀ (zc4' : Obj) (zc18' : Obj) (zc32' : Obj) (zc46' : Obj) (zc59' : Nat) (zc60' : Addr) (zc63' : Int) (zc66' : Nat) (zc71' : Mode) (zc72' : Tok) (zc74' : Addr) (zc77' : Int) (zc85' : Int) (zc86' : Tok) (zc88' : Addr) (zc90' : Obj) (zc98' : Int) (zc100' : Heap) (zc101' : Nat) (zc102' : Tok) (zc103' : Nat) (zc108' : Heap) (zc109' : Nat) (zc110' : Tok) (zc111' : Tok) (zc112' : Tok) (i' : Nat) (t5' : Tok) (u1' : Option Value) (o1' : Obj) (r' : RowsT) (k1' : Int) (tk1' : Tok) (cp1' : Nat) (I' : Addr) (oI' : Obj) (h' : Heap) (tk' : Nat), walk_c_pre.1 zc4' zc18' zc32' zc46' zc59' zc60' zc63' zc66' zc71' zc72' zc74' zc77' zc85' zc86' zc88' zc90' zc98' zc100' zc101' zc102' zc103' zc108' zc109' zc110' zc111' zc112' i' t5' u1' o1' r' k1' tk1' cp1' I' oI' h' tk' := by
  intro zc4' zc18' zc32' zc46' zc59' zc60' zc63' zc66' zc71' zc72' zc74' zc77' zc85' zc86' zc88' zc90' zc98' zc100' zc101' zc102' zc103' zc108' zc109' zc110' zc111' zc112' i' t5' u1' o1' r' k1' tk1' cp1' I' oI' h' tk'
  have hw := walk_c_c.walk
  with_unfolding_all exact hk (α := (Obj) × (Obj) × (Obj) × (Obj) × (Nat) × (Addr) × (Int) × (Nat) × (Mode) × (Tok) × (Addr) × (Int) × (Int) × (Tok) × (Addr) × (Obj) × (Int) × (Heap) × (Nat) × (Tok) × (Nat) × (Heap) × (Nat) × (Tok) × (Tok) × (Tok) × (Nat) × (Tok) × (Option Value) × (Obj) × (RowsT) × (Int) × (Tok) × (Nat) × (Addr) × (Obj) × (Heap) × (Nat)) (p := fun v => walk_c_pre.1 v.1 v.2.1 v.2.2.1 v.2.2.2.1 v.2.2.2.2.1 v.2.2.2.2.2.1 v.2.2.2.2.2.2.1 v.2.2.2.2.2.2.2.1 v.2.2.2.2.2.2.2.2.1 v.2.2.2.2.2.2.2.2.2.1 v.2.2.2.2.2.2.2.2.2.2.1 v.2.2.2.2.2.2.2.2.2.2.2.1 v.2.2.2.2.2.2.2.2.2.2.2.2.1 v.2.2.2.2.2.2.2.2.2.2.2.2.2.1 v.2.2.2.2.2.2.2.2.2.2.2.2.2.2.1 v.2.2.2.2.2.2.2.2.2.2.2.2.2.2.2.1 v.2.2.2.2.2.2.2.2.2.2.2.2.2.2.2.2.1 v.2.2.2.2.2.2.2.2.2.2.2.2.2.2.2.2.2.1 v.2.2.2.2.2.2.2.2.2.2.2.2.2.2.2.2.2.2.1 v.2.2.2.2.2.2.2.2.2.2.2.2.2.2.2.2.2.2.2.1 v.2.2.2.2.2.2.2.2.2.2.2.2.2.2.2.2.2.2.2.2.1 v.2.2.2.2.2.2.2.2.2.2.2.2.2.2.2.2.2.2.2.2.2.1 v.2.2.2.2.2.2.2.2.2.2.2.2.2.2.2.2.2.2.2.2.2.2.1 v.2.2.2.2.2.2.2.2.2.2.2.2.2.2.2.2.2.2.2.2.2.2.2.1 v.2.2.2.2.2.2.2.2.2.2.2.2.2.2.2.2.2.2.2.2.2.2.2.2.1 v.2.2.2.2.2.2.2.2.2.2.2.2.2.2.2.2.2.2.2.2.2.2.2.2.2.1 v.2.2.2.2.2.2.2.2.2.2.2.2.2.2.2.2.2.2.2.2.2.2.2.2.2.2.1 v.2.2.2.2.2.2.2.2.2.2.2.2.2.2.2.2.2.2.2.2.2.2.2.2.2.2.2.1 v.2.2.2.2.2.2.2.2.2.2.2.2.2.2.2.2.2.2.2.2.2.2.2.2.2.2.2.2.1 v.2.2.2.2.2.2.2.2.2.2.2.2.2.2.2.2.2.2.2.2.2.2.2.2.2.2.2.2.2.1 v.2.2.2.2.2.2.2.2.2.2.2.2.2.2.2.2.2.2.2.2.2.2.2.2.2.2.2.2.2.2.1 v.2.2.2.2.2.2.2.2.2.2.2.2.2.2.2.2.2.2.2.2.2.2.2.2.2.2.2.2.2.2.2.1 v.2.2.2.2.2.2.2.2.2.2.2.2.2.2.2.2.2.2.2.2.2.2.2.2.2.2.2.2.2.2.2.2.1 v.2.2.2.2.2.2.2.2.2.2.2.2.2.2.2.2.2.2.2.2.2.2.2.2.2.2.2.2.2.2.2.2.2.1 v.2.2.2.2.2.2.2.2.2.2.2.2.2.2.2.2.2.2.2.2.2.2.2.2.2.2.2.2.2.2.2.2.2.2.1 v.2.2.2.2.2.2.2.2.2.2.2.2.2.2.2.2.2.2.2.2.2.2.2.2.2.2.2.2.2.2.2.2.2.2.2.1 v.2.2.2.2.2.2.2.2.2.2.2.2.2.2.2.2.2.2.2.2.2.2.2.2.2.2.2.2.2.2.2.2.2.2.2.2.1 v.2.2.2.2.2.2.2.2.2.2.2.2.2.2.2.2.2.2.2.2.2.2.2.2.2.2.2.2.2.2.2.2.2.2.2.2.2) hw (zc4', zc18', zc32', zc46', zc59', zc60', zc63', zc66', zc71', zc72', zc74', zc77', zc85', zc86', zc88', zc90', zc98', zc100', zc101', zc102', zc103', zc108', zc109', zc110', zc111', zc112', i', t5', u1', o1', r', k1', tk1', cp1', I', oI', h', tk')
theorem walk_c_d_all : ∀ (zd4' : Obj) (zd18' : Obj) (zd32' : Obj) (zd46' : Obj) (zd59' : Nat) (zd60' : Addr) (zd63' : Int) (zd66' : Nat) (zd71' : Mode) (zd72' : Tok) (zd74' : Addr) (zd77' : Int) (zd85' : Int) (zd86' : Tok) (zd88' : Addr) (zd90' : Obj) (zd98' : Int) (zd100' : Heap) (zd101' : Nat) (zd102' : Tok) (zd103' : Nat) (zd108' : Heap) (zd109' : Nat) (zd110' : Tok) (zd111' : Tok) (zd112' : Tok) (u1' : Option Value) (o1' : Obj) (r' : RowsT) (k1' : Int) (tk1' : Tok) (cp1' : Nat) (h' : Heap) (tk' : Nat), walk_c_pre.2.1 zd4' zd18' zd32' zd46' zd59' zd60' zd63' zd66' zd71' zd72' zd74' zd77' zd85' zd86' zd88' zd90' zd98' zd100' zd101' zd102' zd103' zd108' zd109' zd110' zd111' zd112' u1' o1' r' k1' tk1' cp1' h' tk' := by
  intro zd4' zd18' zd32' zd46' zd59' zd60' zd63' zd66' zd71' zd72' zd74' zd77' zd85' zd86' zd88' zd90' zd98' zd100' zd101' zd102' zd103' zd108' zd109' zd110' zd111' zd112' u1' o1' r' k1' tk1' cp1' h' tk'
  have hw := walk_c_d.walk
  with_unfolding_all exact hk (α := (Obj) × (Obj) × (Obj) × (Obj) × (Nat) × (Addr) × (Int) × (Nat) × (Mode) × (Tok) × (Addr) × (Int) × (Int) × (Tok) × (Addr) × (Obj) × (Int) × (Heap) × (Nat) × (Tok) × (Nat) × (Heap) × (Nat) × (Tok) × (Tok) × (Tok) × (Option Value) × (Obj) × (RowsT) × (Int) × (Tok) × (Nat) × (Heap) × (Nat)) (p := fun v => walk_c_pre.2.1 v.1 v.2.1 v.2.2.1 v.2.2.2.1 v.2.2.2.2.1 v.2.2.2.2.2.1 v.2.2.2.2.2.2.1 v.2.2.2.2.2.2.2.1 v.2.2.2.2.2.2.2.2.1 v.2.2.2.2.2.2.2.2.2.1 v.2.2.2.2.2.2.2.2.2.2.1 v.2.2.2.2.2.2.2.2.2.2.2.1 v.2.2.2.2.2.2.2.2.2.2.2.2.1 v.2.2.2.2.2.2.2.2.2.2.2.2.2.1 v.2.2.2.2.2.2.2.2.2.2.2.2.2.2.1 v.2.2.2.2.2.2.2.2.2.2.2.2.2.2.2.1 v.2.2.2.2.2.2.2.2.2.2.2.2.2.2.2.2.1 v.2.2.2.2.2.2.2.2.2.2.2.2.2.2.2.2.2.1 v.2.2.2.2.2.2.2.2.2.2.2.2.2.2.2.2.2.2.1 v.2.2.2.2.2.2.2.2.2.2.2.2.2.2.2.2.2.2.2.1 v.2.2.2.2.2.2.2.2.2.2.2.2.2.2.2.2.2.2.2.2.1 v.2.2.2.2.2.2.2.2.2.2.2.2.2.2.2.2.2.2.2.2.2.1 v.2.2.2.2.2.2.2.2.2.2.2.2.2.2.2.2.2.2.2.2.2.2.1 v.2.2.2.2.2.2.2.2.2.2.2.2.2.2.2.2.2.2.2.2.2.2.2.1 v.2.2.2.2.2.2.2.2.2.2.2.2.2.2.2.2.2.2.2.2.2.2.2.2.1 v.2.2.2.2.2.2.2.2.2.2.2.2.2.2.2.2.2.2.2.2.2.2.2.2.2.1 v.2.2.2.2.2.2.2.2.2.2.2.2.2.2.2.2.2.2.2.2.2.2.2.2.2.2.1 v.2.2.2.2.2.2.2.2.2.2.2.2.2.2.2.2.2.2.2.2.2.2.2.2.2.2.2.1 v.2.2.2.2.2.2.2.2.2.2.2.2.2.2.2.2.2.2.2.2.2.2.2.2.2.2.2.2.1 v.2.2.2.2.2.2.2.2.2.2.2.2.2.2.2.2.2.2.2.2.2.2.2.2.2.2.2.2.2.1 v.2.2.2.2.2.2.2.2.2.2.2.2.2.2.2.2.2.2.2.2.2.2.2.2.2.2.2.2.2.2.1 v.2.2.2.2.2.2.2.2.2.2.2.2.2.2.2.2.2.2.2.2.2.2.2.2.2.2.2.2.2.2.2.1 v.2.2.2.2.2.2.2.2.2.2.2.2.2.2.2.2.2.2.2.2.2.2.2.2.2.2.2.2.2.2.2.2.1 v.2.2.2.2.2.2.2.2.2.2.2.2.2.2.2.2.2.2.2.2.2.2.2.2.2.2.2.2.2.2.2.2.2) hw (zd4', zd18', zd32', zd46', zd59', zd60', zd63', zd66', zd71', zd72', zd74', zd77', zd85', zd86', zd88', zd90', zd98', zd100', zd101', zd102', zd103', zd108', zd109', zd110', zd111', zd112', u1', o1', r', k1', tk1', cp1', h', tk')
theorem walk : walk_b_pre.1 zb0 zb1 zb8 zb9 zb12 zb13 zb20 tk2 D2 oc2 ws2 c2 zs2 zb22 zb26 zb28 zb29 zb30 zb31 zb32 zb33 zb34 zb36 zb41 zb46 zb47 zb49 zb51 zb52 zb53 zb55 h9 oF oL := by
  exact walk_c_pre.2.2 walk_c_c_all walk_c_d_all
end walk_b
theorem walk_b_all : ∀ (zb0' : Heap) (zb1' : Addr) (zb8' : Obj) (zb9' : Obj) (zb12' : Addr) (zb13' : List Value) (zb20' : Obj) (tk2' : Nat) (D2' : Addr) (oc2' : Obj) (ws2' : List Value) (c2' : Nat) (zs2' : List Int) (zb22' : Addr) (zb26' : Obj) (zb28' : Addr) (zb29' : Addr) (zb30' : Obj) (zb31' : Array Value) (zb32' : Tok) (zb33' : Value) (zb34' : Value) (zb36' : Nat) (zb41' : Heap) (zb46' : Heap) (zb47' : Obj) (zb49' : Addr) (zb51' : Heap) (zb52' : Nat) (zb53' : Obj) (zb55' : Heap) (h9' : Heap) (oF' : Obj) (oL' : Obj), walk_b_pre.1 zb0' zb1' zb8' zb9' zb12' zb13' zb20' tk2' D2' oc2' ws2' c2' zs2' zb22' zb26' zb28' zb29' zb30' zb31' zb32' zb33' zb34' zb36' zb41' zb46' zb47' zb49' zb51' zb52' zb53' zb55' h9' oF' oL' := by
  intro zb0' zb1' zb8' zb9' zb12' zb13' zb20' tk2' D2' oc2' ws2' c2' zs2' zb22' zb26' zb28' zb29' zb30' zb31' zb32' zb33' zb34' zb36' zb41' zb46' zb47' zb49' zb51' zb52' zb53' zb55' h9' oF' oL'
  have hw := walk_b.walk
  with_unfolding_all exact hk (α := (Heap) × (Addr) × (Obj) × (Obj) × (Addr) × (List Value) × (Obj) × (Nat) × (Addr) × (Obj) × (List Value) × (Nat) × (List Int) × (Addr) × (Obj) × (Addr) × (Addr) × (Obj) × (Array Value) × (Tok) × (Value) × (Value) × (Nat) × (Heap) × (Heap) × (Obj) × (Addr) × (Heap) × (Nat) × (Obj) × (Heap) × (Heap) × (Obj) × (Obj)) (p := fun v => walk_b_pre.1 v.1 v.2.1 v.2.2.1 v.2.2.2.1 v.2.2.2.2.1 v.2.2.2.2.2.1 v.2.2.2.2.2.2.1 v.2.2.2.2.2.2.2.1 v.2.2.2.2.2.2.2.2.1 v.2.2.2.2.2.2.2.2.2.1 v.2.2.2.2.2.2.2.2.2.2.1 v.2.2.2.2.2.2.2.2.2.2.2.1 v.2.2.2.2.2.2.2.2.2.2.2.2.1 v.2.2.2.2.2.2.2.2.2.2.2.2.2.1 v.2.2.2.2.2.2.2.2.2.2.2.2.2.2.1 v.2.2.2.2.2.2.2.2.2.2.2.2.2.2.2.1 v.2.2.2.2.2.2.2.2.2.2.2.2.2.2.2.2.1 v.2.2.2.2.2.2.2.2.2.2.2.2.2.2.2.2.2.1 v.2.2.2.2.2.2.2.2.2.2.2.2.2.2.2.2.2.2.1 v.2.2.2.2.2.2.2.2.2.2.2.2.2.2.2.2.2.2.2.1 v.2.2.2.2.2.2.2.2.2.2.2.2.2.2.2.2.2.2.2.2.1 v.2.2.2.2.2.2.2.2.2.2.2.2.2.2.2.2.2.2.2.2.2.1 v.2.2.2.2.2.2.2.2.2.2.2.2.2.2.2.2.2.2.2.2.2.2.1 v.2.2.2.2.2.2.2.2.2.2.2.2.2.2.2.2.2.2.2.2.2.2.2.1 v.2.2.2.2.2.2.2.2.2.2.2.2.2.2.2.2.2.2.2.2.2.2.2.2.1 v.2.2.2.2.2.2.2.2.2.2.2.2.2.2.2.2.2.2.2.2.2.2.2.2.2.1 v.2.2.2.2.2.2.2.2.2.2.2.2.2.2.2.2.2.2.2.2.2.2.2.2.2.2.1 v.2.2.2.2.2.2.2.2.2.2.2.2.2.2.2.2.2.2.2.2.2.2.2.2.2.2.2.1 v.2.2.2.2.2.2.2.2.2.2.2.2.2.2.2.2.2.2.2.2.2.2.2.2.2.2.2.2.1 v.2.2.2.2.2.2.2.2.2.2.2.2.2.2.2.2.2.2.2.2.2.2.2.2.2.2.2.2.2.1 v.2.2.2.2.2.2.2.2.2.2.2.2.2.2.2.2.2.2.2.2.2.2.2.2.2.2.2.2.2.2.1 v.2.2.2.2.2.2.2.2.2.2.2.2.2.2.2.2.2.2.2.2.2.2.2.2.2.2.2.2.2.2.2.1 v.2.2.2.2.2.2.2.2.2.2.2.2.2.2.2.2.2.2.2.2.2.2.2.2.2.2.2.2.2.2.2.2.1 v.2.2.2.2.2.2.2.2.2.2.2.2.2.2.2.2.2.2.2.2.2.2.2.2.2.2.2.2.2.2.2.2.2) hw (zb0', zb1', zb8', zb9', zb12', zb13', zb20', tk2', D2', oc2', ws2', c2', zs2', zb22', zb26', zb28', zb29', zb30', zb31', zb32', zb33', zb34', zb36', zb41', zb46', zb47', zb49', zb51', zb52', zb53', zb55', h9', oF', oL')
theorem walk : law_main_a_pre.1 w mean mg mb h₀ S fa s Q ls ws0 zs0 cA cB cT ca cb ct := by
  exact walk_b_pre.2 walk_b_all
end law_main_a
theorem law_main_a_all : ∀ (w' : World) (mean' : ExcName → Option Value) (mg' : Str → Option Value) (mb' : Str → Option Value) (h₀' : Heap) (S' : Addr) (fa' : Addr) (s' : Shared) (Q' : Flow → Shared → Prop) (ls' : Addr) (ws0' : List Value) (zs0' : List Int) (cA' : Obj) (cB' : Obj) (cT' : Obj) (ca' : Option Value) (cb' : Option Value) (ct' : Option Value), law_main_a_pre.1 w' mean' mg' mb' h₀' S' fa' s' Q' ls' ws0' zs0' cA' cB' cT' ca' cb' ct' := by
  intro w' mean' mg' mb' h₀' S' fa' s' Q' ls' ws0' zs0' cA' cB' cT' ca' cb' ct'
  have hw := law_main_a.walk
  with_unfolding_all exact hk (α := (World) × (ExcName → Option Value) × (Str → Option Value) × (Str → Option Value) × (Heap) × (Addr) × (Addr) × (Shared) × (Flow → Shared → Prop) × (Addr) × (List Value) × (List Int) × (Obj) × (Obj) × (Obj) × (Option Value) × (Option Value) × (Option Value)) (p := fun v => law_main_a_pre.1 v.1 v.2.1 v.2.2.1 v.2.2.2.1 v.2.2.2.2.1 v.2.2.2.2.2.1 v.2.2.2.2.2.2.1 v.2.2.2.2.2.2.2.1 v.2.2.2.2.2.2.2.2.1 v.2.2.2.2.2.2.2.2.2.1 v.2.2.2.2.2.2.2.2.2.2.1 v.2.2.2.2.2.2.2.2.2.2.2.1 v.2.2.2.2.2.2.2.2.2.2.2.2.1 v.2.2.2.2.2.2.2.2.2.2.2.2.2.1 v.2.2.2.2.2.2.2.2.2.2.2.2.2.2.1 v.2.2.2.2.2.2.2.2.2.2.2.2.2.2.2.1 v.2.2.2.2.2.2.2.2.2.2.2.2.2.2.2.2.1 v.2.2.2.2.2.2.2.2.2.2.2.2.2.2.2.2.2) hw (w', mean', mg', mb', h₀', S', fa', s', Q', ls', ws0', zs0', cA', cB', cT', ca', cb', ct')
theorem law_main {w : World} {mean : ExcName → Option Value} {mg mb : Str → Option Value} {h₀ : Heap} {S fa : Addr} {s : Shared} {Q : Flow → Shared → Prop} {o333 : Obj} {body : List Stmt} {scope : Scope} (ho : (hd.heap_39 w.params).lookup 333 = some o333) (hL : LawAll o333 body scope)
    (B : Below callerA h₀ [] h₀) (X : Frag.In (hd.heap_39 w.params) h₀) (T : Top VW LO mean mg mb h₀) (cH1 : CodeHd h₀ 274 270) (cH2 : CodeHd h₀ 332 330) (l0 : @LT.lt Nat _ 270 S ∧ @LT.lt Nat _ 330 S)
    {ls : Addr} {ws0 : List Value} {zs0 : List Int} (hLs : h₀.IsList ls ws0.toArray) (hI0 : IntsAre ws0 zs0) (hz0 : zs0.length ≤ 63)
    {cA cB cT : Obj} {ca cb ct : Option Value}
    (F : Fr h₀ S s.heap (fun y => if y = Str.ofString "script" then some (.ref ls) else none))
    (N : News h₀ S s.heap [(S + 1 + 1 + 1, cA), (S + 1 + 1, cB), (S + 1, cT), (270, tabObj #[]), (330, tabObj #[])])
    (hA0 : cA.data = .cell ca) (hB0 : cB.data = .cell cb) (hT0 : cT.data = .cell ct)
    (ret : ∀ h' tk' m', Fr h₀ S h' m' → GrownAt 270 h' ∧ GrownAt 330 h' → Q (.ret (.bool true)) { s with heap := h', toks := tk' }) :
    wpAny (model PySem.Challenge.rw_og0083_01.row.prog w) (callerA.deeper (envOfC (Str.ofString "law") scope S fa (.ref 332))) (execs body (envOfC (Str.ofString "law") scope S fa (.ref 332))) Q (fun _ _ => False) s := by
  exact law_main_a_pre.2 law_main_a_all w mean mg mb h₀ S fa s Q o333 body scope ho hL B X T cH1 cH2 l0 ls ws0 zs0 hLs hI0 hz0 cA cB cT ca cb ct F N hA0 hB0 hT0 ret
end
theorem main_mono {M : Model} {A : Around} {env : Env} {b : List Stmt} {Q : Flow → Shared → Prop} {E : Value → Shared → Prop} {s : Shared} (h : wpAny M A (execs b env) Q (fun _ _ => False) s) : wpAny M A (execs b env) Q E s := wpAny_mono h (fun _ _ q => q) fun _ _ q => q.elim
theorem post_ok (as ds : List WData) : PySem.Challenge.rw_og0083_01.row.claim.post as (WData.bool true) ds = true := by
  show (WShape.has PySem.Challenge.rw_og0083_01.row.records (.bool true) .bool && WTm.holds PySem.Challenge.rw_og0083_01.row.records (.eq .res (.lit (.bool true))) { args := as, res := some (.bool true), after := ds }) = true
  have h1 : WShape.has PySem.Challenge.rw_og0083_01.row.records (.bool true) .bool = true := by
    first | rfl | decide | (simp [WShape.has])
  rw [h1, Bool.true_and]
  first | rfl | with_unfolding_all rfl
set_option maxHeartbeats 8000000 in
theorem law_holds : PySem.Challenge.rw_og0083_01.Holds := hd (by
  k_go0
  (all_goals try k_fold)
  refine main_mono ?_
  rename Fr _ _ _ _ => F9
  refine' law_main (zs0 := _) ?ho .mk ?B ?X ?T ?cH1 ?cH2 ?l0 ?hLs ?hI0 ?hz0 ?F ?N ?hA0 ?hB0 ?hT0 ?ret
  case ho => k_is
  case B => assumption
  case X => assumption
  case T => assumption
  case cH1 => assumption
  case cH2 => assumption
  case l0 => assumption
  case hLs => assumption
  case hI0 => assumption
  case hz0 => omega
  case N => assumption
  case hA0 => assumption
  case hB0 => assumption
  case hT0 => assumption
  case F => with_unfolding_all exact F9
  case ret =>
    intro h' tk' m' F' G'
    refine ⟨?_, G'.1, G'.2, trivial⟩
    exact ⟨.inl ⟨.bool true, .bool true, [], rfl, fun _ => rfl, .bool true, post_ok _ _, fun _ => ⟨List.nodup_nil, fun a h => nomatch h⟩⟩, F'.keep, rfl, by assumption⟩)
end Mine
theorem PySem.Challenge.cw_og0083_01_holds : PySem.Challenge.rw_og0083_01.Holds :=
  Mine.law_holds
