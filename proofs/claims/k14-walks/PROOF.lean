import PyProof.Rows.All
import Wide.All
import OpenK.AllK
import Wide.FinOn
import HandS.ForMost
import HandS.Exc
import HandS.WordsExc
import HandS.Codes
import HandS.Conv
import HandS.IsInst
import HandS.Defaults
import HandS.Style
import HandS.Flow
import HandS.TupAny
import HandS.Deep
import HandS.Star
import HandS.Walk
import HandS.ExcInit
import KE.KExcInit
import HandS.ExcField
import HandS.DictComp
import KE.SortData
import KE.KDictCopyH
import PyProof.Rows.StrSigns2
import HandS.Property
import HandS.Lambda
import PyProof.ReprRoads
import PyProof.ReprBulk
import HandS.GenList
import HandS.GenBody
import HandS.TryElse
import HandS.ExcValue
import HandS.EndBits
import HandS.EndTab
import KE.KStateDown
import HandS.Head0
import HandS.Head1
import HandS.Head2
import HandS.HeadEnd
import HandS.HeadHook1
import HandS.HeadHook2
import HandS.HeadHook3
import HandS.HeadHook4
import HandS.HeadWalk
import Lean
import PySem.Challenge.RW_movegrants_k14_whole_walks_and_ways_up
/-! text Text -/
set_option Elab.async false
set_option linter.all false
set_option maxRecDepth 100000
/-! The text by places. -/
namespace MG
open PySem L2
def top (i : Nat) : Stmt := PySem.Challenge.pw_movegrants_k14_whole_walks_and_ways_up.main.body.getD i (.Pass ⟨0, 0, 0, 0⟩)
abbrev cTree : Stmt := top 24
abbrev s_UN : Stmt := inClass (top 5) 0
abbrev s_is_name : Stmt := top 11
abbrev s_is_node : Stmt := top 12
abbrev s_is_place : Stmt := top 13
abbrev s_is_known : Stmt := top 17
abbrev s_way_within : Stmt := top 18
abbrev s_first_cyclic : Stmt := top 19
abbrev s_require_places : Stmt := top 20
abbrev s_children_within : Stmt := top 21
abbrev s_init : Stmt := inClass cTree 1
abbrev s_height : Stmt := inClass cTree 4
abbrev s_line_of : Stmt := inClass cTree 10
abbrev s_require_node : Stmt := inClass cTree 11
abbrev s_nodes : Stmt := inClass cTree 12
abbrev s_way_up : Stmt := inClass cTree 16
abbrev s_depth_of : Stmt := inClass cTree 17
abbrev s_path_of : Stmt := inClass cTree 18
abbrev s_nodes_under : Stmt := inClass cTree 19
abbrev s_is_under : Stmt := inClass cTree 20
abbrev s_node_at : Stmt := inClass cTree 21
abbrev s_walk : Stmt := inClass cTree 22
abbrev s_rng : Stmt := top 26
abbrev s_draw : Stmt := top 27
abbrev s_choice : Stmt := top 28
abbrev s_shuffled : Stmt := top 29
abbrev s_name : Stmt := top 30
abbrev s_names : Stmt := top 31
abbrev s_places : Stmt := top 32
abbrev s_law_way_up : Stmt := top 33
abbrev s_law_path : Stmt := top 34
abbrev s_walked : Stmt := top 35
abbrev s_told : Stmt := top 36
abbrev s_due : Stmt := top 37
abbrev s_at : Stmt := top 38
abbrev s_paths_right : Stmt := top 39
abbrev s_deep_right : Stmt := top 40
abbrev s_walks_right : Stmt := top 41
abbrev s_unknown : Stmt := top 42
abbrev s_strangers : Stmt := top 43
abbrev s_right : Stmt := top 44
abbrev s_law : Stmt := top 45
end MG
/-! text B0 -/
set_option Elab.async false
set_option linter.all false
set_option maxRecDepth 100000
set_option maxHeartbeats 4200000
/-! What all the defs lean on: the facts of the top, calls by name, data in the heap. -/
namespace MG
open PySem PySem.Spec PyProof.Rows L2

/-! ### boot's names -/
theorem bt_isinstance : bootBuiltins "isinstance" = some (.builtin "isinstance") := by decide +kernel
theorem bt_str : bootBuiltins "str" = some (.type "str") := by decide +kernel
theorem bt_tuple : bootBuiltins "tuple" = some (.type "tuple") := by decide +kernel
theorem bt_dict : bootBuiltins "dict" = some (.type "dict") := by decide +kernel
theorem bt_list : bootBuiltins "list" = some (.type "list") := by decide +kernel
theorem bt_int : bootBuiltins "int" = some (.type "int") := by decide +kernel
theorem bt_len : bootBuiltins "len" = some (.builtin "len") := by decide +kernel
theorem bt_all : bootBuiltins "all" = some (.builtin "all") := by decide +kernel
theorem bt_sorted : bootBuiltins "sorted" = some (.builtin "sorted") := by decide +kernel
theorem bt_max : bootBuiltins "max" = some (.builtin "max") := by decide +kernel
theorem bt_min : bootBuiltins "min" = some (.builtin "min") := by decide +kernel
theorem bt_abs : bootBuiltins "abs" = some (.builtin "abs") := by decide +kernel
theorem bt_divmod : bootBuiltins "divmod" = some (.builtin "divmod") := by decide +kernel
theorem bt_repr : bootBuiltins "repr" = some (.builtin "repr") := by decide +kernel

/-- what the top has left, C: the class Tree -/
structure Txt (K : PySem.W.Frag) (mg : Str → Option Value) (C : Addr) : Prop where
  g_isinstance : mg "isinstance" = none
  g_str : mg "str" = none
  g_len : mg "len" = none
  g_all : mg "all" = none
  g_tuple : mg "tuple" = none
  g_dict : mg "dict" = none
  g_sorted : mg "sorted" = none
  g_max : mg "max" = none
  g_min : mg "min" = none
  g_abs : mg "abs" = none
  g_divmod : mg "divmod" = none
  g_list : mg "list" = none
  g_range : mg "range" = none
  g_enumerate : mg "enumerate" = none
  g_repr : mg "repr" = none
  g_int : mg "int" = none
  g_LookupError : mg "LookupError" = none
  c_LETTERS : ∃ u, mg "LETTERS" = some u ∧ RelV (.str "abcdefghijklmnopqrstuvwxyz") u
  c_MOST_LETTERS : ∃ u, mg "MOST_LETTERS" = some u ∧ RelV (.int 8) u
  c_PLACE_SIZE : ∃ u, mg "PLACE_SIZE" = some u ∧ RelV (.int 2) u
  c_ROOT : ∃ u, mg "ROOT" = some u ∧ RelV (.str "root") u
  c_MOST_NODES : ∃ u, mg "MOST_NODES" = some u ∧ RelV (.int 40) u
  cl : Cls K C
  n_places : NoAttr K C "own_places"
  n_children : NoAttr K C "own_children"
  n_nodes : NoAttr K C "own_nodes"
  n_height : NoAttr K C "own_height"
  n_text : NoAttr K C "own_text"
  mgC : mg "Tree" = some (.ref C)

/-! ### a def that is called by its name, a method -/
/-- of a call's arguments the first is not starred, none of the others is -/
abbrev Row1 (X : Cx) (e : Expr) (es : List Expr) : Prop := starEach (e :: es) X.env = (false, eval e X.env) :: starEach es X.env
abbrev Flat (X : Cx) (es : List Expr) (at_ : Pos) : Prop := (backTo at_ (starEach es X.env)).any (·.1) = false
/-- o.m(es): the object, the method of it, the arguments -/
abbrev IsMeth (X : Cx) (o : Expr) (m : Str) (es : List Expr) (ap at_ : Pos) (pl : Sem Bool) : Prop := eval (.Call (.Attribute o m ap) es [] at_) X.env = (do let ov ← eval o X.env; standAt ap.atName; let (f, first) ← holding [ov] (getMethod ov m pl); callWith at_ f first (backTo at_ (starEach es X.env)) (backToKw at_ (keywordEach [] X.env)))
section
variable {P : Program} {w : World} {K : PySem.W.Frag} {mg : Str → Option Value} {base : Heap}
theorem fun_of {x qual : Str} {st : Stmt} {f : Addr} {fd : FuncData} (F : FunD K x qual (defArgs st) (defBody st) (defScope st) [] [] f fd) : Fun K x qual st f fd := by
  obtain ⟨⟨oc, od, dV, kV, doc, pm, an, cdv, ct, osl, e, lk, hcd, hd, _⟩, kp⟩ := F
  rcases hd with ⟨_, e2⟩ | ⟨h, _⟩
  · subst e2
    exact ⟨⟨oc, od, kV, doc, pm, an, cdv, ct, osl, e, lk, hcd⟩, kp⟩
  · exact absurd rfl h
/-- x(..) may be called: its promise -/
structure Cal (P : Program) (w : World) (K : PySem.W.Frag) (mg : Str → Option Value) (base : Heap) (k : Nat) (x : Str) (sp : Sp) : Prop where
  ex : ∃ (f : Addr) (fd : FuncData) (ps : List Str), FnOk P w K mg base (L2.CX P w) k f fd ps sp ∧ mg x = some (.ref f) ∧ PySem.W.keepIn K (.ref f) = true ∧ Binds K fd ps []
/-- a method m of the class at C -/
structure Met (P : Program) (w : World) (K : PySem.W.Frag) (mg : Str → Option Value) (base : Heap) (k : Nat) (C : Addr) (m : Str) (sp : Sp) : Prop where
  ex : ∃ (f : Addr) (fd : FuncData) (ps : List Str), FnOk P w K mg base (L2.CX P w) k f fd ps sp ∧ Cls K C ∧ Meth K C m f ∧ Binds K fd ps []
end
section
variable {X : Cx} {k j : Nat} {C : Addr} {x m : Str} {sp : Sp} {p pos apos : Pos} {e o : Expr} {es : List Expr} {ta : TE} {t : TA} {E : XK}
theorem pe_clX (c : Cal X.prog X.w X.K X.mg X.base k x sp) (hr : Room j X.A) (hk : k ≤ j) (hg : Gl X x) (hx : Passes (L2.CX X.prog X.w) X E) (ha : PA X (e :: es) t)
    (hdb : (x == ("__debug__" : Str)) = false := by decide) (he : Row1 X e es := by rfl) (hpl : Flat X es pos := by rfl) :
    PE X (.Call (.Name x p) (e :: es) [] pos) (tCall sp [] E t) := by
  obtain ⟨f, fd, ps, F, hm, kp, b⟩ := c.ex
  exact pe_call F (hr.mono hk) hg hm kp b .nil hx ha hdb he hpl
theorem pe_cl (c : Cal X.prog X.w X.K X.mg X.base k x sp) (hr : Room j X.A) (hk : k ≤ j) (hg : Gl X x) (ha : PA X (e :: es) t)
    (hdb : (x == ("__debug__" : Str)) = false := by decide) (he : Row1 X e es := by rfl) (hpl : Flat X es pos := by rfl) :
    PE X (.Call (.Name x p) (e :: es) [] pos) (tCall sp [] E0 t) := pe_clX c hr hk hg passL ha hdb he hpl
theorem pe_mlX {pl : Sem Bool} (c : Met X.prog X.w X.K X.mg X.base k C m sp) (hr : Room j X.A) (hk : k ≤ j) (hx : Passes (L2.CX X.prog X.w) X E) (he : PE X o ta) (ha : PA X (e :: es) t)
    (hst : Row1 X e es := by rfl) (hpl : Flat X es pos := by rfl)
    (ht : IsMeth X o m (e :: es) apos pos pl := by rfl) :
    PE X (.Call (.Attribute o m apos) (e :: es) [] pos) (tMeth C m sp [] E ta t) := by
  obtain ⟨f, fd, ps, F, hc, hm, b⟩ := c.ex
  exact pe_meth (pl := pl) he hc hm F (hr.mono hk) b .nil hx ha hst hpl ht
theorem pe_ml {pl : Sem Bool} (c : Met X.prog X.w X.K X.mg X.base k C m sp) (hr : Room j X.A) (hk : k ≤ j) (he : PE X o ta) (ha : PA X (e :: es) t)
    (hst : Row1 X e es := by rfl) (hpl : Flat X es pos := by rfl)
    (ht : IsMeth X o m (e :: es) apos pos pl := by rfl) :
    PE X (.Call (.Attribute o m apos) (e :: es) [] pos) (tMeth C m sp [] E0 ta t) := pe_mlX (pl := pl) c hr hk passL he ha hst hpl ht
theorem pe_ml0 {pl : Sem Bool} (c : Met X.prog X.w X.K X.mg X.base k C m sp) (hr : Room j X.A) (hk : k ≤ j) (he : PE X o ta)
    (ht : IsMeth X o m [] apos pos pl := by rfl) :
    PE X (.Call (.Attribute o m apos) [] [] pos) (tMeth C m sp [] E0 ta tNil) := by
  obtain ⟨f, fd, ps, F, hc, hm, b⟩ := c.ex
  exact pe_meth0 (pl := pl) he hc hm F (hr.mono hk) b .nil passL ht
end

/-! ### the heap -/
theorem Same.new {H : Hp} {p : Addr} {o : HO} (h : H p = none) : Same H (upd H p o) := fun a u e => by
  rw [upd_ne (ne_of_none e h)]
  exact e
/-- what H does not know may change -/
theorem Same.mut {H H' : Hp} {p : Addr} {o : HO} (e : Same H H') (h : H p = none) : Same H (upd H' p o) := fun a u ha => by
  rw [upd_ne (ne_of_none ha h)]
  exact e a u ha
theorem Same.rd {H H' : Hp} {a : Addr} {u : HO} (e : Same H H') (h : Rd H a u) : Rd H' a u := by
  rcases h with h | ⟨o, h⟩
  · exact .inl (e a _ h)
  · exact .inr ⟨o, e a _ h⟩
theorem Same.tup {K : PySem.W.Frag} {H H' : Hp} {a : Addr} {xs : List V} (e : Same H H') (h : SqT K H a xs) : SqT K H' a xs := by
  rcases h with h | h
  · exact .inl (Same.rd e h)
  · exact .inr h
/-- all but what stands at r -/
def Sav (r : Addr) (H H' : Hp) : Prop := ∀ b o, b ≠ r → H b = some o → H' b = some o
theorem Sav.refl (r : Addr) (H : Hp) : Sav r H H := fun _ _ _ h => h
theorem Sav.trans {r : Addr} {H H1 H2 : Hp} (a : Sav r H H1) (b : Sav r H1 H2) : Sav r H H2 := fun c o n h => b c o n (a c o n h)
theorem Sav.of {r : Addr} {H H' : Hp} (e : Same H H') : Sav r H H' := fun b o _ h => e b o h
theorem Sav.same {r : Addr} {H H' : Hp} (e : Sav r H H') (h : H r = none) : Same H H' := fun b o q => e b o (ne_of_none q h) q
theorem Sav.upd {r : Addr} {H : Hp} {o : HO} : Sav r H (upd H r o) := fun b u n h => by rw [upd_ne n]; exact h
theorem Sav.free {r : Addr} {H H' : Hp} (e : Sav r H H') {l : Addr} (h : H' l = none) (hr : H' r ≠ none) : H l = none := by
  cases q : H l with
  | none => rfl
  | some o =>
    by_cases n : l = r
    · rw [n] at h; exact absurd h hr
    · rw [e l o n q] at h; cases h

/-- places: the dict at p tells of each node of ns its place, a tuple at ad -/
structure Pl (H : Hp) (p : Addr) (ns : List Str) (par lab : Str → Str) (ad : Str → Addr) : Prop where
  d : Rd H p (.dK (ns.map fun n => ((Sum.inr n : Key), V.ref (ad n))))
  t : ∀ n, n ∈ ns → H (ad n) = some (.tup [.str (par n), .str (lab n)])
theorem Pl.same {H H' : Hp} {p : Addr} {ns : List Str} {par lab : Str → Str} {ad : Str → Addr} (h : Pl H p ns par lab ad) (e : Same H H') : Pl H' p ns par lab ad :=
  ⟨Same.rd e h.d, fun n hn => e _ _ (h.t n hn)⟩
theorem val_ns {ns : List Str} {f : Str → V} {n : Str} : valV (ns.map fun n => ((Sum.inr n : Key), f n)) (Sum.inr n : Key) = if n ∈ ns then some (f n) else none := by
  induction ns with
  | nil => rfl
  | cons m ns ih =>
    rw [List.map_cons]
    by_cases e : m = n
    · subst e
      rw [if_pos List.mem_cons_self]
      exact valV_pos (p := ((Sum.inr m : Key), f m)) rfl
    · rw [valV_neg (p := ((Sum.inr m : Key), f m)) (fun q => e (Sum.inr.inj q)), ih]
      by_cases h : n ∈ ns
      · rw [if_pos h, if_pos (List.mem_cons_of_mem _ h)]
      · rw [if_neg h, if_neg fun z => (List.mem_cons.mp z).elim (fun q => e q.symm) h]
theorem dget_rd {H : Hp} {a : Addr} {kvs : List (Key × V)} (k : Key) (h : Rd H a (.dK kvs)) : DGet H a (kV k) (valV kvs k) := .inl ⟨kvs, k, h, rfl, rfl⟩
theorem Pl.get {H : Hp} {p : Addr} {ns : List Str} {par lab : Str → Str} {ad : Str → Addr} (h : Pl H p ns par lab ad) {n : Str} (hn : n ∈ ns) : DGet H p (.str n) (some (.ref (ad n))) := by
  have z := dget_rd (Sum.inr n : Key) h.d
  rw [val_ns, if_pos hn] at z
  exact z
theorem Pl.look {H : Hp} {p : Addr} {ns : List Str} {par lab : Str → Str} {ad : Str → Addr} (h : Pl H p ns par lab ad) (n : Str) : DGet H p (.str n) (if n ∈ ns then some (.ref (ad n)) else none) := by
  have z := dget_rd (Sum.inr n : Key) h.d
  rw [val_ns] at z
  exact z

/-! ### names -/
def LET : Str := "abcdefghijklmnopqrstuvwxyz"
def nameB (x : Str) : Bool := decide (1 ≤ x.length ∧ x.length ≤ 8) && x.cps.toList.all fun c => decide (c ∈ LET.cps.toList)
/-- a value whose kind isinstance can tell -/
def Kind (K : PySem.W.Frag) (H : Hp) (v : V) (n : String) : Prop := TyX K H v (.type n)
/-- isinstance(x, T) -/
theorem isi {K : PySem.W.Frag} {H : Hp} {v : V} {n m : String} {b : Bool} {Q : VK} (hv : Kind K H v n) (h : kitB n m = some b) (q : Q (.bl b) H) : rIsi K [v, .ty m] H Q :=
  ⟨v, .ty m, .type n, .type m, b, rfl, .ty m, hv, kit_ty h, q⟩
theorem k_str {K : PySem.W.Frag} {H : Hp} (x : Str) : Kind K H (.str x) "str" := .base (.str x)
theorem strB : kitB "str" "str" = some true := by decide +kernel
theorem tupB : kitB "tuple" "tuple" = some true := by decide +kernel
theorem dicB : kitB "dict" "dict" = some true := by decide +kernel
end MG
namespace MG
open PySem PySem.Spec PyProof.Rows L2
theorem iteB {b : Bool} {A B : Prop} (h1 : b = true → A) (h2 : b = false → B) : if b = true then A else B := by
  cases b with
  | true => rw [if_pos rfl]; exact h1 rfl
  | false => rw [if_neg Bool.false_ne_true]; exact h2 rfl
theorem iteNB {b : Bool} {A B : Prop} (h1 : b = false → A) (h2 : b = true → B) : if (!b) = true then A else B := by
  cases b with
  | true => rw [if_neg (by simp)]; exact h2 rfl
  | false => rw [if_pos (by simp)]; exact h1 rfl
theorem iteD {c A B : Prop} [Decidable c] (h1 : c → A) (h2 : ¬ c → B) : if decide c = true then A else B :=
  iteB (fun h => h1 (of_decide_eq_true h)) fun h => h2 (of_decide_eq_false h)
theorem iteND {c A B : Prop} [Decidable c] (h1 : ¬ c → A) (h2 : c → B) : if (!decide c) = true then A else B :=
  iteNB (fun h => h1 (of_decide_eq_false h)) fun h => h2 (of_decide_eq_true h)
end MG
namespace MG
open PySem PySem.Spec PyProof.Rows L2
section
variable {J : It} {n : Nat} {G : Hp → Prop} {Y : Nat → Hp → V → Hp → Prop}
/-- a list comprehension over J by the turn: an invariant with a measure, at the end Qd -/
abbrev LcWalk (J : It) (g : TG) (tt : TT) (te : TE) (vs : List Nat) (σ : L2.St) (H1 : Hp) (D : Addr) (Qd : Hp → Prop) : Prop := ∃ W : Nat → Nat → Hp → Prop, (∃ m, W 0 m (upd H1 D (.lst []))) ∧ ∀ i m H, W i m H → (J.stop i H ∧ Qd H) ∨ (J.go i H ∧ ∃ Nx : Hp → Prop, (∀ H', Nx H' → ∃ m', m' < m ∧ W (i + 1) m' H') ∧ ∀ x H', J.yld i H x H' → g x (wipe σ vs) H' fun σ2 H2 => wipe σ2 vs = wipe σ vs ∧ tt σ2 H2 fun b H3 => if b = true then te σ2 H3 fun y H4 => ∃ acc, H4 D = some (.lst acc) ∧ acc.length < sizeLine ∧ Nx (upd H4 D (.lst (acc ++ [y]))) else Nx H3)
/-- the same of a dict comprehension -/
abbrev DcWalk (J : It) (g : TG) (tt : TT) (tk tv : TE) (vs : List Nat) (σ : L2.St) (H1 : Hp) (D : Addr) (Qd : Hp → Prop) : Prop := ∃ W : Nat → Nat → Hp → Prop, (∃ m, W 0 m (upd H1 D (.dK []))) ∧ ∀ i m H, W i m H → (J.stop i H ∧ Qd H) ∨ (J.go i H ∧ ∃ Nx : Hp → Prop, (∀ H', Nx H' → ∃ m', m' < m ∧ W (i + 1) m' H') ∧ ∀ x H', J.yld i H x H' → g x (wipe σ vs) H' fun σ2 H2 => wipe σ2 vs = wipe σ vs ∧ tt σ2 H2 fun b H3 => if b = true then tk σ2 H3 fun y H4 => tv σ2 H4 fun z H5 => ∃ kvs k, y = kV k ∧ H5 D = some (.dK kvs) ∧ kvs.length < sizeLine ∧ Nx (upd H5 D (.dK (putK kvs k z))) else Nx H3)
/-- a comprehension that changes nothing that stood: acc, what is made by the turn -/
theorem lc_pure (w : Walk J n G Y) {g : TG} {tt : TT} {te : TE} {vs : List Nat} {σ : L2.St} {H1 : Hp} {D : Addr} {Qd : Hp → Prop} (hD : H1 D = none) (acc : Nat → List V) (h0 : acc 0 = []) (hl : ∀ i, i < n → (acc i).length < sizeLine) (hG : ∀ H', Same H1 H' → G H')
    (hs : ∀ (i : Nat) (x : V) (H H' : Hp) (Kt : V → Hp → Prop) (Kf : Hp → Prop), i < n → Same H1 H → Y i H x H' → (∀ y H4, Same H H4 → acc (i + 1) = acc i ++ [y] → Kt y H4) → (∀ H4, Same H H4 → acc (i + 1) = acc i → Kf H4) →
      g x (wipe σ vs) H' fun σ2 H2 => wipe σ2 vs = wipe σ vs ∧ tt σ2 H2 fun b H3 => if b = true then te σ2 H3 Kt else Kf H3) (hd : ∀ H', Same H1 H' → H' D = some (.lst (acc n)) → Qd H') :
    LcWalk J g tt te vs σ H1 D Qd :=
  lc_it w (fun i H' => Same H1 H' ∧ H' D = some (.lst (acc i))) ⟨Same.new hD, by rw [h0]; exact upd_same⟩ (fun i H' _ p => hG H' p.1)
    (fun i x H H' hi p y => hs i x H H' _ _ hi p.1 y (fun y H4 s e => ⟨acc i, s _ _ p.2, hl i hi, Same.mut (p.1.trans s) hD, by rw [upd_same, e]⟩) fun H4 s e => ⟨p.1.trans s, by rw [e]; exact s _ _ p.2⟩) fun H' p => hd H' p.1 p.2
/-- the same without a test -/
theorem lc_each (w : Walk J n G Y) {g : TG} {te : TE} {vs : List Nat} {σ : L2.St} {H1 : Hp} {D : Addr} {Qd : Hp → Prop} (hD : H1 D = none) (acc : Nat → List V) (h0 : acc 0 = []) (hl : ∀ i, i < n → (acc i).length < sizeLine) (hG : ∀ H', Same H1 H' → G H')
    (hs : ∀ (i : Nat) (x : V) (H H' : Hp) (Kt : V → Hp → Prop), i < n → Same H1 H → Y i H x H' → (∀ y H4, Same H H4 → acc (i + 1) = acc i ++ [y] → Kt y H4) →
      g x (wipe σ vs) H' fun σ2 H2 => wipe σ2 vs = wipe σ vs ∧ te σ2 H2 Kt) (hd : ∀ H', Same H1 H' → H' D = some (.lst (acc n)) → Qd H') :
    LcWalk J g tYes te vs σ H1 D Qd :=
  lc_pure w hD acc h0 hl hG (fun i x H H' Kt Kf hi s y k1 _ => hs i x H H' Kt hi s y k1) hd
end
theorem take_map {α : Type} {f : α → V} (l : List α) (i : Nat) (x : α) (h : l[i]? = some x) : (l.take (i + 1)).map f = (l.take i).map f ++ [f x] := by
  rw [List.take_add_one, h, List.map_append]; rfl
theorem take_lt {α : Type} {f : α → V} {l : List α} {i : Nat} (hl : l.length ≤ sizeLine) (h : i < l.length) : ((l.take i).map f).length < sizeLine := by
  rw [List.length_map, List.length_take]; omega
end MG
/-! text Math1 -/
/-! Plain laws of a tree told by parents: ways up, preorder, the two walks. Core Lean alone. -/
namespace MG
set_option maxRecDepth 100000
set_option linter.all false
section
variable {N : Type} [DecidableEq N]

/-- the way up, by fuel -/
def up (par : N → N) (r : N) : Nat → N → List N
  | 0, n => [n]
  | k + 1, n => if n = r then [n] else n :: up par r k (par n)

/-- a tree: its nodes, each one's parent, a rank that falls towards the root -/
structure Tree (r : N) (ns : List N) (par : N → N) : Prop where
  nd : ns.Nodup
  nr : r ∉ ns
  pin : ∀ n, n ∈ ns → par n = r ∨ par n ∈ ns
  rk : ∃ rk : N → Nat, rk r = 0 ∧ (∀ n, n ∈ ns → rk n ≤ 40) ∧ ∀ n, n ∈ ns → rk (par n) < rk n

abbrev W (par : N → N) (r : N) (n : N) : List N := up par r 41 n

variable {r : N} {ns : List N} {par : N → N}

theorem up_root (k : Nat) : up par r k r = [r] := by cases k <;> simp [up]
theorem up_head (k : Nat) (n : N) : ∃ t, up par r k n = n :: t := by
  cases k with
  | zero => exact ⟨[], rfl⟩
  | succ k =>
    unfold up
    by_cases h : n = r
    · rw [if_pos h]; exact ⟨[], rfl⟩
    · rw [if_neg h]; exact ⟨_, rfl⟩

/-- enough fuel is enough -/
theorem up_more (rk : N → Nat) (h0 : rk r = 0) (hd : ∀ n, n ∈ ns → rk (par n) < rk n) (hp : ∀ n, n ∈ ns → par n = r ∨ par n ∈ ns) : ∀ (k j : Nat) (n : N), n = r ∨ n ∈ ns → rk n ≤ k → rk n ≤ j → up par r k n = up par r j n := by
  intro k
  induction k with
  | zero =>
    intro j n hn hk hj
    rcases hn with rfl | hn
    · rw [up_root, up_root]
    · have := hd n hn; omega
  | succ k ih =>
    intro j n hn hk hj
    rcases hn with rfl | hn
    · rw [up_root, up_root]
    · have h1 := hd n hn
      cases j with
      | zero => omega
      | succ j =>
        unfold up
        by_cases e : n = r
        · rw [if_pos e, if_pos e]
        · rw [if_neg e, if_neg e, ih j (par n) (hp n hn) (by omega) (by omega)]

theorem Tree.W_root (_T : Tree r ns par) : W par r r = [r] := up_root 41
theorem Tree.W_node (T : Tree r ns par) {n : N} (hn : n ∈ ns) : W par r n = n :: W par r (par n) := by
  obtain ⟨rk, h0, h1, h2⟩ := T.rk
  have e : n ≠ r := fun q => T.nr (q ▸ hn)
  have e1 : up par r 41 n = n :: up par r 40 (par n) := by
    show (if n = r then [n] else n :: up par r 40 (par n)) = _
    rw [if_neg e]
  have a := h1 n hn
  have b := h2 n hn
  show up par r 41 n = n :: up par r 41 (par n)
  rw [e1, up_more rk h0 h2 T.pin 40 41 (par n) (T.pin n hn) (by omega) (by omega)]

/-- induction from the root down -/
theorem Tree.ind (T : Tree r ns par) {P : N → Prop} (hr : P r) (hs : ∀ n, n ∈ ns → P (par n) → P n) : ∀ n, n = r ∨ n ∈ ns → P n := by
  obtain ⟨rk, h0, h1, h2⟩ := T.rk
  have key : ∀ (k : Nat) (n : N), rk n ≤ k → n = r ∨ n ∈ ns → P n := by
    intro k
    induction k with
    | zero =>
      intro n hk hn
      rcases hn with rfl | hn
      · exact hr
      · have := h2 n hn; omega
    | succ k ih =>
      intro n hk hn
      rcases hn with rfl | hn
      · exact hr
      · exact hs n hn (ih (par n) (by have := h2 n hn; omega) (T.pin n hn))
  intro n hn
  exact key (rk n) n (Nat.le_refl _) hn

theorem Tree.W_self (T : Tree r ns par) (n : N) : n ∈ W par r n := by
  obtain ⟨t, e⟩ := up_head (par := par) (r := r) 41 n
  show n ∈ up par r 41 n
  rw [e]; exact List.mem_cons_self
theorem Tree.W_has (T : Tree r ns par) : ∀ n, n = r ∨ n ∈ ns → r ∈ W par r n :=
  T.ind (by rw [T.W_root]; simp) fun n hn ih => by rw [T.W_node hn]; exact List.mem_cons_of_mem _ ih
theorem Tree.W_in (T : Tree r ns par) : ∀ n, n = r ∨ n ∈ ns → ∀ x, x ∈ W par r n → x = r ∨ x ∈ ns :=
  T.ind (fun x hx => by rw [T.W_root] at hx; exact .inl (by simpa using hx)) fun n hn ih x hx => by
    rw [T.W_node hn] at hx
    rcases List.mem_cons.mp hx with rfl | hx
    · exact .inr hn
    · exact ih x hx
/-- one on the way up: its way is the end of the way -/
theorem Tree.W_suffix (T : Tree r ns par) : ∀ n, n = r ∨ n ∈ ns → ∀ x, x ∈ W par r n → W par r x <:+ W par r n :=
  T.ind (fun x hx => by
    rw [T.W_root] at hx
    have e : x = r := by simpa using hx
    rw [e]; exact List.suffix_refl _) fun n hn ih x hx => by
    rw [T.W_node hn] at hx
    rcases List.mem_cons.mp hx with rfl | hx
    · exact List.suffix_refl _
    · rw [T.W_node hn]
      exact (ih x hx).trans (List.suffix_cons _ _)
theorem Tree.W_trans (T : Tree r ns par) {n x y : N} (hn : n = r ∨ n ∈ ns) (hx : x ∈ W par r n) (hy : y ∈ W par r x) : y ∈ W par r n :=
  (T.W_suffix n hn x hx).subset hy
theorem Tree.W_nd (T : Tree r ns par) : ∀ n, n = r ∨ n ∈ ns → (W par r n).Nodup := by
  obtain ⟨rk, h0, h1, h2⟩ := T.rk
  have low : ∀ n, n = r ∨ n ∈ ns → ∀ x, x ∈ W par r n → rk x ≤ rk n :=
    T.ind (fun x hx => by
      rw [T.W_root] at hx
      have e : x = r := by simpa using hx
      rw [e]; exact Nat.le_refl _) fun n hn ih x hx => by
      rw [T.W_node hn] at hx
      rcases List.mem_cons.mp hx with rfl | hx
      · exact Nat.le_refl _
      · have a := ih x hx
        have b := h2 n hn
        omega
  refine T.ind (by rw [T.W_root]; simp) fun n hn ih => ?_
  rw [T.W_node hn]
  refine List.nodup_cons.mpr ⟨fun hm => ?_, ih⟩
  have a := low (par n) (T.pin n hn) n hm
  have b := h2 n hn
  omega
theorem Tree.W_le (T : Tree r ns par) {n : N} (hn : n = r ∨ n ∈ ns) : (W par r n).length ≤ 41 := by
  obtain ⟨rk, h0, h1, h2⟩ := T.rk
  have key : ∀ n, n = r ∨ n ∈ ns → (W par r n).length ≤ rk n + 1 :=
    T.ind (by rw [T.W_root]; simp) fun n hn ih => by
      rw [T.W_node hn]
      have := h2 n hn
      simp only [List.length_cons]
      omega
  have a := key n hn
  rcases hn with rfl | hn
  · omega
  · have := h1 n hn; omega
theorem Tree.W_pos (T : Tree r ns par) (n : N) : 0 < (W par r n).length := List.length_pos_of_mem (T.W_self n)
/-- two ends of one list of one length -/
theorem suffix_same {α : Type} {a b l : List α} (ha : a <:+ l) (hb : b <:+ l) (h : a.length = b.length) : a = b := by
  have h1 := List.suffix_of_suffix_length_le ha hb (by omega)
  exact h1.eq_of_length h
/-- two of one parent on one way are one -/
theorem Tree.W_one (T : Tree r ns par) {n x y : N} (hn : n = r ∨ n ∈ ns) (hx : x ∈ W par r n) (hy : y ∈ W par r n) (hxn : x ∈ ns) (hyn : y ∈ ns) (e : par x = par y) : x = y := by
  have h1 := T.W_suffix n hn x hx
  have h2 := T.W_suffix n hn y hy
  have e2 := suffix_same h1 h2 (by rw [T.W_node hxn, T.W_node hyn, e]; rfl)
  rw [T.W_node hxn, T.W_node hyn] at e2
  exact (List.cons.inj e2).1
/-- each on the other's way: the same -/
theorem Tree.W_anti (T : Tree r ns par) {x y : N} (hx : x = r ∨ x ∈ ns) (hy : y = r ∨ y ∈ ns) (a : x ∈ W par r y) (b : y ∈ W par r x) : x = y := by
  have h1 := T.W_suffix y hy x a
  have h2 := T.W_suffix x hx y b
  have e := h1.eq_of_length (Nat.le_antisymm h1.length_le h2.length_le)
  obtain ⟨t, ex⟩ := up_head (par := par) (r := r) 41 x
  obtain ⟨u, ey⟩ := up_head (par := par) (r := r) 41 y
  have e' : up par r 41 x = up par r 41 y := e
  rw [ex, ey] at e'
  exact (List.cons.inj e').1

/-! ### children and the preorder -/
structure Kids (ns : List N) (par : N → N) (ch : N → List N) : Prop where
  mem : ∀ p q, q ∈ ch p ↔ (q ∈ ns ∧ par q = p)
  nd : ∀ p, (ch p).Nodup

def preK (ch : N → List N) : Nat → N → List N
  | 0, n => [n]
  | k + 1, n => n :: (ch n).flatMap (preK ch k)
abbrev pre (ch : N → List N) (n : N) : List N := preK ch 41 n

variable {ch : N → List N}
theorem preK_head (k : Nat) (n : N) : ∃ t, preK ch k n = n :: t := by cases k <;> exact ⟨_, rfl⟩
theorem flatMap_congr {α β : Type} {f g : α → List β} : ∀ {l : List α}, (∀ x, x ∈ l → f x = g x) → l.flatMap f = l.flatMap g
  | [], _ => rfl
  | x :: l, h => by
    rw [List.flatMap_cons, List.flatMap_cons, h x List.mem_cons_self, flatMap_congr fun y hy => h y (List.mem_cons_of_mem _ hy)]

theorem preK_more (T : Tree r ns par) (C : Kids ns par ch) (rk : N → Nat) (h1 : ∀ n, n ∈ ns → rk n ≤ 40) (h2 : ∀ n, n ∈ ns → rk (par n) < rk n) :
    ∀ (k j : Nat) (n : N), 40 ≤ rk n + k → 40 ≤ rk n + j → preK ch k n = preK ch j n := by
  have none : ∀ n, 40 ≤ rk n → ch n = [] := fun n h => by
    cases e : ch n with
    | nil => rfl
    | cons q t =>
      have hq : q ∈ ch n := by rw [e]; exact List.mem_cons_self
      obtain ⟨a, b⟩ := (C.mem n q).mp hq
      have c := h1 q a
      have d := h2 q a
      rw [b] at d
      omega
  intro k
  induction k with
  | zero =>
    intro j n hk hj
    have e := none n (by omega)
    cases j with
    | zero => rfl
    | succ j => show [n] = n :: (ch n).flatMap _; rw [e]; rfl
  | succ k ih =>
    intro j n hk hj
    cases j with
    | zero =>
      have e := none n (by omega)
      show n :: (ch n).flatMap _ = [n]; rw [e]; rfl
    | succ j =>
      show n :: (ch n).flatMap (preK ch k) = n :: (ch n).flatMap (preK ch j)
      rw [flatMap_congr fun q hq => ?_]
      obtain ⟨a, b⟩ := (C.mem n q).mp hq
      have d := h2 q a
      rw [b] at d
      exact ih j q (by omega) (by omega)
theorem pre_eq (T : Tree r ns par) (C : Kids ns par ch) (n : N) : pre ch n = n :: (ch n).flatMap (pre ch) := by
  obtain ⟨rk, h0, h1, h2⟩ := T.rk
  show preK ch (40 + 1) n = _
  show n :: (ch n).flatMap (preK ch 40) = n :: (ch n).flatMap (preK ch 41)
  rw [flatMap_congr fun q hq => preK_more T C rk h1 h2 40 41 q (by omega) (by omega)]
theorem pre_self (n : N) : n ∈ pre ch n := by
  obtain ⟨t, e⟩ := preK_head (ch := ch) 41 n
  show n ∈ preK ch 41 n
  rw [e]; exact List.mem_cons_self

/-- induction from the leaves up -/
theorem Tree.down (T : Tree r ns par) (C : Kids ns par ch) {P : N → Prop} (hs : ∀ n, n = r ∨ n ∈ ns → (∀ q, q ∈ ch n → P q) → P n) : ∀ n, n = r ∨ n ∈ ns → P n := by
  obtain ⟨rk, h0, h1, h2⟩ := T.rk
  have key : ∀ (k : Nat) (n : N), 40 ≤ rk n + k → n = r ∨ n ∈ ns → P n := by
    intro k
    induction k with
    | zero =>
      intro n hk hn
      refine hs n hn fun q hq => ?_
      obtain ⟨a, b⟩ := (C.mem n q).mp hq
      have c := h1 q a
      have d := h2 q a
      rw [b] at d
      omega
    | succ k ih =>
      intro n hk hn
      refine hs n hn fun q hq => ?_
      obtain ⟨a, b⟩ := (C.mem n q).mp hq
      have d := h2 q a
      rw [b] at d
      exact ih q (by omega) (.inr a)
  intro n hn
  exact key 40 n (by omega) hn

/-- who is in the preorder -/
theorem mem_pre (T : Tree r ns par) (C : Kids ns par ch) : ∀ n, n = r ∨ n ∈ ns → ∀ x, x ∈ pre ch n ↔ ((x = r ∨ x ∈ ns) ∧ n ∈ W par r x) := by
  refine T.down C fun n hn ih x => ?_
  rw [pre_eq T C n]
  constructor
  · intro h
    rcases List.mem_cons.mp h with rfl | h
    · exact ⟨hn, T.W_self _⟩
    · obtain ⟨q, hq, hx⟩ := List.mem_flatMap.mp h
      obtain ⟨a, b⟩ := (ih q hq x).mp hx
      obtain ⟨c, d⟩ := (C.mem n q).mp hq
      refine ⟨a, T.W_trans a b ?_⟩
      rw [T.W_node c, d]
      exact List.mem_cons_of_mem _ (T.W_self n)
  · rintro ⟨hx, hw⟩
    refine T.ind (P := fun x => n ∈ W par r x → x ∈ n :: (ch n).flatMap (pre ch)) (fun h => ?_) (fun y hy ih2 h => ?_) x hx hw
    · rw [T.W_root] at h
      have e : n = r := by simpa using h
      rw [e]; exact List.mem_cons_self
    · rw [T.W_node hy] at h
      rcases List.mem_cons.mp h with e | h
      · rw [e]; exact List.mem_cons_self
      · rcases List.mem_cons.mp (ih2 h) with e | h3
        · exact List.mem_cons_of_mem _ (List.mem_flatMap.mpr ⟨y, (C.mem n y).mpr ⟨hy, e⟩, pre_self y⟩)
        · obtain ⟨q, hq, h4⟩ := List.mem_flatMap.mp h3
          refine List.mem_cons_of_mem _ (List.mem_flatMap.mpr ⟨q, hq, (ih q hq y).mpr ⟨.inr hy, ?_⟩⟩)
          rw [T.W_node hy]
          exact List.mem_cons_of_mem _ ((ih q hq (par y)).mp h4).2
theorem pre_in (T : Tree r ns par) (C : Kids ns par ch) {n x : N} (hn : n = r ∨ n ∈ ns) (h : x ∈ pre ch n) : x = r ∨ x ∈ ns := ((mem_pre T C n hn x).mp h).1
theorem mem_pre_root (T : Tree r ns par) (C : Kids ns par ch) (x : N) : x ∈ pre ch r ↔ (x = r ∨ x ∈ ns) :=
  ⟨fun h => pre_in T C (.inl rfl) h, fun h => (mem_pre T C r (.inl rfl) x).mpr ⟨h, T.W_has x h⟩⟩

theorem nodup_flatMap {α β : Type} {f : α → List β} : ∀ {l : List α}, l.Nodup → (∀ x, x ∈ l → (f x).Nodup) → (∀ x y z, x ∈ l → y ∈ l → z ∈ f x → z ∈ f y → x = y) → (l.flatMap f).Nodup
  | [], _, _, _ => by simp
  | x :: l, h, h1, h2 => by
    rw [List.flatMap_cons]
    obtain ⟨a, b⟩ := List.nodup_cons.mp h
    refine List.nodup_append.mpr ⟨h1 x List.mem_cons_self, nodup_flatMap b (fun y hy => h1 y (List.mem_cons_of_mem _ hy)) fun y y' z hy hy' => h2 y y' z (List.mem_cons_of_mem _ hy) (List.mem_cons_of_mem _ hy'), fun z hz z' hz' e => ?_⟩
    subst e
    obtain ⟨y, hy, hyz⟩ := List.mem_flatMap.mp hz'
    have e2 := h2 x y z List.mem_cons_self (List.mem_cons_of_mem _ hy) hz hyz
    subst e2
    exact a hy
theorem pre_nd (T : Tree r ns par) (C : Kids ns par ch) : ∀ n, n = r ∨ n ∈ ns → (pre ch n).Nodup := by
  refine T.down C fun n hn ih => ?_
  rw [pre_eq T C n]
  refine List.nodup_cons.mpr ⟨fun h => ?_, nodup_flatMap (C.nd n) ih fun q q' z hq hq' hz hz' => ?_⟩
  · obtain ⟨q, hq, hx⟩ := List.mem_flatMap.mp h
    obtain ⟨c, d⟩ := (C.mem n q).mp hq
    have a := ((mem_pre T C q (.inr c) n).mp hx).2
    have b : n ∈ W par r q := by rw [T.W_node c, d]; exact List.mem_cons_of_mem _ (T.W_self n)
    have e := T.W_anti (.inr c) hn a b
    have nd := T.W_nd q (.inr c)
    rw [T.W_node c, d, e] at nd
    exact (List.nodup_cons.mp nd).1 (T.W_self n)
  · obtain ⟨c, d⟩ := (C.mem n q).mp hq
    obtain ⟨c', d'⟩ := (C.mem n q').mp hq'
    obtain ⟨a1, a2⟩ := (mem_pre T C q (.inr c) z).mp hz
    obtain ⟨b1, b2⟩ := (mem_pre T C q' (.inr c') z).mp hz'
    exact T.W_one a1 a2 b2 c c' (d.trans d'.symm)

theorem flatMap_one {α β : Type} [DecidableEq α] {f : α → List β} {c : α} : ∀ {l : List α}, l.Nodup → c ∈ l → (∀ x, x ∈ l → x ≠ c → f x = []) → l.flatMap f = f c
  | [], _, h, _ => by simp at h
  | x :: l, hn, h, hz => by
    obtain ⟨a, b⟩ := List.nodup_cons.mp hn
    rw [List.flatMap_cons]
    by_cases e : x = c
    · subst e
      have : l.flatMap f = [] := by
        rw [List.flatMap_eq_nil_iff]
        intro y hy
        exact hz y (List.mem_cons_of_mem _ hy) fun q => a (q ▸ hy)
      rw [this, List.append_nil]
    · rw [hz x List.mem_cons_self e, List.nil_append]
      rcases List.mem_cons.mp h with q | q
      · exact absurd q.symm e
      · exact flatMap_one b q fun y hy => hz y (List.mem_cons_of_mem _ hy)
/-- those under n, in the walk of one above it, are n's own walk -/
theorem pre_filter (T : Tree r ns par) (C : Kids ns par ch) {n : N} (hn : n = r ∨ n ∈ ns) : ∀ m, m = r ∨ m ∈ ns → n ∈ pre ch m → (pre ch m).filter (fun x => decide (n ∈ W par r x)) = pre ch n := by
  refine T.down C fun m hm ih h => ?_
  by_cases e : m = n
  · subst e
    exact List.filter_eq_self.mpr fun x hx => decide_eq_true ((mem_pre T C m hm x).mp hx).2
  · have hw := ((mem_pre T C m hm n).mp h).2
    have nw : n ∉ W par r m := fun q => e (T.W_anti hm hn hw q)
    have h' := h
    rw [pre_eq T C m] at h' ⊢
    rw [List.filter_cons_of_neg (by simpa using nw), List.filter_flatMap]
    rcases List.mem_cons.mp h' with q | q
    · exact absurd q.symm e
    · obtain ⟨c, hc, hnc⟩ := List.mem_flatMap.mp q
      obtain ⟨c1, c2⟩ := (C.mem m c).mp hc
      have wc := ((mem_pre T C c (.inr c1) n).mp hnc).2
      rw [flatMap_one (f := fun b => (pre ch b).filter fun x => decide (n ∈ W par r x)) (C.nd m) hc fun x hx hne => ?_]
      · exact ih c hc hnc
      · obtain ⟨d1, d2⟩ := (C.mem m x).mp hx
        refine List.filter_eq_nil_iff.mpr fun y hy => ?_
        obtain ⟨y1, y2⟩ := (mem_pre T C x (.inr d1) y).mp hy
        intro hny
        have hny' : n ∈ W par r y := of_decide_eq_true hny
        exact hne (T.W_one y1 y2 (T.W_trans y1 hny' wc) d1 c1 (d2.trans c2.symm))
theorem pre_under (T : Tree r ns par) (C : Kids ns par ch) {n : N} (hn : n = r ∨ n ∈ ns) : (pre ch r).filter (fun x => decide (n ∈ W par r x)) = pre ch n :=
  pre_filter T C hn r (.inl rfl) ((mem_pre_root T C n).mpr hn)
theorem pre_len (T : Tree r ns par) (C : Kids ns par ch) : (pre ch r).length = ns.length + 1 := by
  have hp : (pre ch r).Perm (r :: ns) := (List.perm_ext_iff_of_nodup (pre_nd T C r (.inl rfl)) (List.nodup_cons.mpr ⟨T.nr, T.nd⟩)).mpr fun x => by
    rw [mem_pre_root T C x, List.mem_cons]
  rw [hp.length_eq]; rfl

/-! ### the program's walk, by a pile -/
theorem pile_turn (T : Tree r ns par) (C : Kids ns par ch) {found : List N} {waiting : List N} {here : N} : found ++ (waiting ++ [here]).reverse.flatMap (pre ch) = (found ++ [here]) ++ (waiting ++ (ch here).reverse).reverse.flatMap (pre ch) := by
  rw [List.reverse_append, List.reverse_append, List.reverse_reverse]
  show found ++ (here :: waiting.reverse).flatMap (pre ch) = _
  rw [List.flatMap_cons, pre_eq T C here, List.flatMap_append]
  simp
/-- what is still ahead grows less -/
theorem pile_less (T : Tree r ns par) (C : Kids ns par ch) {waiting : List N} {here : N} : ((waiting ++ (ch here).reverse).flatMap (pre ch)).length + 1 = ((waiting ++ [here]).flatMap (pre ch)).length := by
  have e : ∀ l : List N, (l.reverse.flatMap (pre ch)).length = (l.flatMap (pre ch)).length := fun l => by
    simp only [List.length_flatMap]
    rw [List.map_reverse, List.sum_reverse]
  rw [List.flatMap_append, List.flatMap_append, List.length_append, List.length_append, e]
  show _ = _ + ([here].flatMap (pre ch)).length
  rw [List.flatMap_cons, List.flatMap_nil, List.append_nil, pre_eq T C here]
  simp only [List.length_cons]
  omega

/-! ### the law's walk, by a queue -/
def ext (ch : N → List N) (ahead : List N) (n : N) : List N := if n ∈ ahead then pre ch n else [n]
structure Queue (r : N) (ch : N → List N) (found ahead : List N) : Prop where
  all : found.flatMap (ext ch ahead) = pre ch r
  sub : ∀ x, x ∈ ahead → x ∈ found
theorem sublist_flatMap {α : Type} {f : α → List α} (h : ∀ x, ∃ t, f x = x :: t) : ∀ l : List α, l.Sublist (l.flatMap f)
  | [] => by simp
  | x :: l => by
    rw [List.flatMap_cons]
    obtain ⟨t, e⟩ := h x
    rw [e, List.cons_append]
    exact ((sublist_flatMap h l).trans (List.sublist_append_right t _)).cons_cons x
theorem ext_head (ch : N → List N) (ahead : List N) (x : N) : ∃ t, ext ch ahead x = x :: t := by
  unfold ext
  split
  · exact preK_head 41 x
  · exact ⟨[], rfl⟩
theorem Queue.start : Queue r ch [r] [r] := ⟨by simp [ext], fun x h => h⟩
theorem Queue.nd (T : Tree r ns par) (C : Kids ns par ch) {found ahead : List N} (q : Queue r ch found ahead) : found.Nodup :=
  (sublist_flatMap (ext_head ch ahead) found).nodup (q.all ▸ pre_nd T C r (.inl rfl))
theorem Queue.mem (T : Tree r ns par) (C : Kids ns par ch) {found ahead : List N} (q : Queue r ch found ahead) {x : N} (h : x ∈ found) : x = r ∨ x ∈ ns :=
  (mem_pre_root T C x).mp (q.all ▸ (sublist_flatMap (ext_head ch ahead) found).subset h)
theorem Queue.turn (T : Tree r ns par) (C : Kids ns par ch) {a b : List N} {here : N} {ahead : List N} (q : Queue r ch (a ++ here :: b) (here :: ahead)) (hnd : (here :: ahead).Nodup) :
    Queue r ch (a ++ here :: (ch here ++ b)) (ahead ++ ch here) ∧ (ahead ++ ch here).Nodup := by
  have nd := q.nd T C
  have all := q.all
  have hndA : here ∉ ahead := (List.nodup_cons.mp hnd).1
  have eHere : ext ch (here :: ahead) here = pre ch here := by unfold ext; rw [if_pos List.mem_cons_self]
  have big := pre_nd T C r (.inl rfl)
  rw [← all, List.flatMap_append, List.flatMap_cons, eHere] at big
  -- those below stand nowhere among the found ones
  have below : ∀ x, x ∈ ch here → x ∉ a ∧ x ∉ b ∧ x ≠ here := fun x hx => by
    have hxp : x ∈ pre ch here := by
      rw [pre_eq T C here]
      exact List.mem_cons_of_mem _ (List.mem_flatMap.mpr ⟨x, hx, pre_self x⟩)
    have hne : x ≠ here := fun e => by
      have ndp := pre_nd T C here (q.mem T C (List.mem_append_right _ List.mem_cons_self))
      rw [pre_eq T C here] at ndp
      exact (List.nodup_cons.mp ndp).1 (List.mem_flatMap.mpr ⟨here, e ▸ hx, pre_self here⟩)
    obtain ⟨_, big2, dis⟩ := List.nodup_append.mp big
    obtain ⟨_, _, dis2⟩ := List.nodup_append.mp big2
    refine ⟨fun ha => ?_, fun hb => ?_, hne⟩
    · exact dis x ((sublist_flatMap (ext_head ch _) a).subset ha) x (List.mem_append_left _ hxp) rfl
    · exact dis2 x hxp x ((sublist_flatMap (ext_head ch _) b).subset hb) rfl
  obtain ⟨na, nhb, dab⟩ := List.nodup_append.mp nd
  obtain ⟨nhb1, nb⟩ := List.nodup_cons.mp nhb
  have sA : ∀ x, x ∈ a → ext ch (ahead ++ ch here) x = ext ch (here :: ahead) x := fun x hx => by
    have h1 : x ∉ ch here := fun h => (below x h).1 hx
    have h2 : x ≠ here := fun e => dab x hx here List.mem_cons_self e
    unfold ext
    by_cases h3 : x ∈ ahead
    · rw [if_pos (List.mem_append_left _ h3), if_pos (List.mem_cons_of_mem _ h3)]
    · rw [if_neg (fun z => (List.mem_append.mp z).elim h3 h1), if_neg (fun z => (List.mem_cons.mp z).elim h2 h3)]
  have sB : ∀ x, x ∈ b → ext ch (ahead ++ ch here) x = ext ch (here :: ahead) x := fun x hx => by
    have h1 : x ∉ ch here := fun h => (below x h).2.1 hx
    have h2 : x ≠ here := fun e => nhb1 (e ▸ hx)
    unfold ext
    by_cases h3 : x ∈ ahead
    · rw [if_pos (List.mem_append_left _ h3), if_pos (List.mem_cons_of_mem _ h3)]
    · rw [if_neg (fun z => (List.mem_append.mp z).elim h3 h1), if_neg (fun z => (List.mem_cons.mp z).elim h2 h3)]
  have sH : ext ch (ahead ++ ch here) here = [here] := by
    unfold ext
    rw [if_neg fun z => (List.mem_append.mp z).elim hndA fun h => (below here h).2.2 rfl]
  have sC : (ch here).flatMap (ext ch (ahead ++ ch here)) = (ch here).flatMap (pre ch) := flatMap_congr fun x hx => by
    unfold ext
    rw [if_pos (List.mem_append_right _ hx)]
  refine ⟨⟨?_, fun x hx => ?_⟩, ?_⟩
  · rw [← all, List.flatMap_append, List.flatMap_cons, List.flatMap_append, List.flatMap_append, List.flatMap_cons, eHere, sH, sC, flatMap_congr sA, flatMap_congr sB, pre_eq T C here]
    simp
  · rcases List.mem_append.mp hx with h | h
    · have h2 := q.sub x (List.mem_cons_of_mem _ h)
      rcases List.mem_append.mp h2 with h3 | h3
      · exact List.mem_append_left _ h3
      · rcases List.mem_cons.mp h3 with e | h4
        · exact absurd (e ▸ h) hndA
        · exact List.mem_append_right _ (List.mem_cons_of_mem _ (List.mem_append_right _ h4))
    · exact List.mem_append_right _ (List.mem_cons_of_mem _ (List.mem_append_left _ h))
  · refine List.nodup_append.mpr ⟨(List.nodup_cons.mp hnd).2, C.nd here, fun x hx y hy e => ?_⟩
    subst e
    have h2 := q.sub x (List.mem_cons_of_mem _ hx)
    obtain ⟨z1, z2, z3⟩ := below x hy
    rcases List.mem_append.mp h2 with h3 | h3
    · exact z1 h3
    · rcases List.mem_cons.mp h3 with e | h4
      · exact z3 e
      · exact z2 h4
theorem Queue.done {found : List N} (q : Queue r ch found []) : found = pre ch r := by
  have e : ∀ l : List N, l.flatMap (ext ch []) = l := fun l => by
    induction l with
    | nil => rfl
    | cons x l ih =>
      rw [List.flatMap_cons, ih]
      unfold ext
      rw [if_neg (by simp)]; rfl
  rw [← q.all, e]
theorem queue_less (T : Tree r ns par) (C : Kids ns par ch) {here : N} {ahead : List N} : ((ahead ++ ch here).flatMap (pre ch)).length + 1 = ((here :: ahead).flatMap (pre ch)).length := by
  rw [List.flatMap_append, List.flatMap_cons, pre_eq T C here]
  simp only [List.length_append, List.length_cons]
  omega
end
end MG
/-! text Math2 -/
/-! Paths of a tree, and the node at a path. Core Lean alone. -/
namespace MG
set_option maxRecDepth 100000
set_option linter.all false
section
variable {N : Type} [DecidableEq N] {r : N} {ns : List N} {par lab : N → N}

/-- the labels on the way up, the one next to the root first -/
def path (par lab : N → N) (r n : N) : List N := ((W par r n).dropLast.map lab).reverse
theorem path_root (T : Tree r ns par) : path par lab r r = [] := by
  unfold path
  rw [T.W_root]; rfl
theorem path_node (T : Tree r ns par) {n : N} (hn : n ∈ ns) : path par lab r n = path par lab r (par n) ++ [lab n] := by
  unfold path
  rw [T.W_node hn, List.dropLast_cons_of_ne_nil (List.ne_nil_of_mem (T.W_self (par n)))]
  simp
theorem path_len (T : Tree r ns par) (n : N) : (path par lab r n).length = (W par r n).length - 1 := by
  unfold path
  rw [List.length_reverse, List.length_map, List.length_dropLast]

/-- the node of that place -/
def own (ns : List N) (par lab : N → N) (p l : N) : Option N := ns.find? fun n => decide (par n = p ∧ lab n = l)
/-- no two nodes of one place -/
def Apart2 (ns : List N) (par lab : N → N) : Prop := ∀ n, n ∈ ns → ∀ m, m ∈ ns → par n = par m → lab n = lab m → n = m
theorem own_some (A : Apart2 ns par lab) {p l n : N} : own ns par lab p l = some n ↔ n ∈ ns ∧ par n = p ∧ lab n = l := by
  unfold own
  constructor
  · intro h
    have h1 := List.mem_of_find?_eq_some h
    have h2 := List.find?_some h
    simp only [decide_eq_true_eq] at h2
    exact ⟨h1, h2⟩
  · rintro ⟨h1, h2, h3⟩
    cases e : ns.find? fun n => decide (par n = p ∧ lab n = l) with
    | none =>
      have := List.find?_eq_none.mp e n h1
      simp [h2, h3] at this
    | some m =>
      have a := List.mem_of_find?_eq_some e
      have b := List.find?_some e
      simp only [decide_eq_true_eq] at b
      rw [A n h1 m a (h2.trans b.1.symm) (h3.trans b.2.symm)]
/-- one step down; a thing that is no label leads nowhere -/
def step (ns : List N) (par lab : N → N) (here : Option N) (l : Option N) : Option N :=
  match here with
  | none => none
  | some h => match l with
    | none => none
    | some l => own ns par lab h l
def nodeAt (ns : List N) (par lab : N → N) (r : N) (ls : List (Option N)) : Option N := ls.foldl (step ns par lab) (some r)
theorem nodeAt_snoc (ls : List (Option N)) (l : Option N) : nodeAt ns par lab r (ls ++ [l]) = step ns par lab (nodeAt ns par lab r ls) l := by
  unfold nodeAt
  rw [List.foldl_append]; rfl
theorem list_rec_end {α : Type} {P : List α → Prop} (h0 : P []) (h1 : ∀ l x, P l → P (l ++ [x])) : ∀ l, P l := fun l => by
  have key : ∀ k : List α, P k.reverse := fun k => by
    induction k with
    | nil => exact h0
    | cons x k ih => rw [List.reverse_cons]; exact h1 _ x ih
  have := key l.reverse
  rwa [List.reverse_reverse] at this
theorem nodeAt_iff (T : Tree r ns par) (A : Apart2 ns par lab) : ∀ (ls : List N) (n : N), nodeAt ns par lab r (ls.map some) = some n ↔ ((n = r ∨ n ∈ ns) ∧ path par lab r n = ls) := by
  refine list_rec_end (fun n => ?_) fun ls l ih n => ?_
  · show some r = some n ↔ _
    constructor
    · intro h
      have e : r = n := Option.some.inj h
      subst e
      exact ⟨.inl rfl, path_root T⟩
    · rintro ⟨h | h, e⟩
      · rw [h]
      · rw [path_node T h] at e
        simp at e
  · rw [List.map_append, List.map_cons, List.map_nil, nodeAt_snoc]
    constructor
    · intro h
      cases e : nodeAt ns par lab r (ls.map some) with
      | none => rw [e] at h; cases h
      | some p =>
        rw [e] at h
        obtain ⟨h1, h2, h3⟩ := (own_some A).mp (show own ns par lab p l = some n from h)
        refine ⟨.inr h1, ?_⟩
        rw [path_node T h1, h2, h3, ((ih p).mp e).2]
    · rintro ⟨h | h, e⟩
      · subst h
        rw [path_root T] at e
        simp at e
      · rw [path_node T h] at e
        obtain ⟨e1, e2⟩ := List.append_inj' e rfl
        have e3 : lab n = l := by simpa using e2
        rw [(ih (par n)).mpr ⟨T.pin n h, e1⟩]
        exact (own_some A).mpr ⟨h, rfl, e3⟩
theorem nodeAt_none (ls : List (Option N)) (h : none ∈ ls) : nodeAt ns par lab r ls = none := by
  have key : ∀ ls : List (Option N), ls.foldl (step ns par lab) none = none := fun ls => by
    induction ls with
    | nil => rfl
    | cons x l ih => exact ih
  have gen : ∀ (ls : List (Option N)) (o : Option N), none ∈ ls → ls.foldl (step ns par lab) o = none := fun ls => by
    induction ls with
    | nil => intro o h; simp at h
    | cons x l ih =>
      intro o h
      rcases List.mem_cons.mp h with e | h
      · subst e
        show l.foldl (step ns par lab) (step ns par lab o none) = none
        have : step ns par lab o none = none := by cases o <;> rfl
        rw [this]; exact key l
      · exact ih _ h
  exact gen ls _ h
/-- paths tell the nodes -/
theorem path_inj (T : Tree r ns par) (A : Apart2 ns par lab) {n m : N} (hn : n = r ∨ n ∈ ns) (hm : m = r ∨ m ∈ ns) (e : path par lab r n = path par lab r m) : n = m := by
  have h1 := (nodeAt_iff T A (path par lab r m) n).mpr ⟨hn, e⟩
  have h2 := (nodeAt_iff T A (path par lab r m) m).mpr ⟨hm, rfl⟩
  rw [h1] at h2
  exact Option.some.inj h2
/-- what a table of the paths tells -/
theorem nodeAt_table (T : Tree r ns par) (A : Apart2 ns par lab) (ls : List N) : nodeAt ns par lab r (ls.map some) = ((r :: ns).find? fun n => decide (path par lab r n = ls)) := by
  cases e : nodeAt ns par lab r (ls.map some) with
  | some n =>
    obtain ⟨h1, h2⟩ := (nodeAt_iff T A ls n).mp e
    cases e2 : (r :: ns).find? fun n => decide (path par lab r n = ls) with
    | none =>
      have := List.find?_eq_none.mp e2 n (List.mem_cons.mpr h1)
      simp [h2] at this
    | some m =>
      have a := List.mem_of_find?_eq_some e2
      have b := List.find?_some e2
      simp only [decide_eq_true_eq] at b
      rw [path_inj T A h1 (List.mem_cons.mp a) (h2.trans b.symm)]
  | none =>
    symm
    refine List.find?_eq_none.mpr fun m hm => ?_
    intro h
    have h' : path par lab r m = ls := of_decide_eq_true h
    have := (nodeAt_iff T A ls m).mpr ⟨List.mem_cons.mp hm, h'⟩
    rw [e] at this; cases this

/-! ### a line -/
/-- a tree that is one line: each node's parent is the one ahead of it -/
structure Line (r : N) (ns : List N) (par : N → N) : Prop where
  nd : ns.Nodup
  nr : r ∉ ns
  few : ns.length ≤ 40
  par0 : ∀ n, ns[0]? = some n → par n = r
  parS : ∀ (i : Nat) (n m : N), ns[i]? = some n → ns[i + 1]? = some m → par m = n
theorem Line.tree (L : Line r ns par) : Tree r ns par where
  nd := L.nd
  nr := L.nr
  pin := fun n hn => by
    obtain ⟨i, hi, e⟩ := List.mem_iff_getElem.mp hn
    cases i with
    | zero => exact .inl (L.par0 n (by rw [List.getElem?_eq_getElem hi, e]))
    | succ i =>
      have h1 : ns[i]? = some ns[i] := List.getElem?_eq_getElem (by omega)
      rw [L.parS i ns[i] n h1 (by rw [List.getElem?_eq_getElem hi, e])]
      exact .inr (List.getElem_mem _)
  rk := by
    refine ⟨fun n => if n = r then 0 else ns.idxOf n + 1, by simp, fun n hn => ?_, fun n hn => ?_⟩
    · have e : n ≠ r := fun q => L.nr (q ▸ hn)
      have := List.idxOf_lt_length_of_mem hn
      have := L.few
      simp only [if_neg e]
      omega
    · have e : n ≠ r := fun q => L.nr (q ▸ hn)
      simp only [if_neg e]
      obtain ⟨i, hi, en⟩ := List.mem_iff_getElem.mp hn
      have ei : ns.idxOf n = i := by rw [← en]; exact L.nd.idxOf_getElem i hi
      cases i with
      | zero =>
        have e0 := L.par0 n (by rw [List.getElem?_eq_getElem hi, en])
        rw [e0, if_pos rfl]; omega
      | succ i =>
        have h1 : ns[i]? = some ns[i] := List.getElem?_eq_getElem (by omega)
        have h2 := L.parS i ns[i] n h1 (by rw [List.getElem?_eq_getElem hi, en])
        have e2 : ns[i] ≠ r := fun q => L.nr (q ▸ List.getElem_mem _)
        rw [h2, if_neg e2, ei, L.nd.idxOf_getElem i (by omega)]
        omega
theorem Line.apart (L : Line r ns par) : Apart2 ns par lab := fun n hn m hm e _ => by
  obtain ⟨i, hi, en⟩ := List.mem_iff_getElem.mp hn
  obtain ⟨j, hj, em⟩ := List.mem_iff_getElem.mp hm
  have pr : ∀ (i : Nat) (hi : i < ns.length), (i = 0 ∧ par ns[i] = r) ∨ ∃ k, ∃ hk : k < ns.length, i = k + 1 ∧ par ns[i] = ns[k] := fun i hi => by
    cases i with
    | zero => exact .inl ⟨rfl, L.par0 _ (List.getElem?_eq_getElem hi)⟩
    | succ i => exact .inr ⟨i, by omega, rfl, L.parS i ns[i] _ (List.getElem?_eq_getElem (by omega)) (List.getElem?_eq_getElem hi)⟩
  subst en em
  have eij : i = j := by
    rcases pr i hi with ⟨a, b⟩ | ⟨k, hk, a, b⟩ <;> rcases pr j hj with ⟨c, d⟩ | ⟨l, hl, c, d⟩
    · omega
    · rw [b, d] at e; exact absurd (e ▸ List.getElem_mem hl) L.nr
    · rw [b, d] at e; exact absurd (e ▸ List.getElem_mem hk) L.nr
    · rw [b, d] at e
      have := (List.getElem_inj L.nd).mp e
      omega
  subst eij; rfl
/-- the way up in a line -/
theorem Line.len (L : Line r ns par) : ∀ (i : Nat) (n : N), ns[i]? = some n → (W par r n).length = i + 2 := fun i => by
  have T := L.tree
  induction i with
  | zero =>
    intro n h
    have hn : n ∈ ns := List.mem_of_getElem? h
    rw [T.W_node hn, L.par0 n h, T.W_root]; rfl
  | succ i ih =>
    intro n h
    have hn : n ∈ ns := List.mem_of_getElem? h
    have hi : i < ns.length := by have := (List.getElem?_eq_some_iff.mp h).1; omega
    have h1 : ns[i]? = some ns[i] := List.getElem?_eq_getElem hi
    rw [T.W_node hn, L.parS i ns[i] n h1 h, List.length_cons, ih _ h1]
theorem Line.path (L : Line r ns par) {l : N} (hl : ∀ n, n ∈ ns → lab n = l) : ∀ (i : Nat) (n : N), ns[i]? = some n → MG.path par lab r n = List.replicate (i + 1) l := fun i => by
  have T := L.tree
  induction i with
  | zero =>
    intro n h
    have hn : n ∈ ns := List.mem_of_getElem? h
    rw [path_node T hn, L.par0 n h, path_root T, hl n hn]; rfl
  | succ i ih =>
    intro n h
    have hn : n ∈ ns := List.mem_of_getElem? h
    have hi : i < ns.length := by have := (List.getElem?_eq_some_iff.mp h).1; omega
    have h1 : ns[i]? = some ns[i] := List.getElem?_eq_getElem hi
    rw [path_node T hn, L.parS i ns[i] n h1 h, ih _ h1, hl n hn, List.replicate_succ' (n := i + 1)]
end
end MG
/-! text B1 -/
set_option Elab.async false
set_option linter.all false
set_option maxRecDepth 100000
set_option maxHeartbeats 4200000
/-! texts as data; the tree's object -/
namespace MG
open PySem PySem.Spec PyProof.Rows L2

abbrev Rt : Str := "root"

/-! ### data -/
theorem eqv_strs : ∀ xs ys : List Str, PyData.eqvAll (xs.map .str) (ys.map .str) = decide (xs = ys)
  | [], [] => by simp [PyData.eqvAll]
  | [], y :: ys => by simp [PyData.eqvAll]
  | x :: xs, [] => by simp [PyData.eqvAll]
  | x :: xs, y :: ys => by
    rw [List.map_cons, List.map_cons, PyData.eqvAll, eqv_strs xs ys, PyData.eqv]
    by_cases h : x = y
    · subst h
      simp
    · have h1 : (x == y) = false := beq_eq_false_iff_ne.mpr h
      rw [h1]
      simp [h]
theorem lay_strs : ∀ xs : List Str, (∀ x, x ∈ xs → PyData.strOk x = true) → PyData.canLayAll0 (xs.map .str) = true
  | [], _ => by simp [PyData.canLayAll0]
  | x :: xs, h => by
    rw [List.map_cons, PyData.canLayAll0, lay_strs xs fun y hy => h y (List.mem_cons_of_mem _ hy), PyData.canLay0, h x List.mem_cons_self]; rfl
theorem deep_strs : ∀ xs : List Str, PyData.depthAll (xs.map .str) = 0
  | [] => by simp [PyData.depthAll]
  | x :: xs => by rw [List.map_cons, PyData.depthAll, deep_strs xs]; simp [PyData.depth]
theorem shaped_strs (xs : List Str) (h : ∀ x, x ∈ xs → PyData.strOk x = true) : SeqAt.shaped (.list (xs.map .str)) = true := by
  unfold SeqAt.shaped
  rw [PyData.canLay0, lay_strs xs h, PyData.depth, deep_strs]; decide
section
variable {K : PySem.W.Frag} {H : Hp}
theorem dp_all : ∀ xs : List Str, DpAll K H (xs.map V.str) (xs.map PyData.str)
  | [] => .nil
  | x :: xs => .cons (.str x) (dp_all xs)
theorem dp_strs {a : Addr} {xs : List Str} (h : SqL K H a (xs.map V.str)) : Dp K H (.ref a) (.list (xs.map .str)) := .lst h (dp_all xs)
theorem flat_strs : ∀ xs : List Str, (xs.map V.str).all flatV = true := fun xs => by
  rw [List.all_map, List.all_eq_true]; exact fun _ _ => rfl
theorem in_strs (x : Str) : ∀ xs : List Str, inV (.str x) (xs.map V.str) = decide (x ∈ xs)
  | [] => by simp [inV]
  | y :: xs => by
    have ih := in_strs x xs
    unfold inV at ih ⊢
    rw [List.map_cons, List.any_cons, ih]
    show ((y == x) || decide (x ∈ xs)) = _
    by_cases h : x = y
    · subst h; simp
    · have h1 : (y == x) = false := beq_eq_false_iff_ne.mpr fun e => h e.symm
      rw [h1]; simp [h]
end
theorem dec_str' {x y : Str} : decide (V.str x = V.str y) = decide (x = y) := decide_eq_decide.mpr ⟨fun z => V.str.inj z, fun z => by rw [z]⟩

/-! ### ways up -/
section
variable {r : Str} {ns : List Str} {par : Str → Str}
theorem Tree.W_next (T : Tree r ns par) : ∀ n, n = r ∨ n ∈ ns → ∀ (k : Nat) (x : Str), (W par r n)[k]? = some x → x ≠ r → (W par r n)[k + 1]? = some (par x) ∧ x ∈ ns :=
  T.ind (fun k x h hx => by
    rw [T.W_root] at h
    cases k with
    | zero => exact absurd (Option.some.inj h).symm hx
    | succ k => simp at h) fun n hn ih k x h hx => by
    rw [T.W_node hn] at h ⊢
    cases k with
    | zero =>
      have e : n = x := Option.some.inj h
      subst e
      refine ⟨?_, hn⟩
      obtain ⟨t, et⟩ := up_head (par := par) (r := r) 41 (par n)
      show (n :: up par r 41 (par n))[1]? = _
      rw [et]; rfl
    | succ k => exact ih k x h hx
theorem Tree.W_end (T : Tree r ns par) : ∀ n, n = r ∨ n ∈ ns → ∀ (k : Nat), (W par r n)[k]? = some r → k + 1 = (W par r n).length :=
  T.ind (fun k h => by
    rw [T.W_root] at h ⊢
    cases k with
    | zero => rfl
    | succ k => simp at h) fun n hn ih k h => by
    rw [T.W_node hn] at h ⊢
    cases k with
    | zero => exact absurd (Option.some.inj h ▸ hn) T.nr
    | succ k => rw [List.length_cons, ih k h]
theorem Tree.W_drop (T : Tree r ns par) : ∀ n, n = r ∨ n ∈ ns → ∀ x, x ∈ (W par r n).dropLast → x ∈ ns :=
  T.ind (fun x h => by rw [T.W_root] at h; exact absurd h (by simp)) fun n hn ih x h => by
    rw [T.W_node hn, List.dropLast_cons_of_ne_nil (List.ne_nil_of_mem (T.W_self (par n)))] at h
    rcases List.mem_cons.mp h with rfl | h
    · exact hn
    · exact ih x h
end
/-- a tree of at most forty nodes, all names -/
structure TD (ns : List Str) (par lab : Str → Str) : Prop where
  T : Tree Rt ns par
  few : ns.length ≤ 40
  ap : Apart2 ns par lab
  nm : ∀ n, n ∈ ns → nameB n = true
  lm : ∀ n, n ∈ ns → nameB (lab n) = true
theorem nameB_len {x : Str} (h : nameB x = true) : 1 ≤ x.length ∧ x.length ≤ 8 := by
  unfold nameB at h
  obtain ⟨h1, _⟩ := Bool.and_eq_true_iff.mp h
  exact of_decide_eq_true h1
theorem sz : sizeLine = 16777216 := sizeLine_eq
theorem let_le : ∀ c, c ∈ LET.cps.toList → c ≤ 122 := by decide +kernel
theorem nameB_ok {x : Str} (h : nameB x = true) : PyData.strOk x = true := by
  unfold nameB at h
  obtain ⟨_, h2⟩ := Bool.and_eq_true_iff.mp h
  unfold PyData.strOk
  rw [← Array.all_toList, List.all_eq_true]
  intro c hc
  have h3 := let_le c (of_decide_eq_true (List.all_eq_true.mp h2 c hc))
  exact decide_eq_true (by omega)
theorem rt_ok : PyData.strOk Rt = true := by decide +kernel

/-! ### the object -/
def atts : List Str := ["own_places", "own_children", "own_nodes", "own_height", "own_text"]
/-- an instance of Tree: its attributes; no other name -/
structure Ob (C : Addr) (H : Hp) (a : Addr) (fs : List (Str × V)) : Prop where
  at_ : ∃ dx, H a = some (.ins C dx fs)
  no : ∀ m, m ∉ atts → fs.lookup m = none
  few : fs.length ≤ 5
/-- it holds the places -/
structure TP (C : Addr) (H : Hp) (a : Addr) (ns : List Str) (par lab : Str → Str) : Prop where
  ex : ∃ (fs : List (Str × V)) (p : Addr) (ad : Str → Addr), Ob C H a fs ∧ fs.lookup ("own_places" : Str) = some (.ref p) ∧ Pl H p ns par lab ad ∧ H p = some (.dK (ns.map fun n => ((Sum.inr n : Key), V.ref (ad n))))
/-- it holds the children -/
structure TC (C : Addr) (H : Hp) (a : Addr) (ns : List Str) (ch : Str → List Str) : Prop where
  ex : ∃ (fs : List (Str × V)) (q : Addr) (ca : Str → Addr), Ob C H a fs ∧ fs.lookup ("own_children" : Str) = some (.ref q) ∧ H q = some (.dK ((Rt :: ns).map fun n => ((Sum.inr n : Key), V.ref (ca n)))) ∧ ∀ n, n ∈ Rt :: ns → H (ca n) = some (.lst ((ch n).map V.str))
/-- it holds the nodes by their places -/
structure TN (C : Addr) (H : Hp) (a : Addr) (ns : List Str) (par lab : Str → Str) : Prop where
  ex : ∃ (fs : List (Str × V)) (r : Addr), Ob C H a fs ∧ fs.lookup ("own_nodes" : Str) = some (.ref r) ∧ H r = some (.dT (ns.map fun n => ([(Sum.inr (par n) : Key), Sum.inr (lab n)], V.str n)))
section
variable {C : Addr} {H H' : Hp} {a : Addr} {ns : List Str} {par lab : Str → Str} {ch : Str → List Str} {fs : List (Str × V)}
theorem Ob.same (h : Ob C H a fs) (e : Same H H') : Ob C H' a fs := ⟨let ⟨dx, x⟩ := h.at_; ⟨dx, e _ _ x⟩, h.no, h.few⟩
theorem TP.same (h : TP C H a ns par lab) (e : Same H H') : TP C H' a ns par lab := by
  obtain ⟨fs, p, ad, h1, h2, h3, h4⟩ := h.ex
  exact ⟨fs, p, ad, h1.same e, h2, h3.same e, e _ _ h4⟩
theorem TC.same (h : TC C H a ns ch) (e : Same H H') : TC C H' a ns ch := by
  obtain ⟨fs, q, ca, h1, h2, h3, h4⟩ := h.ex
  exact ⟨fs, q, ca, h1.same e, h2, e _ _ h3, fun n hn => e _ _ (h4 n hn)⟩
theorem TN.same (h : TN C H a ns par lab) (e : Same H H') : TN C H' a ns par lab := by
  obtain ⟨fs, r, h1, h2, h3⟩ := h.ex
  exact ⟨fs, r, h1.same e, h2, e _ _ h3⟩
theorem Ob.uniq {fs' : List (Str × V)} (h : Ob C H a fs) (h' : Ob C H a fs') : fs = fs' := by
  obtain ⟨dx, e⟩ := h.at_
  obtain ⟨dx', e'⟩ := h'.at_
  rw [e] at e'
  injection e' with e'
  injection e'
end
end MG
namespace MG
open PySem PySem.Spec PyProof.Rows L2
theorem Same.unlock {H H' : Hp} {p : Addr} {u z : HO} (hk : H p = some u) (s : Same (upd H p z) H') : Same H (upd H' p u) := fun b o e => by
  by_cases hb : b = p
  · subst hb
    rw [upd_same, ← e, hk]
  · rw [upd_ne hb]
    exact s b o (by rw [upd_ne hb]; exact e)
theorem Pl.lock {H : Hp} {p : Addr} {ns : List Str} {par lab : Str → Str} {ad : Str → Addr} {kvs : List (Key × V)} (h : Pl H p ns par lab ad) (hk : H p = some (.dK kvs)) (o : Obj) :
    kvs = (ns.map fun n => ((Sum.inr n : Key), V.ref (ad n))) ∧ Pl (upd H p (.frz o (.dK kvs))) p ns par lab ad := by
  have ek : kvs = ns.map fun n => ((Sum.inr n : Key), V.ref (ad n)) := by
    rcases h.d with h | ⟨o, h⟩
    · rw [hk] at h
      injection h with h
      injection h
    · rw [hk] at h; cases h
  refine ⟨ek, .inr ⟨o, by rw [← ek]; exact upd_same⟩, fun n hn => ?_⟩
  rw [upd_ne (fun e => ?_)]
  · exact h.t n hn
  · have := h.t n hn
    rw [e, hk] at this
    cases this
end MG
namespace MG
open PySem PySem.Spec PyProof.Rows L2
/-- a value whose kind is known -/
def Told (H : Hp) (v : V) : Prop := match v with
  | .str _ => True
  | .non => True
  | .int _ => True
  | .bl _ => True
  | .ref a => (∃ xs, H a = some (.lst xs)) ∨ (∃ xs, H a = some (.tup xs)) ∨ ∃ kvs, H a = some (.dK kvs)
  | _ => False
theorem Told.same {H H' : Hp} {v : V} (h : Told H v) (e : Same H H') : Told H' v := by
  cases v with
  | ref a =>
    rcases h with ⟨xs, h⟩ | ⟨xs, h⟩ | ⟨xs, h⟩
    · exact .inl ⟨xs, e _ _ h⟩
    · exact .inr (.inl ⟨xs, e _ _ h⟩)
    · exact .inr (.inr ⟨xs, e _ _ h⟩)
  | _ => exact h
def strV : V → Bool
  | .str _ => true
  | _ => false
theorem Told.kind {K : PySem.W.Frag} {H : Hp} {v : V} (h : Told H v) : ∃ n, Kind K H v n ∧ kitB n "str" = some (strV v) := by
  cases v with
  | str x => exact ⟨"str", .base (.str x), (by decide +kernel : kitB "str" "str" = some true)⟩
  | non => exact ⟨"NoneType", .base .non, (by decide +kernel : kitB "NoneType" "str" = some false)⟩
  | int i => exact ⟨"int", .base (.int i), (by decide +kernel : kitB "int" "str" = some false)⟩
  | bl b => exact ⟨"bool", .base (.bl b), (by decide +kernel : kitB "bool" "str" = some false)⟩
  | ref a =>
    rcases h with ⟨xs, h⟩ | ⟨xs, h⟩ | ⟨xs, h⟩
    · exact ⟨"list", .base (.lst h), (by decide +kernel : kitB "list" "str" = some false)⟩
    · exact ⟨"tuple", .base (.tup h), (by decide +kernel : kitB "tuple" "str" = some false)⟩
    · exact ⟨"dict", .base (.dK h), (by decide +kernel : kitB "dict" "str" = some false)⟩
  | _ => exact False.elim h
theorem strV_yes {v : V} (h : strV v = true) : ∃ x, v = .str x := by
  cases v with
  | str x => exact ⟨x, rfl⟩
  | _ => cases h
/-- is any value known? -/
def knownB (ns : List Str) (v : V) : Bool := match v with
  | .str x => decide (x = "root") || decide (x ∈ ns)
  | _ => false
theorem knownB_no {ns : List Str} {v : V} (h : strV v = false) : knownB ns v = false := by
  cases v with
  | str x => cases h
  | _ => rfl
theorem knownB_yes {ns : List Str} {n : Str} (h : n = Rt ∨ n ∈ ns) : knownB ns (.str n) = true := by
  show (decide (n = "root") || decide (n ∈ ns)) = true
  rcases h with h | h
  · rw [decide_eq_true h]; rfl
  · rw [decide_eq_true h, Bool.or_true]
theorem knownB_of {ns : List Str} {v : V} (h : knownB ns v = true) : ∃ n, v = .str n ∧ (n = Rt ∨ n ∈ ns) := by
  cases v with
  | str x =>
    rcases Bool.or_eq_true_iff.mp (show (decide (x = "root") || decide (x ∈ ns)) = true from h) with h | h
    · exact ⟨x, rfl, .inl (of_decide_eq_true h)⟩
    · exact ⟨x, rfl, .inr (of_decide_eq_true h)⟩
  | _ => cases h
end MG
/-! text D1 -/
set_option Elab.async false
set_option linter.all false
set_option maxRecDepth 100000
set_option maxHeartbeats 4200000
/-! names, nodes, places: the looks -/
namespace MG
open PySem PySem.Spec PyProof.Rows L2
def spName : Sp := fun vs H Q _ => ∃ x : Str, vs = [.str x] ∧ x.length ≤ sizeLine ∧ ∀ H', Same H H' → Q (.bl (nameB x)) H'
def spNode : Sp := fun vs H Q _ => ∃ x : Str, vs = [.str x] ∧ x.length ≤ sizeLine ∧ ∀ H', Same H H' → Q (.bl (nameB x && !decide (x = "root"))) H'
def spPlace : Sp := fun vs H Q _ => ∃ (a : Addr) (x y : Str), vs = [.ref a] ∧ H a = some (.tup [.str x, .str y]) ∧ x.length ≤ sizeLine ∧ y.length ≤ sizeLine ∧ ∀ H', Same H H' → Q (.bl (nameB x && nameB y)) H'
def spKnown : Sp := fun vs H Q _ => ∃ (p : Addr) (ns : List Str) (par lab : Str → Str) (ad : Str → Addr) (v : V), vs = [.ref p, v] ∧ Pl H p ns par lab ad ∧ Told H v ∧ Q (.bl (knownB ns v)) H
section
variable {P : Program} {w : World} {K : PySem.W.Frag} {mg : Str → Option Value} {base : Heap} {C : Addr}
theorem takeWhile_all {α : Type} {p : α → Bool} (l : List α) (n : Nat) (x : α) (h : l[n]? = some x) : (l.take (n + 1)).map p = (l.take n).map p ++ [p x] := by
  rw [List.take_add_one, h, List.map_append]; rfl
theorem sc_s_is_name : FnScope ["value", "letter"] ["value"] (defScope s_is_name) := ⟨rfl, rfl, rfl, by decide +kernel, rfl, by decide +kernel, by decide +kernel⟩
theorem ok_is_name {f : Addr} {fd : FuncData} (T : Txt K mg C) (F : Fun K "is_name" "is_name" s_is_name f fd) (hm : mg "is_name" = some (.ref f)) : Cal P w K mg base 1 "is_name" spName := by
  refine ⟨f, fd, ["value"], ?_, hm, F.kp, F.binds (ps := ["value"]) fun _ _ _ _ _ _ us hl => match us, hl with | [_], _ => rfl⟩
  refine F.okX sc_s_is_name (fun vs H Q E h => ?_) (fun cdv A outer s H vs Q E hr h => ?_)
  · obtain ⟨x, rfl, _⟩ := h
    rfl
  · obtain ⟨x, rfl, hx, q⟩ := h
    refine ⟨_, PSs.nox (pss_cons (ps_if (PW.pt (pw_or (pt_not (pt_val (pe_callB call_isi (by rfl) T.g_isinstance bt_isinstance (pa_cons (pv 0) (pa_cons (pe_bltn (v := .ty "str") (by rfl) T.g_str bt_str rfl) pa_nil))))) (pw_or1 (pt_not (pt_chain op_le op_le pe_int (pe_callB call_len_str (by rfl) T.g_len bt_len (pa_cons (pv 0) pa_nil)) (C8.pe_gc (by rfl) T.c_MOST_LETTERS)))))) (pss_one (ps_ret pe_bl)) pss_nil)
    (pss_one (ps_ret (pe_callB (cr_all rfl) (by rfl) T.g_all bt_all (pa_cons (pe_lc (own := [("letter", 1)]) (g := gName 1) (tt := tYes) rfl sc_s_is_name.nd (pi_str (pv 0)) (blkOk_by (own := [("letter", 1)]) (N := ["value", "letter"]) (sc := defScope s_is_name) (by decide +kernel)) (fun _ _ _ _ _ => pg_name (i := 1) sc_s_is_name.nd rfl (Or.inl rfl)) (fun _ _ _ _ _ => pts_nil) (fun _ _ _ _ _ => (pe_cmpR op_in_sign (pv 1) (C8.pe_gc (by rfl) T.c_LETTERS) (by rfl)))) pa_nil))))), ?_⟩
    refine ⟨_, rfl, _, _, _, _, _, rfl, .ty _, k_str x, kit_ty strB, true, rfl, iteF ⟨_, rfl, x, rfl, hx, _, _, rfl, rfl, _, rfl, ?_⟩⟩
    have e0 : nameB x = (decide ((1 : Int) ≤ (x.length : Int)) && (decide ((x.length : Int) ≤ 8) && x.cps.toList.all fun c => decide (c ∈ LET.cps.toList))) := by
      unfold nameB
      have a1 : decide ((1 : Int) ≤ (x.length : Int)) = decide (1 ≤ x.length) := decide_eq_decide.mpr (by omega)
      have a2 : decide ((x.length : Int) ≤ 8) = decide (x.length ≤ 8) := decide_eq_decide.mpr (by omega)
      rw [a1, a2, ← Bool.and_assoc, ← Bool.decide_and]
    simp only [e0] at q
    refine iteD (fun h1 => ?_) (fun h1 => ?_)
    · rw [decide_eq_true h1] at q
      refine ⟨_, _, rfl, rfl, _, rfl, ?_⟩
      refine iteND (fun h2 => ?_) (fun h2 => ?_)
      · rw [decide_eq_false h2] at q
        exact q H (Same.refl H)
      · rw [decide_eq_true h2] at q
        refine ⟨_, rfl, x, rfl, fun D hD => lc_each walk_str hD (fun i => (x.cps.toList.take i).map fun c => V.bl (decide (c ∈ LET.cps.toList))) rfl (fun i hi => take_lt (by rw [Array.length_toList]; exact hx) (by rw [Array.length_toList]; exact hi)) (fun _ _ => trivial) ?_ ?_⟩
        · rintro i v H1 H2 Kt hi s1 ⟨rfl, c, hc, rfl⟩ k
          have hc' : x.cps.toList[i]? = some c := by rw [Array.getElem?_toList]; exact hc
          exact ⟨rfl, _, rfl, c, LET, rfl, rfl, k _ _ (Same.refl _) (take_map _ _ _ hc')⟩
        · intro H1 s1 h3
          refine ⟨D, x.cps.toList.map fun c => decide (c ∈ LET.cps.toList), rfl, SqL.of ?_, ?_⟩
          · rw [h3, List.take_of_length_le (by rw [Array.length_toList]; exact Nat.le_refl _), List.map_map]; rfl
          · have e2 : (x.cps.toList.map fun c => decide (c ∈ LET.cps.toList)).all id = x.cps.toList.all fun c => decide (c ∈ LET.cps.toList) := by rw [List.all_map]; rfl
            rw [e2]
            exact q H1 s1
    · rw [decide_eq_false h1] at q
      exact ⟨_, rfl, iteT (q H (Same.refl H))⟩
theorem sc_s_is_node : FnScope ["value"] ["value"] (defScope s_is_node) := ⟨rfl, rfl, rfl, by decide +kernel, rfl, by decide +kernel, by decide +kernel⟩
theorem ok_is_node {f : Addr} {fd : FuncData} (T : Txt K mg C) (F : Fun K "is_node" "is_node" s_is_node f fd) (hm : mg "is_node" = some (.ref f)) (c_is_name : Cal P w K mg base 1 "is_name" spName) : Cal P w K mg base 2 "is_node" spNode := by
  refine ⟨f, fd, ["value"], ?_, hm, F.kp, F.binds (ps := ["value"]) fun _ _ _ _ _ _ us hl => match us, hl with | [_], _ => rfl⟩
  refine F.okX sc_s_is_node (fun vs H Q E h => ?_) (fun cdv A outer s H vs Q E hr h => ?_)
  · obtain ⟨x, rfl, _⟩ := h
    rfl
  · obtain ⟨x, rfl, hx, q⟩ := h
    refine ⟨_, PSs.nox (pss_one (ps_ret (pe_and (pe_cl c_is_name hr (by decide) (by rfl) (pa_cons (pv 0) pa_nil)) (pe_one (pe_cmpR op_ne (pv 0) (C8.pe_gc (by rfl) T.c_ROOT) (nomark _)))))), ?_⟩
    refine ⟨_, rfl, x, rfl, hx, fun H1 s1 => ⟨_, rfl, iteB (fun h1 => ?_) fun h1 => ?_⟩⟩
    · rw [h1, Bool.true_and] at q
      have e : decide (V.str x = V.str "root") = decide (x = "root") := decide_eq_decide.mpr ⟨fun z => V.str.inj z, fun z => by rw [z]⟩
      refine ⟨_, rfl, rfl, ?_⟩
      show Q (V.bl (!decide (V.str x = V.str "root"))) H1
      rw [e]
      exact q H1 s1
    · rw [h1, Bool.false_and] at q
      exact q H1 s1
theorem sc_s_is_place : FnScope ["value"] ["value"] (defScope s_is_place) := ⟨rfl, rfl, rfl, by decide +kernel, rfl, by decide +kernel, by decide +kernel⟩
theorem ok_is_place {f : Addr} {fd : FuncData} (T : Txt K mg C) (F : Fun K "is_place" "is_place" s_is_place f fd) (hm : mg "is_place" = some (.ref f)) (c_is_name : Cal P w K mg base 1 "is_name" spName) : Cal P w K mg base 2 "is_place" spPlace := by
  refine ⟨f, fd, ["value"], ?_, hm, F.kp, F.binds (ps := ["value"]) fun _ _ _ _ _ _ us hl => match us, hl with | [_], _ => rfl⟩
  refine F.okX sc_s_is_place (fun vs H Q E h => ?_) (fun cdv A outer s H vs Q E hr h => ?_)
  · obtain ⟨a, x, y, rfl, _⟩ := h
    rfl
  · obtain ⟨a, x, y, rfl, ha, hx, hy, q⟩ := h
    refine ⟨_, PSs.nox (pss_one (ps_ret (pe_and (pe_callB call_isi (by rfl) T.g_isinstance bt_isinstance (pa_cons (pv 0) (pa_cons (pe_bltn (v := .ty "tuple") (by rfl) T.g_tuple bt_tuple rfl) pa_nil))) (pe_and (pe_cmpR op_eq (pe_callB call_len_seq (by rfl) T.g_len bt_len (pa_cons (pv 0) pa_nil)) (C8.pe_gc (by rfl) T.c_PLACE_SIZE) (nomark _)) (pe_and (pe_cl c_is_name hr (by decide) (by rfl) (pa_cons (pe_ix ix_tup (pv 0) pe_int (fun _ _ => rfl)) pa_nil)) (pe_one (pe_cl c_is_name hr (by decide) (by rfl) (pa_cons (pe_ix ix_tup (pv 0) pe_int (fun _ _ => rfl)) pa_nil)))))))), ?_⟩
    refine ⟨_, rfl, _, _, _, _, _, rfl, .ty _, .base (.tup ha), kit_ty tupB, true, rfl, iteT ?_⟩
    refine ⟨_, rfl, a, _, rfl, .inr (SqT.of ha), rfl, _, rfl, iteT ?_⟩
    refine ⟨_, rfl, a, _, 0, .str x, rfl, rfl, SqT.of ha, rfl, x, rfl, hx, fun H1 s1 => ⟨_, rfl, iteB (fun h1 => ?_) fun h1 => ?_⟩⟩
    · rw [h1, Bool.true_and] at q
      refine ⟨_, rfl, a, _, 1, .str y, rfl, rfl, SqT.of (s1 _ _ ha), rfl, y, rfl, hy, fun H2 s2 => q H2 (s1.trans s2)⟩
    · rw [h1, Bool.false_and] at q
      exact q H1 s1
theorem sc_s_is_known : FnScope ["places", "value"] ["places", "value"] (defScope s_is_known) := ⟨rfl, rfl, rfl, by decide +kernel, rfl, by decide +kernel, by decide +kernel⟩
theorem ok_is_known {f : Addr} {fd : FuncData} (T : Txt K mg C) (F : Fun K "is_known" "is_known" s_is_known f fd) (hm : mg "is_known" = some (.ref f)) : Cal P w K mg base 1 "is_known" spKnown := by
  refine ⟨f, fd, ["places", "value"], ?_, hm, F.kp, F.binds (ps := ["places", "value"]) fun _ _ _ _ _ _ us hl => match us, hl with | [_, _], _ => rfl⟩
  refine F.okX sc_s_is_known (fun vs H Q E h => ?_) (fun cdv A outer s H vs Q E hr h => ?_)
  · obtain ⟨p, ns, par, lab, ad, v, rfl, _⟩ := h
    rfl
  · obtain ⟨p, ns, par, lab, ad, v, rfl, hp, ht, q⟩ := h
    obtain ⟨n, hv, hb⟩ := ht.kind (K := K)
    refine ⟨_, PSs.nox (pss_one (ps_ret (pe_and (pe_callB call_isi (by rfl) T.g_isinstance bt_isinstance (pa_cons (pv 1) (pa_cons (pe_bltn (v := .ty "str") (by rfl) T.g_str bt_str rfl) pa_nil))) (pe_one (pe_or (pe_cmpR op_eq (pv 1) (C8.pe_gc (by rfl) T.c_ROOT) (nomark _)) (pe_one (pe_cmp (pc_din (hu_of hr) (pv 1) (pv 0))))))))), ?_⟩
    refine ⟨_, rfl, _, _, _, _, _, rfl, .ty _, hv, kit_ty hb, _, rfl, iteB (fun e => ?_) fun e => ?_⟩
    · obtain ⟨x, rfl⟩ := strV_yes e
      have e1 : decide (V.str x = V.str "root") = decide (x = "root") := decide_eq_decide.mpr ⟨fun z => V.str.inj z, fun z => by rw [z]⟩
      have q : Q (.bl (decide (x = "root") || decide (x ∈ ns))) H := q
      refine ⟨_, rfl, rfl, _, rfl, ?_⟩
      show if decide (V.str x = V.str "root") = true then _ else _
      rw [e1]
      refine iteD (fun h2 => ?_) fun h2 => ?_
      · rw [decide_eq_true h2] at q
        exact q
      · rw [decide_eq_false h2, Bool.false_or] at q
        refine ⟨_, rfl, _, rfl, p, _, rfl, hp.look x, ?_⟩
        by_cases h3 : x ∈ ns
        · rw [decide_eq_true h3] at q
          rw [if_pos h3]
          exact q
        · rw [decide_eq_false h3] at q
          rw [if_neg h3]
          exact q
    · have e2 := knownB_no (ns := ns) e
      rw [e2] at q
      exact q
end
end MG
/-! text D2 -/
set_option Elab.async false
set_option linter.all false
set_option maxRecDepth 100000
set_option maxHeartbeats 4200000
/-! way_within, first_cyclic -/
namespace MG
open PySem PySem.Spec PyProof.Rows L2
def spWithin : Sp := fun vs H Q _ => ∃ (p : Addr) (n : Str) (ns : List Str) (par lab : Str → Str) (ad : Str → Addr), vs = [.ref p, .str n] ∧ Pl H p ns par lab ad ∧ TD ns par lab ∧ (n = Rt ∨ n ∈ ns) ∧
  ∀ l H', H l = none → Same H H' → H' l = some (.lst ((W par Rt n).map V.str)) → Q (.ref l) H'
def spCyclic : Sp := fun vs H Q _ => ∃ (p : Addr) (ns : List Str) (par lab : Str → Str) (ad : Str → Addr), vs = [.ref p] ∧ (∃ kvs, H p = some (.dK kvs)) ∧ Pl H p ns par lab ad ∧ TD ns par lab ∧ ∀ H', Same H H' → Q .non H'
theorem at_take {l : List Str} {k : Nat} {x : Str} (h : l[k]? = some x) : atI ((l.take (k + 1)).map V.str) (-1) = some (.str x) := by
  rw [take_map _ _ _ h]; exact atI_last _ _
theorem not_mem_take {l : List Str} (nd : l.Nodup) {k : Nat} {x : Str} (h : l[k + 1]? = some x) : x ∉ l.take (k + 1) := fun hm => by
  obtain ⟨i, hi, e⟩ := List.mem_iff_getElem.mp hm
  rw [List.length_take] at hi
  have e2 : l[i]? = some x := by
    rw [← e, List.getElem_take]
    exact List.getElem?_eq_getElem (by omega)
  have := nd_ix nd e2 h
  omega
section
variable {P : Program} {w : World} {K : PySem.W.Frag} {mg : Str → Option Value} {base : Heap} {C : Addr}
theorem sc_s_way_within : FnScope ["places", "node", "found"] ["places", "node"] (defScope s_way_within) := ⟨rfl, rfl, rfl, by decide +kernel, rfl, by decide +kernel, by decide +kernel⟩
theorem ok_way_within {f : Addr} {fd : FuncData} (T : Txt K mg C) (F : Fun K "way_within" "way_within" s_way_within f fd) (hm : mg "way_within" = some (.ref f)) : Cal P w K mg base 1 "way_within" spWithin := by
  refine ⟨f, fd, ["places", "node"], ?_, hm, F.kp, F.binds (ps := ["places", "node"]) fun _ _ _ _ _ _ us hl => match us, hl with | [_, _], _ => rfl⟩
  refine F.okX sc_s_way_within (fun vs H Q E h => ?_) (fun cdv A outer s H vs Q E hr h => ?_)
  · obtain ⟨p, n, ns, par, lab, ad, rfl, _⟩ := h
    rfl
  · obtain ⟨p, n, ns, par, lab, ad, rfl, hp, D, hn, q⟩ := h
    have T0 := D.T
    have hle := T0.W_le hn
    refine ⟨_, PSs.nox (pss_cons (ps_set (i := 2) sc_s_way_within.nd rfl (Or.inl rfl) (pe_lst (pa_cons (pv 1) pa_nil)))
    (pss_cons (ps_while PassesOwn.never (PW.pt (pw_and (pt_cmpR op_ne (pe_ix ix_list (pv 2) (pe_un un_neg pe_int) (fun _ _ => rfl)) (C8.pe_gc (by rfl) T.c_ROOT) (nomark _)) (pw_and1 (pt_cmpR op_notIn_seq (pe_ix ix_tup (pe_dget (hu_of hr) (pv 0) (pe_ix ix_list (pv 2) (pe_un un_neg pe_int) (fun _ _ => rfl)) (fun _ _ => rfl)) pe_int (fun _ _ => rfl)) (pv 2) (by rfl))))) (pss_one (ps_expr (pe_bm PySem.F.plainAttrs_list PySem.F.slot_list_append PySem.F.type_list_append mt_append (pv 2) (pa_cons (pe_ix ix_tup (pe_dget (hu_of hr) (pv 0) (pe_ix ix_list (pv 2) (pe_un un_neg pe_int) (fun _ _ => rfl)) (fun _ _ => rfl)) pe_int (fun _ _ => rfl)) pa_nil)))))
    (pss_one (ps_ret (pv 2))))), ?_⟩
    refine ⟨_, rfl, (by show 1 ≤ sizeLine; decide), fun l hl => ?_⟩
    refine ⟨fun m σ H1 => ∃ k, σ = [some (.ref p), some (.str n), some (.ref l)] ∧ Same H H1 ∧ H1 l = some (.lst (((W par Rt n).take (k + 1)).map V.str)) ∧ k < (W par Rt n).length ∧ m = (W par Rt n).length - k, ⟨_, 0, rfl, Same.new hl, ?_, T0.W_pos n, rfl⟩, ?_⟩
    · obtain ⟨t, e⟩ := up_head (par := par) (r := Rt) 41 n
      rw [upd_same]
      show _ = some (HO.lst ((List.take 1 (up par Rt 41 n)).map V.str))
      rw [e]; rfl
    · rintro m σ H1 ⟨k, rfl, s1, hL, hk, rfl⟩
      obtain ⟨x, hx⟩ : ∃ x, (W par Rt n)[k]? = some x := ⟨_, List.getElem?_eq_getElem hk⟩
      refine ⟨_, rfl, _, rfl, l, _, _, .str x, rfl, rfl, SqL.of hL, at_take hx, rfl, _, rfl, ?_⟩
      refine iteND (fun h1 => ?_) (fun h1 => ?_)
      · have hxr : x ≠ Rt := fun e => h1 (by rw [e])
        obtain ⟨hy, hxn⟩ := T0.W_next n hn k x hx hxr
        have hpx := (hp.same s1).t x hxn
        have nin : par x ∉ (W par Rt n).take (k + 1) := not_mem_take (T0.W_nd n hn) hy
        refine ⟨_, rfl, _, rfl, _, rfl, l, _, _, .str x, rfl, rfl, SqL.of hL, at_take hx, p, _, rfl, (hp.same s1).get hxn, ad x, _, 0, .str (par x), rfl, rfl, SqT.of hpx, rfl, _, rfl, l, _, rfl, .inl (SqL.of hL), rfl, flat_strs _, _, rfl, ?_⟩
        have e1 : (!inV (V.str (par x)) (((W par Rt n).take (k + 1)).map V.str)) = true := by rw [in_strs, decide_eq_false nin]; rfl
        show if (!inV (V.str (par x)) (((W par Rt n).take (k + 1)).map V.str)) = true then _ else _
        rw [if_pos e1]
        refine ⟨_, fun σ' H' h => h, ?_⟩
        refine ⟨_, rfl, .inl ⟨rfl, _, SqL.of hL⟩, _, rfl, _, rfl, _, rfl, l, _, _, .str x, rfl, rfl, SqL.of hL, at_take hx, p, _, rfl, (hp.same s1).get hxn, ad x, _, 0, .str (par x), rfl, rfl, SqT.of hpx, rfl, l, _, _, rfl, rfl, hL, ?_, ?_⟩
        · rw [List.length_map, List.length_take, sz]; omega
        · refine ⟨_, ?_, k + 1, rfl, Same.mut s1 hl, ?_, (List.getElem?_eq_some_iff.mp hy).1, rfl⟩
          · have := (List.getElem?_eq_some_iff.mp hy).1
            omega
          · rw [upd_same, take_map _ _ _ hy]
      · have hxr : x = Rt := V.str.inj h1
        subst hxr
        have e1 := T0.W_end n hn k hx
        refine ⟨_, rfl, q l H1 hl s1 ?_⟩
        rw [hL, List.take_of_length_le (by omega)]
theorem sc_s_first_cyclic : FnScope ["places", "node"] ["places"] (defScope s_first_cyclic) := ⟨rfl, rfl, rfl, by decide +kernel, rfl, by decide +kernel, by decide +kernel⟩
theorem ok_first_cyclic {f : Addr} {fd : FuncData} (T : Txt K mg C) (F : Fun K "first_cyclic" "first_cyclic" s_first_cyclic f fd) (hm : mg "first_cyclic" = some (.ref f)) (c_way_within : Cal P w K mg base 1 "way_within" spWithin) : Cal P w K mg base 2 "first_cyclic" spCyclic := by
  refine ⟨f, fd, ["places"], ?_, hm, F.kp, F.binds (ps := ["places"]) fun _ _ _ _ _ _ us hl => match us, hl with | [_], _ => rfl⟩
  refine F.okX sc_s_first_cyclic (fun vs H Q E h => ?_) (fun cdv A outer s H vs Q E hr h => ?_)
  · obtain ⟨p, ns, par, lab, ad, rfl, _⟩ := h
    rfl
  · obtain ⟨p, ns, par, lab, ad, rfl, ⟨kvs, hk⟩, hp, D, q⟩ := h
    have T0 := D.T
    refine ⟨_, PSs.nox (pss_cons (ps_lock (ps_for PassesOwn.never rfl (pi_keys (pv 0)) (pg_name (i := 1) sc_s_first_cyclic.nd rfl (Or.inl rfl))
    (pss_one (ps_if (pt_cmpR op_ne (pe_ix ix_list (pe_cl c_way_within hr (by decide) (by rfl) (pa_cons (pv 0) (pa_cons (pv 1) pa_nil))) (pe_un un_neg pe_int) (fun _ _ => rfl)) (C8.pe_gc (by rfl) T.c_ROOT) (nomark _)) (pss_one (ps_ret (pv 1))) pss_nil))))
    (pss_one (ps_ret pe_non))), ?_⟩
    refine ⟨p, _, hk, trivial, fun od => ?_⟩
    obtain ⟨ek, hp1⟩ := hp.lock hk od
    subst ek
    refine ⟨_, rfl, p, od, rfl, .inl ⟨_, upd_same, for_it walk_keys (fun i σ H' => ∃ v, σ = [some (.ref p), v] ∧ Same (upd H p (.frz od (.dK (ns.map fun n => ((Sum.inr n : Key), V.ref (ad n)))))) H') ⟨none, rfl, Same.refl _⟩ (fun i σ H' _ ⟨_, _, s1⟩ => s1 _ _ upd_same) ?_ ?_⟩⟩
    · rintro i x σ H1 H2 hi ⟨v, rfl, s1⟩ ⟨rfl, k, v2, hkv, rfl⟩
      obtain ⟨n, hn, e⟩ : ∃ n, ns[i]? = some n ∧ k = Sum.inr n := by
        rw [List.getElem?_map] at hkv
        cases e : ns[i]? with
        | none => rw [e] at hkv; cases hkv
        | some n => rw [e] at hkv; exact ⟨n, rfl, (Prod.mk.inj (Option.some.inj hkv)).1.symm⟩
      subst e
      have hns : n ∈ ns := List.mem_of_getElem? hn
      refine ⟨_, rfl, _, rfl, p, n, ns, par, lab, ad, rfl, hp1.same s1, D, .inr hns, fun l H3 hl s3 hL => ?_⟩
      refine ⟨_, rfl, l, _, _, .str Rt, rfl, rfl, SqL.of hL, ?_, rfl, _, rfl, ?_⟩
      · have hm := T0.W_has n (.inr hns)
        obtain ⟨j, hj, ej⟩ := List.mem_iff_getElem.mp hm
        have e1 := T0.W_end n (.inr hns) j (by rw [List.getElem?_eq_getElem hj, ej])
        have e2 : W par Rt n = (W par Rt n).take (j + 1) := by rw [List.take_of_length_le (by omega)]
        rw [e2]
        exact at_take (by rw [List.getElem?_eq_getElem hj, ej])
      · exact ⟨_, rfl, s1.trans s3⟩
    · rintro σ H1 ⟨v, rfl, s1⟩
      exact ⟨s1 _ _ upd_same, q _ (Same.unlock hk s1)⟩
end
end MG
/-! text E1 -/
set_option Elab.async false
set_option linter.all false
set_option maxRecDepth 100000
set_option maxHeartbeats 4200000
/-! an own class of exceptions over LookupError, whose __init__ hands its value on and keeps it -/
namespace MG
open PySem PySem.Spec PyProof.Rows L2
abbrev leTail : List Value := [.type "LookupError", .type "Exception", .type "BaseException", .type "object"]
/-- the class at C as the top leaves it: over LookupError alone, with a dict, nothing of its own in the way of a store -/
structure UnC (K : PySem.W.Frag) (C : Addr) : Prop where
  cls : ∃ nm q N bs sn sub ab col dd k0 k1 k2 k3 k5, K.lookup C = some (excClassObj nm q C N bs leTail true sn sub ab col dd k0 k1 k2 k3 k5 "LookupError.__new__")
  puts : PySem.W.findIn K (.ref C) "__setattr__" = some (some (.builtin "object.__setattr__"))
  isEx : PySem.W.subIn K (.ref C) (.type "BaseException") = some true
  isTy : PySem.W.typeIn K (.ref C) = some (.type "type")
  keep : PySem.W.keepIn K (.ref C) = true
theorem UnC.over {K : PySem.W.Frag} {C : Addr} (T : UnC K C) : ∃ nm q N bs sn sub ab col, PySem.W.clsIn K C = some { name := nm, bases := bs, mro := .ref C :: leTail, ns := N, qualname := q, hasDict := true, slotNames := sn, subclasses := sub, abstract := ab, collection := col, hasDel := false } ∧ PySem.W.excOver K C leTail = true := by
  obtain ⟨nm, q, N, bs, sn, sub, ab, col, dd, k0, k1, k2, k3, k5, lk⟩ := T.cls
  have e : PySem.W.clsIn K C = some { name := nm, bases := bs, mro := .ref C :: leTail, ns := N, qualname := q, hasDict := true, slotNames := sn, subclasses := sub, abstract := ab, collection := col, hasDel := false } := by
    unfold PySem.W.clsIn
    rw [lk] <;> rfl
  refine ⟨nm, q, N, bs, sn, sub, ab, col, e, ?_⟩
  have tl : PySem.W.excTail leTail leTail = true := rfl
  unfold PySem.W.excOver
  rw [e]
  exact Bool.and_eq_true_iff.mpr ⟨beq_self_eq_true C, tl⟩
theorem upd_again {H : Hp} {a d : Addr} {u v w : HO} (n : d ≠ a) : upd (upd (upd H d u) a v) d w = upd (upd H d w) a v := by
  funext b
  by_cases h1 : b = d
  · rw [h1, upd_same, upd_ne n, upd_same]
  · by_cases h2 : b = a
    · rw [h2, upd_ne (Ne.symm n), upd_same, upd_same]
    · rw [upd_ne h1, upd_ne h2, upd_ne h1, upd_ne h2, upd_ne h1]
section
open PySem.Calls Builtin Builtin.ObjectAttr
variable {X : Cx} {pins : List (Addr × Obj)} {σ : L2.St} {H : Hp} {s : Shared} {a C dx : Addr} {f : Str} {y : V} {u : Value} {Q : Unit → Shared → Prop} {E : Value → Shared → Prop} {A : Around}
/-- self.f = y, where the exception has no dict yet: the dict is laid, it is hung into the exception, the value is put into it -/
theorem un_put (T : UnC X.K C) (I : Inv X pins σ H s) (e : H a = some (exo a C none)) (hno : PySem.W.takerIn X.K C f = some none) (ry : RelV y u)
    (h : ∀ (dx : Addr) (s' : Shared), H dx = none → dx ≠ a → Inv X pins σ (upd (upd H dx (exd dx [(f, y)])) a (exo a C (some dx))) s' → Q () s') : wpAny (model X.prog X.w) A (setAttr (.ref a) f u) Q E s := by
  obtain ⟨nm, q, N, bs, sn, sub, ab, col, hcl, hov⟩ := T.over
  obtain ⟨t1, at_⟩ := exo_at I.hok e
  obtain ⟨hp, gs, dr, tk, os⟩ := s
  have inst : PySem.W.InstAt hp a _ C none := ⟨at_, rfl, rfl, trivial⟩
  refine PySem.W.set_plain I.kIn inst T.puts (PySem.W.osa_openX PySem.F.store_LookupError I.kIn inst hov hno fun b => ?_)
  have ne : hp.objs.size ≠ a := Nat.ne_of_gt (Heap.lt_size at_)
  have looks : PySem.W.Looks (model X.prog X.w) hp (classData C) _ := PySem.W.looks_clsIn I.kIn hcl
  -- what the three writes leave
  have goal : ∀ (h2 h3 : Heap) (t3 : Nat), (∀ b o, b ≠ a → (hp.push { cls := .type "dict", data := .dict #[] }).get? b = some o → h2.get? b = some o) →
      h2.get? a = some { cls := .ref C, dict := some hp.objs.size, data := .fields #[.ref t1, .none, .none, .none, .bool false, .none] } → Heap.SameBut hp.objs.size h2 h3 → h3.Ns1 hp.objs.size (fun z => if z = f then some u else none) → Q () ⟨h3, gs, dr, t3, os⟩ := fun h2 h3 t3 k2 a2 k3 n3 => by
    have i1 := I.laid (t' := t3) (a := hp.objs.size) (o := exd hp.objs.size []) (h' := hp.push { cls := .type "dict", data := .dict #[] }) (fun b o z => Heap.get?_push_of_some _ z) (Nat.le_refl _) (exd_ok (Heap.Ns1.of_empty (Heap.Ns.new hp (.type "dict"))) fun _ => True.intro)
    have i2 := i1.write (t' := t3) (x := a) (e := a) (o := exo a C (some hp.objs.size)) (h' := h2) (by rw [upd_ne (Ne.symm ne), e]; exact True.intro) (.inl rfl) k2 ⟨_, a2⟩ (exo_ok a2)
    have i3 := i2.write (t' := t3) (x := hp.objs.size) (e := hp.objs.size) (o := exd hp.objs.size [(f, y)]) (h' := h3) (by rw [upd_ne ne, upd_same]; exact True.intro) (.inl rfl) (fun b o n z => (k3.2 b n).trans z) (let ⟨o, _, _, z, _⟩ := n3; ⟨o, z⟩)
      (exd_ok n3 (relO_put (fs := []) ry fun _ => True.intro))
    rw [upd_again ne] at i3
    exact h _ _ (I.hok.fresh (Nat.le_refl _)) ne i3
  show wpAny _ _ (storeInOwnDict _ _ _ _ _ _) _ _ _
  unfold storeInOwnDict ownDictForStores
  repeat (first | with_reducible refine PySem.HandSPX.store_in_new ?_ ?_ | with_reducible refine wpAny_loadPart_at at_ ?_ | with_reducible refine looks.at ?_ | wp_step)
  · exact ⟨_, #[], 0, (Heap.get?_update_ne _ _ _ _ ne).trans (Heap.get?_push_size _ rfl), rfl, fun z hz => by simp at hz, fun _ => rfl⟩
  · exact fun h3 t3 n3 k3 => goal _ h3 t3 (fun b o n z => (Heap.get?_update_ne _ _ _ _ n).trans z) (Heap.get?_update_self _ (Heap.get?_push_of_some _ at_) rfl) k3 n3
/-- LookupError.__init__(self, ..): nothing of it is told -/
theorem un_init {us : List Value} {Q : Value → Shared → Prop} (T : UnC X.K C) (I : Inv X pins σ H s) (e : H a = some (exo a C none)) (hl : us.length ≤ sizeLine) (h : ∀ s', Inv X pins σ H s' → Q .none s') :
    wpAny (model X.prog X.w) A (call (.builtin "LookupError.__init__") (.ref a :: us)) Q E s := by
  obtain ⟨nm, q, N, bs, sn, sub, ab, col, dd, k0, k1, k2, k3, k5, lk⟩ := T.cls
  obtain ⟨t1, at_⟩ := exo_at I.hok e
  obtain ⟨hp, gs, dr, tk, os⟩ := s
  have same : upd H a (exo a C none) = H := funext fun b => by
    by_cases n : b = a
    · subst n
      exact upd_same.trans e.symm
    · exact upd_ne n
  refine wpAny_call (PySem.HandSPX.init_base PySem.F.excBase_LookupError (fun _ => rfl) (I.kIn _ _ lk) at_ hl fun h' t2 k a2 => h _ ?_)
  rw [← same]
  exact I.write (e := a) (by rw [e]; exact True.intro) (.inl rfl) k ⟨_, a2⟩ (exo_ok a2)
/-- the class is called: an exception is laid, its __init__ is walked, sp is what that keeps -/
theorem un_make {CX : CXT} {fI : Addr} {k : Nat} {fd : FuncData} {ps : List Str} {sp : Sp} {ds : List Value} {dvs vs : List V} {us : List Value} {Q : XK} (T : UnC X.K C) (iC : PySem.W.findIn X.K (.ref C) "__init__" = some (some (.ref fI))) (tI : PySem.W.typeIn X.K (.ref fI) = some (.type "function"))
    (ok : FnOk X.prog X.w X.K X.mg X.base CX k fI fd ps sp) (room : Room (k + 1) X.A) (bd : Binds X.K fd ps ds) (hd : Vals dvs ds) (no : Passes CX X fun _ _ _ => False) (I : Inv X pins σ H s) (rv : Vals vs us) (few : vs.length ≤ 1000)
    (q : ∀ a, H a = none → sp (.ref a :: (vs ++ dvs)) (upd H a (exo a C none)) (fun v H2 => v = .non ∧ ∃ (d : Addr) (fs : List (Str × V)), H2 a = some (exo a C (some d)) ∧ H2 d = some (exd d fs) ∧ H d = none ∧ Q (.ref C) (some d) (upd (del H2 a) d (.xd fs))) (fun _ _ _ => False)) :
    wpAny (model X.prog X.w) X.A (call (.ref C) us) (MkP X pins σ Q) X.xe s := by
  obtain ⟨nm, qn, N, bs, sn, sub, ab, col, dd, k0, k1, k2, k3, k5, lk⟩ := T.cls
  obtain ⟨hp, gs, dr, tk, os⟩ := s
  have le : hp.objs.size ≤ hp.objs.size + 1 := Nat.le_succ _
  have want := q (hp.objs.size + 1) (I.hok.fresh le)
  let h2 : Heap := (hp.push (PySem.W.kdv_tup us)).push (PySem.HandSPX.excO C hp.objs.size)
  have k2' : ∀ b o, hp.get? b = some o → h2.get? b = some o := fun b o z => Heap.get?_push_of_some _ (Heap.get?_push_of_some _ z)
  have new : h2.get? (hp.objs.size + 1) = some (PySem.HandSPX.excO C hp.objs.size) := by
    show ((hp.push (PySem.W.kdv_tup us)).push (PySem.HandSPX.excO C hp.objs.size)).get? (hp.objs.size + 1) = _
    heap_get
  have J : Inv X pins σ (upd H (hp.objs.size + 1) (exo (hp.objs.size + 1) C none)) ⟨h2, gs, dr, tk, os⟩ := I.laid (t' := tk) k2' le (exo_ok new)
  have all : Vals (V.ref (hp.objs.size + 1) :: (vs ++ dvs)) (Value.ref (hp.objs.size + 1) :: (us ++ ds)) := .cons rfl (rv.append hd)
  have many := ok.len _ _ _ _ want
  rw [all.length] at many
  have small : us.length ≤ sizeLine := Nat.le_trans (Nat.le_of_eq (Paired.length rv).symm) (Nat.le_trans few (by decide))
  have run := ok.run _ X.stack _ _ ⟨.ref (hp.objs.size + 1) :: us, []⟩ _ _ _ (fun _ _ _ => False) (room.make C us []) (J.env0.make C us []) (bd _ (.ref (hp.objs.size + 1) :: us) J.kIn many) all want
  refine wpAny_call (PySem.HandSPX.call_own PySem.F.excBase_LookupError (fun _ => rfl) (I.kIn _ _ lk) (PySem.W.looks_findIn I.kIn iC) (fun self => PySem.W.bind_fn I.kIn self tI) small (codeAny_mono run fun r s3 z => ?_))
  rcases r with er | fl
  · exact no pins σ _ _ er s3 J z
  · cases fl with
    | ret w0 =>
      obtain ⟨v, H3, o3, b3, u3, ok3, rel, ev, d, fs, ea, ed, nd, fin⟩ := z
      cases ev
      cases s3
      exact ⟨rel, mk_end (raises_own T.isEx T.isTy) I le k2' u3 ok3 o3 b3 ea ed nd fin⟩
    | _ => exact z.elim
end
/-- LookupError.__init__(self, ..) -/
def tLeI (K : PySem.W.Frag) (ta : TA) : TE := fun σ H Q => ta σ H fun vs H1 => ∃ (a C : Addr) (ws : List V), vs = .ref a :: ws ∧ ws.length ≤ 1000 ∧ UnC K C ∧ H1 a = some (exo a C none) ∧ Q .non H1
/-- self.f = e -/
def tUnS (K : PySem.W.Frag) (f : Str) (to te : TE) : TS := fun D σ H => te σ H fun y H1 => to σ H1 fun x H2 => ∃ a C : Addr, x = .ref a ∧ UnC K C ∧ PySem.W.takerIn K C f = some none ∧
  H2 a = some (exo a C none) ∧ ∀ dx, H2 dx = none → dx ≠ a → D.nx σ (upd (upd H2 dx (exd dx [(f, y)])) a (exo a C (some dx)))
section
variable {X : Cx} {o e : Expr} {es : List Expr} {to te : TE} {ta : TA} {f : Str} {p q p1 p2 pos : Pos}
theorem ty_LE : typeOf (.type "LookupError") = pure (.type "type") := by kernel_rfl
theorem pe_leinit {pl : Sem Bool} (gl : Gl X "LookupError") (free : X.mg "LookupError" = none) (fnd : PySem.W.findCls X.K (.type "LookupError") (.type "type") "__init__" = some (.val (.builtin "LookupError.__init__"))) (args : PA X (e :: es) ta)
    (form : IsMeth X (.Name "LookupError" p1) "__init__" (e :: es) p2 pos pl := by rfl) (r1 : Row1 X e es := by rfl) (fl : Flat X es pos := by rfl) : PE X (.Call (.Attribute (.Name "LookupError" p1) "__init__" p2) (e :: es) [] pos) (tLeI X.K ta) := by
  constructor
  intro pins s σ H Q I h
  refine PySem.W.methodCall_KW (ld_blt I gl free PyProof.Rows.Boot.«LookupError» ?_ (by decide) (by decide)) form
  refine I.fr.elim fun m fr => PySem.W.method_type fr I.ok.mod.kin ty_LE (by decide +kernel) fnd (by decide +kernel) ?_
  refine PyProof.Rows.callWith_method1 (thn (args.run pos pins _ σ H _ (I.tok _) h) fun us s1 z => ?_) r1 fl
  obtain ⟨vs, H1, I1, rv, a, C, ws, rfl, few, T, ea, q⟩ := z
  rcases rv with _ | ⟨ra, rw1⟩
  cases ra
  exact un_init T I1 ea (Nat.le_trans (Nat.le_of_eq (Paired.length rw1).symm) (Nat.le_trans few (by decide))) fun s2 J => ⟨.non, H1, J, rfl, q⟩
theorem ps_ust (ho : PE X o to) (he : PE X e te) (sw : swapsWith e (some (.Attribute o f q)) pos.line X.env = pure false := by rfl) : PS X (.Assign [.Attribute o f q] e pos) (tUnS X.K f to te) := by
  constructor
  intro pins s σ H D I h
  refine plainObj_wpAny_Assign_Attribute (thn (he.run pins s σ H _ I h) fun v s1 z1 => ?_) sw
  obtain ⟨y, H1, I1, ry, z1⟩ := z1
  refine thn (ho.run pins s1 σ H1 _ I1 z1) fun u s2 z2 => ?_
  obtain ⟨x, H2, I2, rx, a, C, rfl, T, no, ea, q⟩ := z2
  cases rx
  exact un_put T I2 ea no ry fun dx s3 n ne J => ⟨σ, _, J, q dx n ne⟩
/-- C(e, ..) as what is raised -/
theorem pmk_un {CX : CXT} {x : Str} {C fI : Addr} {k : Nat} {fd : FuncData} {ps : List Str} {sp : Sp} {ds : List Value} {dvs : List V} (T : UnC X.K C) (iC : PySem.W.findIn X.K (.ref C) "__init__" = some (some (.ref fI))) (tI : PySem.W.typeIn X.K (.ref fI) = some (.type "function"))
    (ok : FnOk X.prog X.w X.K X.mg X.base CX k fI fd ps sp) (room : Room (k + 1) X.A) (bd : Binds X.K fd ps ds) (hd : Vals dvs ds) (no : Passes CX X fun _ _ _ => False) (gl : Gl X x) (gm : X.mg x = some (.ref C)) (args : PA X (e :: es) ta)
    (nd : (x == ("__debug__" : Str)) = false := by decide) (r1 : Row1 X e es := by rfl) (fl : Flat X es pos := by rfl) : PMk X (.Call (.Name x p) (e :: es) [] pos) (tMkO C sp dvs ta) := fun pins s σ H Q I h => by
  refine wpAny_Call_Name_kw (ld_glob I gl gm (PySem.W.callWith_K (h₀ := X.base) I.ok.mod.kin T.keep (thn (args.run pos pins s σ H _ I h) fun us s1 z => ?_) r1 fl) nd)
  obtain ⟨vs, H1, I1, rv, few, q⟩ := z
  exact ⟨I1.kIn, un_make T iC tI ok room bd hd no I1 rv few q⟩
end
end MG
/-! text E2 -/
set_option Elab.async false
set_option linter.all false
set_option maxRecDepth 100000
set_option maxHeartbeats 4200000
/-! xs[-2::-1]; a raise of the own class -/
namespace MG
open PySem PySem.Spec PyProof.Rows L2
/-! ### xs[-2::-1] -/
theorem pick2 (items : Array Value) (hn : 1 ≤ items.size) : slicePick items (some (-2)) none (some (-1)) = items.toList.dropLast.reverse.toArray := by
  have h := PySem.W.krv_pick items.pop
  rw [Array.toList_pop] at h
  rw [← h]
  unfold slicePick
  have e1 : sliceBounds (some (-2)) none (some (-1)) items.size = (((items.size - 1 : Nat) : Int) - 1, -1, -1) := by
    show ((max (-1 : Int) (min (-2 + (items.size : Int)) ((items.size : Int) - 1)), -1, -1) : Int × Int × Int) = _
    congr 1
    omega
  have e2 : sliceBounds none none (some (-1)) items.pop.size = (((items.size - 1 : Nat) : Int) - 1, -1, -1) := by
    rw [PySem.W.krv_bounds, Array.size_pop]
  rw [e1, e2]
  dsimp only
  rw [PySem.W.krv_sliceRange]
  congr 1
  have key : ∀ l : List Nat, (∀ i, i ∈ l → items[i]? = items.pop[i]?) → l.filterMap (items[·]?) = l.filterMap (items.pop[·]?) := fun l => by
    induction l with
    | nil => exact fun _ => rfl
    | cons i l ih =>
      intro h
      rw [List.filterMap_cons, List.filterMap_cons, h i List.mem_cons_self, ih fun j hj => h j (List.mem_cons_of_mem _ hj)]
  refine key _ fun i hi => ?_
  obtain ⟨k, z, rfl⟩ := List.mem_map.mp hi
  have := List.mem_range.mp z
  rw [Array.getElem?_pop, if_pos (by omega)]
def tRev2 (K : PySem.W.Frag) (te : TE) : TE := fun σ H Q => te σ H fun x H1 => ∃ a xs, x = .ref a ∧ SqL K H1 a xs ∧ 1 ≤ xs.length ∧ ∀ p, H1 p = none → Q (.ref p) (upd H1 p (.lst xs.dropLast.reverse))
/-- a slice's part is n, and nothing that is tracked changes with it -/
def PartIs (X : Cx) (e : Option Expr) (n : Option Int) : Prop := ∃ t, PO X e t ∧ ∀ σ H (Q : Option Int → Hp → Prop), Q n H → t σ H Q
theorem PartIs.walk {X : Cx} {pins : List (Addr × Obj)} {σ : L2.St} {H : Hp} {s : Shared} {e : Option Expr} {n : Option Int} {Q : Value → Shared → Prop} (p : PartIs X e n) (I : Inv X pins σ H s) (k : ∀ u s', Inv X pins σ H s' → IsPart u n → Q u s') : wpAny (model X.prog X.w) X.A (evalPart e X.env) Q X.xe s := by
  obtain ⟨t, po, give⟩ := p
  refine thn (po.run pins s σ H (fun o G => o = n ∧ G = H) I (give σ H _ ⟨rfl, rfl⟩)) fun u s' z => ?_
  obtain ⟨_, _, J, pu, rfl, rfl⟩ := z
  exact k u s' J pu
theorem pe_rev2 {X : Cx} {e : Expr} {te : TE} {k1 k2 : Nat} {p1 p2 p3 p4 p5 pos : Pos} (he : PE X e te) : PE X (.Subscript e (.Slice (some (.UnaryOp .USub (.Constant (.int 2) k1 p4) p5)) none (some (.UnaryOp .USub (.Constant (.int 1) k2 p1) p2)) p3) pos) (tRev2 X.K te) := by
  constructor
  intro pins s σ H Q I h
  have two : PartIs X (some (.UnaryOp .USub (.Constant (.int 2) k1 p4) p5)) (some (-2)) := ⟨_, po_some (pe_un un_neg pe_int), fun _ _ _ q => ⟨2, rfl, -2, rfl, q⟩⟩
  have one : PartIs X (some (.UnaryOp .USub (.Constant (.int 1) k2 p1) p2)) (some (-1)) := ⟨_, po_some (pe_un un_neg pe_int), fun _ _ _ q => ⟨1, rfl, -1, rfl, q⟩⟩
  have non : PartIs X none none := ⟨_, po_none, fun _ _ _ q => q⟩
  refine Subscript_ (thn (he.run pins s σ H _ I h) fun v s1 z => ?_)
  obtain ⟨x, H1, I1, rx, a, xs, rfl, hx, len1, q⟩ := z
  cases rx
  refine wpAny_Slice (two.walk I1 fun vl s2 I2 pl => non.walk I2 fun vu s3 I3 pu => one.walk I3 fun vg s4 I4 pg => ?_)
  let s5 : Shared := { s4 with heap := s4.heap.push { cls := .type "slice", data := .fields #[vl, vu, vg] } }
  have I5 : Inv X pins σ H1 s5 := I4.kept (t' := s4.toks) fun _ _ e => Heap.get?_push_of_some _ e
  obtain ⟨its, rv, lst, few⟩ := I5.list hx
  have same : xs.length = its.length := rv.length
  have rev : Vals xs.dropLast.reverse its.dropLast.reverse := by
    rw [List.dropLast_eq_take, List.dropLast_eq_take, same]
    exact (rv.take _).reverse
  show wpAny _ _ (subscriptTail e _ (.ref a) (.ref s4.heap.objs.size)) _ _ s5
  refine tail_any (ops := [.ref a, .ref s4.heap.objs.size]) lst.isList.typeIs PySem.slot_list_getitem.lookup (wpAny_getItem_list_slice lst.isList (Heap.IsSliceOf.new _ vl vu vg) pl pu pg (by decide) ?_ (by rw [List.size_toArray]; omega)) (by with_unfolding_all rfl)
  rw [pick2 _ (by rw [List.size_toArray]; omega)]
  exact ⟨.ref _, _, I5.laid (t' := s5.toks) (o := .lst xs.dropLast.reverse) (fun _ _ e => Heap.get?_push_of_some _ e) (Nat.le_refl _) ⟨by rw [List.length_reverse, List.length_dropLast]; omega, _, 0, rev, Heap.get?_push_size _ rfl⟩, rfl, q _ (I5.hok.fresh (Nat.le_refl _))⟩
/-! ### raise of the own class -/
/-- UnknownNode.__init__ -/
def spUn (K : PySem.W.Frag) : Sp := fun vs H Q _ => ∃ (a U : Addr) (v : V), vs = [.ref a, v] ∧ UnC K U ∧ PySem.W.takerIn K U "value" = some none ∧ H a = some (exo a U none) ∧
  ∀ dx, H dx = none → dx ≠ a → Q .non (upd (upd H dx (exd dx [("value", v)])) a (exo a U (some dx)))
structure UnOk (P : Program) (w : World) (K : PySem.W.Frag) (mg : Str → Option Value) (base : Heap) (k : Nat) (U : Addr) : Prop where
  T : UnC K U
  tk : PySem.W.takerIn K U "value" = some none
  ex : ∃ (fI : Addr) (fd : FuncData) (ps : List Str), FnOk P w K mg base (L2.CX P w) k fI fd ps (spUn K) ∧ PySem.W.findIn K (.ref U) "__init__" = some (some (.ref fI)) ∧ PySem.W.typeIn K (.ref fI) = some (.type "function") ∧ Binds K fd ps []
  m : mg "UnknownNode" = some (.ref U)
/-- raise UnknownNode(e) -/
theorem ps_raiseU {X : Cx} {Wx : WX} {U : Addr} {k j : Nat} {e : Expr} {te : TE} {p p2 pos : Pos} (c : UnOk X.prog X.w X.K X.mg X.base k U) (hr : Room j X.A) (hk : k + 1 ≤ j) (hc : X.calm = true) (tk : Takes X Wx) (hg : Gl X "UnknownNode") (he : PE X e te)
    (h1 : starEach [e] X.env = (false, eval e X.env) :: starEach [] X.env := by rfl) (hpl : (backTo p2 (starEach [] X.env)).any (·.1) = false := by rfl) :
    PS X (.Raise (some (.Call (.Name "UnknownNode" p) [e] [] p2)) none pos) (fun _ σ H => tMkO U (spUn X.K) [] (tCons te tNil) σ H fun cls d H' => Wx cls d σ H') := by
  obtain ⟨fI, fd, ps, F, hi, ht, hb⟩ := c.ex
  exact ps_raise (pos := pos) hc tk (pmk_un (x := "UnknownNode") (p := p) (pos := p2) c.T hi ht F (hr.mono hk) hb .nil passL hg c.m (pa_cons he pa_nil h1) (by decide) h1 hpl)
theorem raise_ok {K : PySem.W.Frag} {U : Addr} {v : V} {H1 : Hp} {Q : XK} (T : UnC K U) (tk : PySem.W.takerIn K U "value" = some none) (h : ∀ d H2, Same H1 H2 → H2 d = some (.xd [("value", v)]) → Q (.ref U) (some d) H2) :
    [v].length ≤ 1000 ∧ ∀ a, H1 a = none → spUn K (.ref a :: ([v] ++ [])) (upd H1 a (exo a U none))
      (fun v H2 => v = .non ∧ ∃ (d : Addr) (fs : List (Str × V)), H2 a = some (exo a U (some d)) ∧ H2 d = some (exd d fs) ∧ H1 d = none ∧ Q (.ref U) (some d) (upd (del H2 a) d (.xd fs))) (fun _ _ _ => False) := by
  refine ⟨by show 1 ≤ 1000; decide, fun a ha => ⟨a, U, v, rfl, T, tk, upd_same, fun dx hd hne => ⟨rfl, dx, [("value", v)], upd_same, ?_, ?_, h dx _ (fun b o hb => ?_) upd_same⟩⟩⟩
  · rw [upd_ne hne, upd_same]
  · rw [upd_ne hne] at hd
    exact hd
  · have h1 : b ≠ a := ne_of_none hb ha
    have h2 : b ≠ dx := ne_of_none hb (by rw [upd_ne hne] at hd; exact hd)
    rw [upd_ne h2, del_ne h1, upd_ne h1, upd_ne h2, upd_ne h1]
    exact hb
end MG
/-! text B2 -/
set_option Elab.async false
set_option linter.all false
set_option maxRecDepth 100000
set_option maxHeartbeats 4200000
/-! the rules with the written part told apart from the context (for blocks of comprehensions) -/
namespace MG
open PySem PySem.Spec PyProof.Rows L2
section
variable {X : Cx} {K : PySem.W.Frag}
theorem pe_fldK {e : Expr} {ta : TE} {f : Str} {pos : Pos} (hK : X.K = K) (he : PE X e ta) (hb : attributeBase e f X.env (eval e X.env) = eval e X.env) : PE X (.Attribute e f pos) (tFld K ta f) := by subst hK; exact pe_fld he hb
theorem ix_listK (hK : X.K = K) : IxR X (rIxL K) := by subst hK; exact ix_list
theorem ix_tupK (hK : X.K = K) : IxR X (rIxT K) := by subst hK; exact ix_tup
theorem sl_listK (hK : X.K = K) : SlR X (rSlL K) := by subst hK; exact sl_list
theorem op_in_seqK (hK : X.K = K) : OpR X (compareOp .In) (rIn K false) := by subst hK; exact op_in_seq
theorem op_notIn_seqK (hK : X.K = K) : OpR X (compareOp .NotIn) (rIn K true) := by subst hK; exact op_notIn_seq
theorem call_len_seqK (hK : X.K = K) : CallR X (.builtin "len") (fun xs H Q => ∃ p ys, xs = [.ref p] ∧ (SqL K H p ys ∨ SqT K H p ys) ∧ Q (.int ys.length) H) := by subst hK; exact call_len_seq
theorem call_isiK (hK : X.K = K) : CallR X (.builtin "isinstance") (rIsi K) := by subst hK; exact call_isi
theorem call_list_ofK (hK : X.K = K) : CallR X (.type "list") (fun xs H Q => ∃ p ys, xs = [.ref p] ∧ (SqL K H p ys ∨ SqT K H p ys) ∧ ∀ l, H l = none → Q (.ref l) (upd H l (.lst ys))) := by subst hK; exact call_list_of
theorem op_eqDK (hK : X.K = K) (hu : X.A.units + 64 < cLine) : OpR X (compareOp .Eq) (rEqD K) := by subst hK; exact op_eqD hu
theorem op_neDK (hK : X.K = K) (hu : X.A.units + 64 < cLine) : OpR X (compareOp .NotEq) (rNeD K) := by subst hK; exact op_neD hu
end
end MG
/-! text D3 -/
set_option Elab.async false
set_option linter.all false
set_option maxRecDepth 100000
set_option maxHeartbeats 4200000
/-! the tree's methods -/
namespace MG
open PySem PySem.Spec PyProof.Rows L2
/-- the exception of an unknown node -/
def Unk (U : Addr) (H : Hp) (v : V) (E : XK) : Prop := ∀ d H2, Same H H2 → H2 d = some (.xd [("value", v)]) → E (.ref U) (some d) H2
def spReq (U C : Addr) : Sp := fun vs H Q E => ∃ (a : Addr) (v : V) (ns : List Str) (par lab : Str → Str), vs = [.ref a, v] ∧ TP C H a ns par lab ∧ Told H v ∧
  (knownB ns v = true → ∀ H', Same H H' → Q .non H') ∧ (knownB ns v = false → Unk U H v E)
def spNodes (C : Addr) : Sp := fun vs H Q _ => ∃ (a : Addr) (ns : List Str) (par lab : Str → Str), vs = [.ref a] ∧ TP C H a ns par lab ∧ ns.length ≤ 40 ∧ ∀ l H', H l = none → Same H H' → H' l = some (.lst (ns.map V.str)) → Q (.ref l) H'
/-- a method of a node: for a known one, for another -/
def spOf (U C : Addr) (R : Hp → Addr → List Str → (Str → Str) → (Str → Str) → Str → VK → Prop) : Sp := fun vs H Q E => ∃ (a : Addr) (v : V) (ns : List Str) (par lab : Str → Str), vs = [.ref a, v] ∧ TP C H a ns par lab ∧ TD ns par lab ∧ Told H v ∧
  (∀ n, v = .str n → (n = Rt ∨ n ∈ ns) → R H a ns par lab n Q) ∧ (knownB ns v = false → Unk U H v E)
def rWay : Hp → Addr → List Str → (Str → Str) → (Str → Str) → Str → VK → Prop := fun H _ _ par _ n Q => ∀ l H', H l = none → Same H H' → H' l = some (.lst ((W par Rt n).map V.str)) → Q (.ref l) H'
def rDepth : Hp → Addr → List Str → (Str → Str) → (Str → Str) → Str → VK → Prop := fun H _ _ par _ n Q => ∀ H', Same H H' → Q (.int (((W par Rt n).length : Int) - 1)) H'
def spUnder (U C : Addr) : Sp := fun vs H Q E => ∃ (a : Addr) (v u : V) (ns : List Str) (par lab : Str → Str), vs = [.ref a, v, u] ∧ TP C H a ns par lab ∧ TD ns par lab ∧ Told H v ∧ Told H u ∧
  (∀ n m, v = .str n → u = .str m → (n = Rt ∨ n ∈ ns) → (m = Rt ∨ m ∈ ns) → ∀ H', Same H H' → Q (.bl (decide (m ∈ W par Rt n))) H') ∧ (knownB ns v = false → Unk U H v E) ∧ (knownB ns v = true → knownB ns u = false → Unk U H u E)
def spBelow (U C : Addr) : Sp := fun vs H Q E => ∃ (a : Addr) (v : V) (ns : List Str) (par lab : Str → Str) (ch : Str → List Str), vs = [.ref a, v] ∧ TP C H a ns par lab ∧ TC C H a ns ch ∧ TD ns par lab ∧ Kids ns par ch ∧ Told H v ∧
  (∀ n, v = .str n → (n = Rt ∨ n ∈ ns) → ∀ l H', H l = none → Same H H' → H' l = some (.lst ((pre ch n).map V.str)) → Q (.ref l) H') ∧ (knownB ns v = false → Unk U H v E)
def rPath : Hp → Addr → List Str → (Str → Str) → (Str → Str) → Str → VK → Prop := fun H _ _ par lab n Q => ∀ t H', H t = none → Same H H' → H' t = some (.tup ((path par lab Rt n).map V.str)) → Q (.ref t) H'
/-- two lists of texts, at f and at g, that were made later -/
structure Two (H0 : Hp) (f g : Addr) (H : Hp) (F0 W0 : List Str) : Prop where
  nf : H0 f = none
  ne : f ≠ g
  ng : H0 g = none
  s : Same H0 H
  f : H f = some (.lst (F0.map V.str))
  g : H g = some (.lst (W0.map V.str))
theorem Two.new {H0 H : Hp} {f g q : Addr} {F0 W0 : List Str} {o : HO} (t : Two H0 f g H F0 W0) (h : H q = none) : Two H0 f g (upd H q o) F0 W0 :=
  ⟨t.nf, t.ne, t.ng, t.s.trans (Same.new h), Same.new h _ _ t.f, Same.new h _ _ t.g⟩
theorem Two.start {H0 : Hp} {f g : Addr} {F0 W0 : List Str} (hf : H0 f = none) (hg : (upd H0 f (.lst (F0.map V.str))) g = none) : Two H0 f g (upd (upd H0 f (.lst (F0.map V.str))) g (.lst (W0.map V.str))) F0 W0 := by
  have ne : f ≠ g := fun e => by rw [e, upd_same] at hg; cases hg
  have ng : H0 g = none := by rw [upd_ne ne.symm] at hg; exact hg
  exact ⟨hf, ne, ng, Same.mut (Same.new hf) ng, by rw [upd_ne ne, upd_same], upd_same⟩
theorem Two.setf {H0 H : Hp} {f g : Addr} {F0 W0 : List Str} (t : Two H0 f g H F0 W0) (F1 : List Str) : Two H0 f g (upd H f (.lst (F1.map V.str))) F1 W0 :=
  ⟨t.nf, t.ne, t.ng, Same.mut t.s t.nf, upd_same, by rw [upd_ne t.ne.symm]; exact t.g⟩
theorem Two.setg {H0 H : Hp} {f g : Addr} {F0 W0 : List Str} (t : Two H0 f g H F0 W0) (W1 : List Str) : Two H0 f g (upd H g (.lst (W1.map V.str))) F0 W1 :=
  ⟨t.nf, t.ne, t.ng, Same.mut t.s t.ng, by rw [upd_ne t.ne]; exact t.f, upd_same⟩
section
variable {P : Program} {w : World} {K : PySem.W.Frag} {mg : Str → Option Value} {base : Heap} {C U : Addr}
theorem sc_s_UN : FnScope ["self", "value"] ["self", "value"] (defScope s_UN) := ⟨rfl, rfl, rfl, by decide +kernel, rfl, by decide +kernel, by decide +kernel⟩
theorem ok_UN {f : Addr} {fd : FuncData} (T : Txt K mg C) (F : Fun K "__init__" "UnknownNode.__init__" s_UN f fd) (hU : UnC K U) (htk : PySem.W.takerIn K U "value" = some none) (hm : mg "UnknownNode" = some (.ref U))
    (hi : PySem.W.findIn K (.ref U) "__init__" = some (some (.ref f))) (ht : PySem.W.typeIn K (.ref f) = some (.type "function")) (vV : PySem.W.findCls K (.type "LookupError") (.type "type") "__init__" = some (.val (.builtin "LookupError.__init__"))) : UnOk P w K mg base 1 U := by
  refine ⟨hU, htk, ⟨f, fd, ["self", "value"], ?_, hi, ht, F.binds (ps := ["self", "value"]) fun _ _ _ _ _ _ us hl => match us, hl with | [_, _], _ => rfl⟩, hm⟩
  refine F.okX sc_s_UN (fun vs H Q E h => ?_) (fun cdv A outer s H vs Q E hr h => ?_)
  · obtain ⟨a, U, v, rfl, _⟩ := h
    rfl
  · obtain ⟨a, U, v, rfl, hU, htk, ha, q⟩ := h
    refine ⟨_, PSs.nox (pss_cons (ps_expr (pe_leinit (by rfl) T.g_LookupError vV (pa_cons (pv 0) (pa_cons (pv 1) pa_nil)))) (pss_one (ps_ust (pv 0) (pv 1)))), ?_⟩
    exact ⟨_, rfl, _, rfl, a, U, [v], rfl, by show 1 ≤ 1000; decide, hU, ha, _, rfl, _, rfl, a, U, rfl, hU, htk, ha, q⟩
theorem sc_s_require_node : FnScope ["self", "node"] ["self", "node"] (defScope s_require_node) := ⟨rfl, rfl, rfl, by decide +kernel, rfl, by decide +kernel, by decide +kernel⟩
theorem ok_require_node {f : Addr} {fd : FuncData} (T : Txt K mg C) (F : Fun K "require_node" "Tree.require_node" s_require_node f fd) (hm : Meth K C "require_node" f) (c_is_known : Cal P w K mg base 1 "is_known" spKnown) (c_UN : UnOk P w K mg base 1 U) : Met P w K mg base 3 C "require_node" (spReq U C) := by
  refine ⟨f, fd, ["self", "node"], ?_, T.cl, hm, F.binds (ps := ["self", "node"]) fun _ _ _ _ _ _ us hl => match us, hl with | [_, _], _ => rfl⟩
  refine F.okX sc_s_require_node (fun vs H Q E h => ?_) (fun cdv A outer s H vs Q E hr h => ?_)
  · obtain ⟨a, v, ns, par, lab, rfl, _⟩ := h
    rfl
  · obtain ⟨a, v, ns, par, lab, rfl, hp, ht, q1, q2⟩ := h
    obtain ⟨fs, p, ad, ho, hl, hpl, hk⟩ := hp.ex
    obtain ⟨dx, hx⟩ := ho.at_
    refine ⟨_, (pss_one (ps_if (pt_not (pt_val (pe_cl c_is_known hr (by decide) (by rfl) (pa_cons (pe_fld (pv 0) rfl) (pa_cons (pv 1) pa_nil))))) (pss_one (ps_raiseU c_UN hr (by decide) rfl (takes_of rfl rfl rfl rfl) (by rfl) (pv 1))) pss_nil)), ?_⟩
    refine ⟨_, rfl, a, C, dx, fs, _, rfl, hx, T.cl, T.n_places, hl, _, rfl, p, ns, par, lab, ad, v, rfl, hpl, ht, _, rfl, ?_⟩
    refine iteNB (fun e => ⟨_, rfl, raise_ok c_UN.T c_UN.tk (q2 e)⟩) fun e => q1 e H (Same.refl H)
theorem sc_s_nodes : FnScope ["self"] ["self"] (defScope s_nodes) := ⟨rfl, rfl, rfl, by decide +kernel, rfl, by decide +kernel, by decide +kernel⟩
theorem ok_nodes {f : Addr} {fd : FuncData} (T : Txt K mg C) (F : Fun K "nodes" "Tree.nodes" s_nodes f fd) (hm : Meth K C "nodes" f) : Met P w K mg base 1 C "nodes" (spNodes C) := by
  refine ⟨f, fd, ["self"], ?_, T.cl, hm, F.binds (ps := ["self"]) fun _ _ _ _ _ _ us hl => match us, hl with | [_], _ => rfl⟩
  refine F.okX sc_s_nodes (fun vs H Q E h => ?_) (fun cdv A outer s H vs Q E hr h => ?_)
  · obtain ⟨a, ns, par, lab, rfl, _⟩ := h
    rfl
  · obtain ⟨a, ns, par, lab, rfl, hp, hn, q⟩ := h
    obtain ⟨fs, p, ad, ho, hl, hpl, hk⟩ := hp.ex
    obtain ⟨dx, hx⟩ := ho.at_
    refine ⟨_, PSs.nox (pss_one (ps_ret (pe_callTy (call_list_dK rfl) (by rfl) T.g_list bt_list (pa_cons (pe_fld (pv 0) rfl) pa_nil)))), ?_⟩
    refine ⟨_, rfl, a, C, dx, fs, _, rfl, hx, T.cl, T.n_places, hl, ?_⟩
    refine ⟨p, _, rfl, hk, fun l h1 => q l _ h1 (Same.new h1) ?_⟩
    rw [upd_same, List.map_map]
    rfl
theorem sc_s_way_up : FnScope ["self", "node"] ["self", "node"] (defScope s_way_up) := ⟨rfl, rfl, rfl, by decide +kernel, rfl, by decide +kernel, by decide +kernel⟩
theorem ok_way_up {f : Addr} {fd : FuncData} (T : Txt K mg C) (F : Fun K "way_up" "Tree.way_up" s_way_up f fd) (hm : Meth K C "way_up" f) (c_way_within : Cal P w K mg base 1 "way_within" spWithin) (c_require_node : Met P w K mg base 3 C "require_node" (spReq U C)) : Met P w K mg base 4 C "way_up" (spOf U C rWay) := by
  refine ⟨f, fd, ["self", "node"], ?_, T.cl, hm, F.binds (ps := ["self", "node"]) fun _ _ _ _ _ _ us hl => match us, hl with | [_, _], _ => rfl⟩
  refine F.okX sc_s_way_up (fun vs H Q E h => ?_) (fun cdv A outer s H vs Q E hr h => ?_)
  · obtain ⟨a, v, ns, par, lab, rfl, _⟩ := h
    rfl
  · obtain ⟨a, v, ns, par, lab, rfl, hp, D, ht, q1, q2⟩ := h
    obtain ⟨fs, p, ad, ho, hl, hpl, hk⟩ := hp.ex
    obtain ⟨dx, hx⟩ := ho.at_
    refine ⟨_, (pss_cons (ps_expr (pe_mlX c_require_node hr (by decide) (passes_call (takes_of rfl rfl rfl rfl) fun _ _ _ _ h => h) (pv 0) (pa_cons (pv 1) pa_nil)))
    (pss_one (ps_ret (pe_cl c_way_within hr (by decide) (by rfl) (pa_cons (pe_fld (pv 0) rfl) (pa_cons (pv 1) pa_nil)))))), ?_⟩
    refine ⟨_, rfl, a, dx, fs, rfl, hx, ho.no _ (by decide), _, rfl, a, v, ns, par, lab, rfl, hp, ht, fun hk H1 s1 => ?_, q2⟩
    obtain ⟨n, rfl, hn⟩ := knownB_of hk
    exact ⟨_, rfl, a, C, dx, fs, _, rfl, s1 _ _ hx, T.cl, T.n_places, hl, _, rfl, p, n, ns, par, lab, ad, rfl, hpl.same s1, D, hn, fun l H2 hl2 s2 hL => q1 n rfl hn l H2 (s1.free hl2) (s1.trans s2) hL⟩
theorem sc_s_depth_of : FnScope ["self", "node"] ["self", "node"] (defScope s_depth_of) := ⟨rfl, rfl, rfl, by decide +kernel, rfl, by decide +kernel, by decide +kernel⟩
theorem ok_depth_of {f : Addr} {fd : FuncData} (T : Txt K mg C) (F : Fun K "depth_of" "Tree.depth_of" s_depth_of f fd) (hm : Meth K C "depth_of" f) (c_way_up : Met P w K mg base 4 C "way_up" (spOf U C rWay)) : Met P w K mg base 5 C "depth_of" (spOf U C rDepth) := by
  refine ⟨f, fd, ["self", "node"], ?_, T.cl, hm, F.binds (ps := ["self", "node"]) fun _ _ _ _ _ _ us hl => match us, hl with | [_, _], _ => rfl⟩
  refine F.okX sc_s_depth_of (fun vs H Q E h => ?_) (fun cdv A outer s H vs Q E hr h => ?_)
  · obtain ⟨a, v, ns, par, lab, rfl, _⟩ := h
    rfl
  · obtain ⟨a, v, ns, par, lab, rfl, hp, D, ht, q1, q2⟩ := h
    obtain ⟨fs, p, ad, ho, hl, hpl, hk⟩ := hp.ex
    obtain ⟨dx, hx⟩ := ho.at_
    refine ⟨_, (pss_one (ps_ret (pe_op op_sub (pe_callB call_len_seq (by rfl) T.g_len bt_len (pa_cons (pe_mlX c_way_up hr (by decide) (passes_call (takes_of rfl rfl rfl rfl) fun _ _ _ _ h => h) (pv 0) (pa_cons (pv 1) pa_nil)) pa_nil)) pe_int))), ?_⟩
    refine ⟨_, rfl, a, dx, fs, rfl, hx, ho.no _ (by decide), _, rfl, a, v, ns, par, lab, rfl, hp, D, ht, fun n hv hn l H1 hl1 s1 hL => ?_, q2⟩
    exact ⟨l, _, rfl, .inl (SqL.of hL), _, _, rfl, rfl, by rw [List.length_map]; exact q1 n hv hn H1 s1⟩
theorem sc_s_path_of : FnScope ["self", "node", "one"] ["self", "node"] (defScope s_path_of) := ⟨rfl, rfl, rfl, by decide +kernel, rfl, by decide +kernel, by decide +kernel⟩
theorem ok_path_of {f : Addr} {fd : FuncData} (T : Txt K mg C) (F : Fun K "path_of" "Tree.path_of" s_path_of f fd) (hm : Meth K C "path_of" f) (c_way_up : Met P w K mg base 4 C "way_up" (spOf U C rWay)) : Met P w K mg base 5 C "path_of" (spOf U C rPath) := by
  refine ⟨f, fd, ["self", "node"], ?_, T.cl, hm, F.binds (ps := ["self", "node"]) fun _ _ _ _ _ _ us hl => match us, hl with | [_, _], _ => rfl⟩
  refine F.okX sc_s_path_of (fun vs H Q E h => ?_) (fun cdv A outer s H vs Q E hr h => ?_)
  · obtain ⟨a, v, ns, par, lab, rfl, _⟩ := h
    rfl
  · obtain ⟨a, v, ns, par, lab, rfl, hp, D, ht, q1, q2⟩ := h
    obtain ⟨fs, p, ad, ho, hl, hpl, hk⟩ := hp.ex
    obtain ⟨dx, hx⟩ := ho.at_
    refine ⟨_, (pss_one (ps_ret (pe_callTy call_tuple_of (by rfl) T.g_tuple bt_tuple (pa_cons (pe_lc (own := [("one", 2)]) (g := gName 2) (tt := tYes) rfl sc_s_path_of.nd (pi_list (pe_rev2 (pe_mlX c_way_up hr (by decide) (passes_call (takes_of rfl rfl rfl rfl) fun _ _ _ _ h => h) (pv 0) (pa_cons (pv 1) pa_nil)))) (blkOk_by (own := [("one", 2)]) (N := ["self", "node", "one"]) (sc := defScope s_path_of) (by decide +kernel)) (fun _ _ _ _ _ => pg_name (i := 2) sc_s_path_of.nd rfl (Or.inl rfl)) (fun _ _ _ _ _ => pts_nil) (fun _ _ _ _ _ => (pe_ix (ix_tupK (K := K) rfl) (pe_dget (hu_of hr) (pe_fldK (K := K) rfl (pv 0) rfl) (pv 2) (fun _ _ => rfl)) pe_int (fun _ _ => rfl)))) pa_nil)))), ?_⟩
    refine ⟨_, rfl, a, dx, fs, rfl, hx, ho.no _ (by decide), _, rfl, a, v, ns, par, lab, rfl, hp, D, ht, fun n hv hn l H1 hl1 s1 hL => ?_, q2⟩
    subst hv
    have T0 := D.T
    refine ⟨l, _, rfl, SqL.of hL, by rw [List.length_map]; exact T0.W_pos n, fun r hr1 => ?_⟩
    have e1 : ((W par Rt n).map V.str).dropLast.reverse = ((W par Rt n).dropLast.reverse).map V.str := by rw [List.map_reverse, List.map_dropLast]
    rw [e1]
    have hlen : ((W par Rt n).dropLast.reverse).length ≤ 41 := by
      rw [List.length_reverse, List.length_dropLast]
      have := T0.W_le hn
      omega
    refine ⟨r, rfl, ⟨_, SqL.of upd_same⟩, fun D0 hD => lc_each (walk_list (xs := ((W par Rt n).dropLast.reverse).map V.str)) hD (fun i => (((W par Rt n).dropLast.reverse).take i).map fun x => V.str (lab x)) rfl (fun i hi => take_lt (Nat.le_trans hlen (by rw [sz]; decide)) (by rw [List.length_map] at hi; exact hi)) (fun H' s => SqL.of (s _ _ upd_same)) ?_ ?_⟩
    · rintro i v H2 H3 Kt hi s2 ⟨rfl, hv⟩ k
      rw [List.getElem?_map] at hv
      obtain ⟨x, hx', rfl⟩ := Option.map_eq_some_iff.mp hv
      have hxn : x ∈ ns := T0.W_drop n hn x (List.mem_reverse.mp (List.mem_of_getElem? hx'))
      have s3 : Same H H3 := (s1.trans (Same.new hr1)).trans s2
      exact ⟨rfl, _, rfl, a, C, dx, fs, _, rfl, s3 _ _ hx, T.cl, T.n_places, hl, _, rfl, p, _, rfl, (hpl.same s3).get hxn, ad x, _, 1, .str (lab x), rfl, rfl, SqT.of ((hpl.same s3).t x hxn), rfl, k _ _ (Same.refl _) (take_map _ _ _ hx')⟩
    · intro H2 s2 h3
      have s3 : Same H H2 := (s1.trans (Same.new hr1)).trans s2
      refine ⟨D0, _, rfl, .inl ⟨SqL.of h3, fun t ht1 => q1 n rfl hn t _ (s3.free ht1) (s3.trans (Same.new ht1)) ?_⟩⟩
      rw [upd_same, List.length_map, List.take_of_length_le (Nat.le_refl _)]
      unfold path
      rw [List.map_reverse, List.map_reverse, List.map_map]
      rfl
theorem sc_s_is_under : FnScope ["self", "node", "other"] ["self", "node", "other"] (defScope s_is_under) := ⟨rfl, rfl, rfl, by decide +kernel, rfl, by decide +kernel, by decide +kernel⟩
theorem ok_is_under {f : Addr} {fd : FuncData} (T : Txt K mg C) (F : Fun K "is_under" "Tree.is_under" s_is_under f fd) (hm : Meth K C "is_under" f) (c_way_up : Met P w K mg base 4 C "way_up" (spOf U C rWay)) (c_require_node : Met P w K mg base 3 C "require_node" (spReq U C)) : Met P w K mg base 5 C "is_under" (spUnder U C) := by
  refine ⟨f, fd, ["self", "node", "other"], ?_, T.cl, hm, F.binds (ps := ["self", "node", "other"]) fun _ _ _ _ _ _ us hl => match us, hl with | [_, _, _], _ => rfl⟩
  refine F.okX sc_s_is_under (fun vs H Q E h => ?_) (fun cdv A outer s H vs Q E hr h => ?_)
  · obtain ⟨a, v, u, ns, par, lab, rfl, _⟩ := h
    rfl
  · obtain ⟨a, v, u, ns, par, lab, rfl, hp, D, hv, hu, q1, q2, q3⟩ := h
    obtain ⟨fs, p, ad, ho, hl, hpl, hk⟩ := hp.ex
    obtain ⟨dx, hx⟩ := ho.at_
    refine ⟨_, (pss_cons (ps_expr (pe_mlX c_require_node hr (by decide) (passes_call (takes_of rfl rfl rfl rfl) fun _ _ _ _ h => h) (pv 0) (pa_cons (pv 1) pa_nil)))
    (pss_cons (ps_expr (pe_mlX c_require_node hr (by decide) (passes_call (takes_of rfl rfl rfl rfl) fun _ _ _ _ h => h) (pv 0) (pa_cons (pv 2) pa_nil)))
    (pss_one (ps_ret (pe_cmpR op_in_seq (pv 2) (pe_mlX c_way_up hr (by decide) (passes_call (takes_of rfl rfl rfl rfl) fun _ _ _ _ h => h) (pv 0) (pa_cons (pv 1) pa_nil)) (by rfl)))))), ?_⟩
    refine ⟨_, rfl, a, dx, fs, rfl, hx, ho.no _ (by decide), _, rfl, a, v, ns, par, lab, rfl, hp, hv, fun kv H1 s1 => ?_, fun e => q2 e⟩
    obtain ⟨n, rfl, hn⟩ := knownB_of kv
    refine ⟨_, rfl, a, dx, fs, rfl, s1 _ _ hx, ho.no _ (by decide), _, rfl, a, u, ns, par, lab, rfl, hp.same s1, hu.same s1, fun ku H2 s2 => ?_, fun e d H3 s3 => q3 kv e d H3 (s1.trans s3)⟩
    obtain ⟨m, rfl, hm⟩ := knownB_of ku
    have s12 := s1.trans s2
    refine ⟨_, rfl, _, rfl, a, dx, fs, rfl, s12 _ _ hx, ho.no _ (by decide), _, rfl, a, .str n, ns, par, lab, rfl, hp.same s12, D, True.intro, fun n' en hn' l H3 hl3 s3 hL => ?_, fun e => ?_⟩
    · cases en
      refine ⟨l, _, rfl, .inl (SqL.of hL), rfl, flat_strs _, ?_⟩
      have z := q1 n m rfl rfl hn hm H3 (s12.trans s3)
      rw [← in_strs] at z
      exact z
    · rw [knownB_yes hn] at e
      cases e
theorem sc_s_nodes_under : FnScope ["self", "node", "found", "waiting", "here"] ["self", "node"] (defScope s_nodes_under) := ⟨rfl, rfl, rfl, by decide +kernel, rfl, by decide +kernel, by decide +kernel⟩
theorem ok_nodes_under {f : Addr} {fd : FuncData} (T : Txt K mg C) (F : Fun K "nodes_under" "Tree.nodes_under" s_nodes_under f fd) (hm : Meth K C "nodes_under" f) (c_require_node : Met P w K mg base 3 C "require_node" (spReq U C)) : Met P w K mg base 4 C "nodes_under" (spBelow U C) := by
  refine ⟨f, fd, ["self", "node"], ?_, T.cl, hm, F.binds (ps := ["self", "node"]) fun _ _ _ _ _ _ us hl => match us, hl with | [_, _], _ => rfl⟩
  refine F.okX sc_s_nodes_under (fun vs H Q E h => ?_) (fun cdv A outer s H vs Q E hr h => ?_)
  · obtain ⟨a, v, ns, par, lab, ch, rfl, _⟩ := h
    rfl
  · obtain ⟨a, v, ns, par, lab, ch, rfl, hp, hc, D, Kd, ht, q1, q2⟩ := h
    obtain ⟨fs, p, ad, ho, hl, hpl, hk⟩ := hp.ex
    obtain ⟨dx, hx⟩ := ho.at_
    refine ⟨_, (pss_cons (ps_expr (pe_mlX c_require_node hr (by decide) (passes_call (takes_of rfl rfl rfl rfl) fun _ _ _ _ h => h) (pv 0) (pa_cons (pv 1) pa_nil)))
    (pss_cons (ps_par (i := 2) (j := 3) (by rfl) sc_s_nodes_under.nd rfl rfl (by decide) rfl rfl (pa_cons (pe_lst pa_nil) (pa_cons (pe_lst (pa_cons (pv 1) pa_nil)) pa_nil)) (by rfl))
    (pss_cons (ps_while (passes_of rfl) (pt_cmpR (op_neD hr.units) (pv 3) (pe_lst pa_nil) (nomark _)) (pss_cons (ps_set (i := 4) sc_s_nodes_under.nd rfl (Or.inl rfl) (pe_bm0 PySem.F.plainAttrs_list PySem.F.slot_list_pop PySem.F.type_list_pop mt_pop (pv 3)))
    (pss_cons (ps_expr (pe_bm PySem.F.plainAttrs_list PySem.F.slot_list_append PySem.F.type_list_append mt_append (pv 2) (pa_cons (pv 4) pa_nil)))
    (pss_one (ps_expr (pe_bm PySem.F.plainAttrs_list PySem.F.slot_list_extend PySem.F.type_list_extend mt_extend (pv 3) (pa_cons (pe_revL (pe_dget (hu_of hr) (pe_fld (pv 0) rfl) (pv 4) (fun _ _ => rfl))) pa_nil)))))))
    (pss_one (ps_ret (pv 2)))))), ?_⟩
    refine ⟨_, rfl, a, dx, fs, rfl, hx, ho.no _ (by decide), _, rfl, a, v, ns, par, lab, rfl, hp, ht, fun kv H1 s1 => ?_, q2⟩
    obtain ⟨n, rfl, hn⟩ := knownB_of kv
    obtain ⟨fs', qc, ca, ho', hlc, hq, hch⟩ := (hc.same s1).ex
    have hx1 := s1 _ _ hx
    obtain rfl : fs = fs' := (ho.same s1).uniq ho'
    refine ⟨by show 0 ≤ sizeLine; decide, fun f hf => ⟨_, rfl, by show 1 ≤ sizeLine; decide, fun g hg => ⟨_, _, rfl, ?_⟩⟩⟩
    have hle : (pre ch n).length ≤ 41 := by
      have h1 : (pre ch n).length ≤ (pre ch Rt).length := by rw [← pre_under D.T Kd hn]; exact List.length_filter_le _ _
      rw [pre_len D.T Kd] at h1
      have := D.few
      omega
    have ok1 : ∀ x, x = Rt ∨ x ∈ ns → PyData.strOk x = true := fun x h => h.elim (fun e => e ▸ rt_ok) fun h => nameB_ok (D.nm x h)
    refine ⟨fun m σ H2 => ∃ (F0 W0 : List Str) (hv : Option V), σ = [some (.ref a), some (.str n), some (.ref f), some (.ref g), hv] ∧ Two H1 f g H2 F0 W0 ∧ (∀ x, x ∈ W0 → x = Rt ∨ x ∈ ns) ∧ F0 ++ W0.reverse.flatMap (pre ch) = pre ch n ∧ m = (W0.flatMap (pre ch)).length,
      ⟨_, [], [n], none, rfl, Two.start (F0 := []) (W0 := [n]) hf hg, fun x hx => ?_, ?_, rfl⟩, ?_⟩
    · rcases List.mem_cons.mp hx with rfl | hx
      · exact hn
      · cases hx
    · show [] ++ ([n].flatMap (pre ch)) = _
      rw [List.nil_append, List.flatMap_cons, List.flatMap_nil, List.append_nil]
    · rintro m σ H2 ⟨F0, W0, hv, rfl, tw, hW, hall, rfl⟩
      have hlW : W0.length ≤ 41 := by
        have h1 : (F0 ++ W0.reverse.flatMap (pre ch)).length = (pre ch n).length := by rw [hall]
        have h2 := (sublist_flatMap (f := pre ch) (fun x => preK_head 41 x) W0.reverse).length_le
        rw [List.length_append] at h1
        rw [List.length_reverse] at h2
        omega
      have hlF : F0.length ≤ 41 := by
        have h1 : (F0 ++ W0.reverse.flatMap (pre ch)).length = (pre ch n).length := by rw [hall]
        rw [List.length_append] at h1
        omega
      refine ⟨_, rfl, by show 0 ≤ sizeLine; decide, fun q hq1 => ?_⟩
      have tw1 := tw.new (o := .lst []) hq1
      refine ⟨_, .list [], dp_strs (SqL.of tw1.g), .lst (SqL.of upd_same) .nil, shaped_strs _ fun x hx => ok1 x (hW x hx), by decide +kernel, _, rfl, ?_⟩
      have e0 : PyData.eqv (.list (W0.map .str)) (.list []) = decide (W0 = []) := by
        have := eqv_strs W0 []
        rw [PyData.eqv]
        exact this
      rw [e0]
      refine iteND (fun h1 => ?_) (fun h1 => ?_)
      · obtain ⟨W1, here, rfl⟩ : ∃ W1 here, W0 = W1 ++ [here] := by
          rcases List.eq_nil_or_concat W0 with e | ⟨l, b, e⟩
          · exact absurd e h1
          · exact ⟨l, b, by rw [e, List.concat_eq_append]⟩
        have hhere := hW here (by simp)
        have hW1 : ∀ x, x ∈ W1 → x = Rt ∨ x ∈ ns := fun x hx => hW x (List.mem_append_left _ hx)
        have etake := pile_turn D.T Kd (found := F0) (waiting := W1) (here := here)
        have eless := pile_less D.T Kd (waiting := W1) (here := here)
        rw [hall] at etake
        refine ⟨_, fun σ' H' h => h, ?_⟩
        have tw2 := tw1.setg W1
        have tw3 := tw2.setf (F0 ++ [here])
        refine ⟨_, rfl, .inl ⟨rfl, _, SqL.of tw1.g⟩, g, _, .str here, rfl, rfl, tw1.g, by rw [List.map_append]; simp, ?_⟩
        rw [show ((W1 ++ [here]).map V.str).dropLast = W1.map V.str by rw [List.map_append]; simp]
        refine ⟨_, rfl, .inl ⟨rfl, _, SqL.of tw2.f⟩, _, rfl, f, _, _, rfl, rfl, tw2.f, by rw [List.length_map, sz]; omega, ?_⟩
        rw [show F0.map V.str ++ [V.str here] = (F0 ++ [here]).map V.str by rw [List.map_append]; rfl]
        have hh1 : here ∈ Rt :: ns := hhere.elim (fun e => e ▸ List.mem_cons_self) fun e => List.mem_cons_of_mem _ e
        have hqc := tw3.s _ _ hq
        have hcc := tw3.s _ _ (hch here hh1)
        have hdg := dget_rd (Sum.inr here : Key) (.inl hqc)
        rw [val_ns, if_pos hh1] at hdg
        refine ⟨_, rfl, .inl ⟨rfl, _, SqL.of tw3.g⟩, _, rfl, a, C, dx, fs, _, rfl, tw3.s _ _ hx1, T.cl, T.n_children, hlc, _, rfl, qc, _, rfl, hdg, ca here, _, rfl, SqL.of hcc, fun r hr1 => ?_⟩
        have tw4 := tw3.new (o := .lst ((ch here).map V.str).reverse) hr1
        have tw5 := tw4.setg (W1 ++ (ch here).reverse)
        have hlc2 : W1.length + (ch here).length ≤ 41 := by
          have h1 : ((F0 ++ [here]) ++ (W1 ++ (ch here).reverse).reverse.flatMap (pre ch)).length = (pre ch n).length := by rw [← etake]
          have h2 := (sublist_flatMap (f := pre ch) (fun x => preK_head 41 x) (W1 ++ (ch here).reverse).reverse).length_le
          rw [List.length_append] at h1
          rw [List.length_reverse, List.length_append, List.length_reverse] at h2
          omega
        refine ⟨g, r, _, _, rfl, rfl, tw4.g, upd_same, by rw [List.length_map, List.length_reverse, List.length_map, sz]; omega, ?_⟩
        rw [show W1.map V.str ++ ((ch here).map V.str).reverse = (W1 ++ (ch here).reverse).map V.str by rw [List.map_append, List.map_reverse]]
        refine ⟨_, ?_, F0 ++ [here], W1 ++ (ch here).reverse, _, rfl, tw5, ?_, etake.symm, rfl⟩
        · omega
        · intro x hx
          rcases List.mem_append.mp hx with h | h
          · exact hW1 x h
          · exact .inr ((Kd.mem here x).mp (List.mem_reverse.mp h)).1
      · subst h1
        have e1 : F0 = pre ch n := by rw [← hall]; simp
        refine ⟨_, rfl, q1 n rfl hn f _ (s1.free hf) (s1.trans tw1.s) ?_⟩
        rw [tw1.f, e1]
end
end MG
/-! text R1 -/
set_option Elab.async false
set_option linter.all false
set_option maxRecDepth 100000
set_option maxHeartbeats 4200000
/-! rules for sorted data, dicts whose keys are tuples, *d -/
namespace MG
open PySem PySem.Spec PyProof.Rows L2
/-! ### sorted -/
section
variable {X : Cx}
theorem each_vals {β : Type} {fv : β → V} : ∀ {us : List Value} {bs : List β}, Vals (bs.map fv) us → PySem.W.EachIs (fun u b => RelV (fv b) u) us bs
  | _, [], r => by cases r; exact .nil
  | _, b :: bs, r => by cases r with | cons h t => exact .cons h (each_vals t)
theorem vals_each {β : Type} {fv : β → V} : ∀ {us : List Value} {bs : List β}, PySem.W.EachIs (fun u b => RelV (fv b) u) us bs → Vals (bs.map fv) us
  | _, _, .nil => .nil
  | _, _, .cons h t => .cons h (vals_each t)
theorem each_reads {pins : List (Addr × Obj)} {σ : L2.St} {H : Hp} {s : Shared} (I : Inv X pins σ H s) {β : Type} {fv : β → V} {enc : β → PyData} : ∀ {us : List Value} {bs : List β}, (∀ b, b ∈ bs → Dp X.K H (fv b) (enc b)) → Vals (bs.map fv) us →
    PySem.W.EachIs (fun u b => ∃ as, Reads s.heap u (enc b) as) us bs
  | _, [], _, r => by cases r; exact .nil
  | _, b :: bs, h, r => by cases r with | cons h1 t => exact .cons (Dp.reads I _ _ _ (h b List.mem_cons_self) h1) (each_reads I (fun c hc => h c (List.mem_cons_of_mem _ hc)) t)
def rSortedX (K : PySem.W.Frag) : List V → Hp → VK → Prop := fun xs H Q => ∃ (β : Type) (a : Addr) (bs : List β) (fv : β → V) (enc : β → PyData), xs = [.ref a] ∧ SqL K H a (bs.map fv) ∧ (∀ b, b ∈ bs → Dp K H (fv b) (enc b)) ∧ PySem.W.AllAlike (bs.map enc) ∧ PySem.W.Sortable (bs.map enc) ∧
  bs.length ≤ sizeLine ∧ (∀ b, b ∈ bs → (enc b).depth ≤ 60) ∧ ∀ q, H q = none → Q (.ref q) (upd H q (.lst ((bs.mergeSort (PySem.W.dataLe false enc)).map fv)))
theorem cr_sortedX (hu : X.A.units + 64 < cLine) : CallR X (.builtin "sorted") (rSortedX X.K) := by
  rintro pins s σ H vs us Q I r ⟨β, a, bs, fv, enc, rfl, hs, hd, hal, hk, hl, hdep, q⟩
  obtain ⟨its, rv, hl', _⟩ := I.list hs
  rw [Vals.ref1 r]
  refine PySem.W.sorted_data hl'.isList (each_vals rv) (each_reads I hd rv) hal hk hl (fun b hb => by have := hdep b hb; omega) fun out h1 h2 => ?_
  obtain ⟨ep, he'⟩ := PyProof.Rows.sortedAll_at s.heap its (List.toArray out)
  have hlen : ((bs.mergeSort (PySem.W.dataLe false enc)).map fv).length ≤ sizeLine := by rw [List.length_map, List.length_mergeSort]; exact hl
  exact ⟨.ref _, upd H (s.heap.objs.size + 1) (.lst ((bs.mergeSort (PySem.W.dataLe false enc)).map fv)), I.laid (t' := s.toks) (fun _ _ => PyProof.Rows.sortedAll_old) (Nat.le_succ _) ⟨hlen, out, ep, vals_each h2, he'⟩, rfl, q _ (I.hok.fresh (Nat.le_succ _))⟩
end
/-! ### *d in a display -/
def tStarD (te : TE) (t : TA) : TA := fun σ H Q => te σ H fun x H1 => ∃ p kvs, x = V.ref p ∧ H1 p = some (.dK kvs) ∧ t σ H1 fun ys H2 => Q ((kvs.map fun kv => kV kv.1) ++ ys) H2
section
open PySem.W
variable {P : Program} {w : World} {A : Around} {E : Value → Shared → Prop} {s : Shared} {T : String} {r d : Addr} {n : Nat} {Is : Nat → Value → Prop} {Ok : Heap → Prop}
/-- the new list stands behind the state s: what was stays, its items are those of the source -/
def Gathered (s : Shared) (Is : Nat → Value → Prop) (n : Nat) (res : Result) (s' : Shared) : Prop := ∃ (h : Heap) (tk : Nat) (its : Array Value) (ep : Nat), res = .ok (.ret (.ref s.heap.objs.size)) ∧ s' = { s with heap := h, toks := tk } ∧ (∀ b o, s.heap.get? b = some o → h.get? b = some o) ∧
  h.get? s.heap.objs.size = some { cls := .type "list", dict := none, data := .seq its ep, slots := #[] } ∧ ItemsOf Is its n
theorem gather {Q : List Value → Shared → Prop} (src : KdlSrc P w T r d n Is Ok) (calm : A.handled = none) (ok : Ok s.heap) (few : n ≤ sizeLine)
    (q : ∀ h tk its, (∀ b o, s.heap.get? b = some o → h.get? b = some o) → ItemsOf Is its n → Q its.toList { s with heap := h, toks := tk }) : wpAny (model P w) A (collect (.ref r)) Q E s := by
  have old := src.there _ ok
  let s1 : Shared := { s with heap := s.heap.push { cls := .type "list", data := .seq ([] : List Value).toArray } }
  have up : ∀ b o, s.heap.get? b = some o → s1.heap.get? b = some o := fun _ _ e => Heap.get?_push_of_some _ e
  have fill := kdl_extend (A := A) (R := Gathered s Is n) (s := s1) src calm (src.keep _ _ ok fun b _ => up b) s.heap.objs.size (Nat.ne_of_gt old.1) (Nat.ne_of_gt old.2) (.ref s.heap.objs.size) 0 (Heap.get?_push_size _ rfl)
    (fun h tk its ep k at_ z => ⟨h, tk, its, ep, rfl, rfl, fun b o e => k b o (Nat.ne_of_lt (Heap.lt_size e)) (up b o e), at_, z⟩) few
  unfold collect
  refine wpAny_bind (wpAny_runValue (codeAny_mono (R := Gathered s Is n) (codeAny_builtin F.entry_proto_collect ?_) ?_))
  · rw [Around.under_plainId F.plain_proto_collect _]
    refine wpAny_bind (m := newList []) (wpAny_newObj_type (wpAny_pure ⟨plainId_quiet F.plain_list_iadd _, codeAny_builtin F.entry_list_iadd ?_⟩))
    rw [Around.under_plainId F.plain_list_iadd _]
    exact fill
  · rintro _ _ ⟨h, tk, its, ep, rfl, rfl, k, at_, z⟩
    exact wpAny_bind (m := load s.heap.objs.size) (wpAny_load at_ (wpAny_pure (q h tk its k z)))
end
/-- the keys of a tracked dict, as they are gathered -/
theorem keys_vals {κ : Type} {fv : κ → V} {Is : κ → Value → Prop} (rel : ∀ k u, Is k u → RelV (fv k) u) : ∀ (ks : List κ) (us : List Value), us.length = ks.length → (∀ (j : Nat) (u : Value), us[j]? = some u → ∃ k, ks[j]? = some k ∧ Is k u) → Vals (ks.map fv) us
  | [], [], _, _ => .nil
  | [], _ :: _, e, _ => nomatch e
  | _ :: _, [], e, _ => nomatch e
  | k :: ks, u :: us, e, h => by
    obtain ⟨k', e1, z⟩ := h 0 u rfl
    cases e1
    exact .cons (rel _ _ z) (keys_vals rel ks us (Nat.succ.inj e) fun j v q => h (j + 1) v q)
theorem pa_starD {X : Cx} {e : Expr} {es : List Expr} {te : TE} {t : TA} {p : Pos} (calm : X.calm = true) (he : PE X e te) (hr : PA X es t) (row : starEach (.Starred e p :: es) X.env = (true, eval e X.env) :: starEach es X.env := by rfl) : PA X (.Starred e p :: es) (tStarD te t) := by
  constructor
  intro pos pins s σ H Q I h
  refine PySem.W.items_star (thn (he.run pins s σ H _ I h) fun v s1 z => ?_) row
  obtain ⟨x, H1, I1, rx, a, kvs, rfl, at_, q⟩ := z
  cases rx
  obtain ⟨few, notSys, ps, kv, dic⟩ := dk_of I1.hok at_
  obtain ⟨ep, hat⟩ := dic.dictAt
  have many : kvs.length = ps.length := Paired.length kv
  have src := PySem.W.kdl_dict (knd := mixKind X.prog X.w) (kvs := ps) (ep := ep) notSys
  have all := gather (s := s1) (A := X.A) (E := X.xe) (Q := fun us s2 => wpAny (model X.prog X.w) X.A (spliced (backTo pos (starEach es X.env))) (fun vs s3 => ∃ (ws : List V) (H' : Hp), L2.Inv X pins σ H' s3 ∧ Vals ws (us ++ vs) ∧ Q ws H') X.xe s2) src (I1.ok.hd calm) hat (Nat.le_trans (Nat.le_of_eq many.symm) few) fun h tk its keep items => by
    have ks : Vals ((kvs.map (·.1)).map kV) its.toList := keys_vals (fun _ _ z => keyIs_rel z) _ _ (by rw [Array.length_toList, items.1, List.length_map, many]) fun j u eu => by
      obtain ⟨k, y, eky, is⟩ := items.2 j u (by rw [← Array.getElem?_toList]; exact eu)
      refine ⟨k, ?_, is⟩
      rw [KV.keys kv, List.getElem?_map, eky]
      rfl
    rw [List.map_map] at ks
    exact thn (hr.run pos pins _ σ H1 _ (I1.kept (t' := tk) keep) q) fun ws s3 ⟨xs, H3, I3, r3, q3⟩ => ⟨_, H3, I3, ks.append r3, q3⟩
  unfold PySem.W.StarOf
  unfold notIterableAtAll
  exact wpAny_bind (wpAny_specialOf dic.typeIs PySem.F.slot_dict_iter.lookup (wpAny_pure ⟨rfl, all⟩))
/-! ### dict comprehensions with tuples as keys -/
/-- d[a] = v, a tuple that is a key -/
theorem put_heap {P : Program} {w : World} {κ : Type} [DecidableEq κ] {kd : HeapKind P w κ} {A : Around} {E : Value → Shared → Prop} {s : Shared} {d a : Addr} {xs : List (κ × Addr × Value)} {k : κ} {v : Value} {Q : Unit → Shared → Prop} (room : kd.room A) (is : kd.is s.heap k a) (dic : s.heap.DictOfH kd d xs)
    (q : ∀ h tk, h.DictOfH kd d (storedH xs k a v) → Heap.SameBut d s.heap h → Q () { s with heap := h, toks := tk }) (few : xs.length ≤ sizeLine) : wpAny (model P w) A (dictSet d (.ref a) v) Q E s := by
  unfold dictSet
  exact wpAny_holding (wpAny_bind (kd.pyHash room is (wpAny_dictSetHashed_heap (s := { s with toks := s.toks + kd.draws k }) room is dic (fun h dic' sb => q h _ dic' sb) few)))
theorem d_dictSetT {X : Cx} {A : Around} {pins : List (Addr × Obj)} {σ : L2.St} {H : Hp} {s : Shared} {E : Value → Shared → Prop} {D b : Addr} {kvs : List (List Key × V)} {k : List Key} {v : V} {u r : Value} {Q : Unit → Shared → Prop} (hu : A.units + 1 < cLine) (I : Inv X pins σ H s) (hD : H D = some (.dT kvs)) (eb : H b = some (.tup (k.map kV))) (hz : kvs.length < sizeLine)
    (ry : RelV (.ref b) u) (rv : RelV v r) (h : ∀ s', Inv X pins σ (upd H D (.dT (putK kvs k v))) s' → Q () s') : wpAny (model X.prog X.w) A (dictSet D u r) Q E s := by
  cases ry
  obtain ⟨few, notSys, xs, rel, dic⟩ := dt_of I.hok hD
  have more : (putK kvs k v).length ≤ sizeLine := Nat.le_trans (length_putK kvs k v) hz
  refine put_heap (show A.units < cLine by omega) (key_of I.hok eb) dic (fun g tk dic' sb => h _ ?_) (by rw [← Paired.length rel]; exact few)
  have kt := (rel.put k eb rv).keeps (H' := upd H D (.dT (putK kvs k v))) fun c ys ec => by rw [upd_ne (ne_of ec hD fun z => by cases z)]; exact ec
  obtain ⟨o, es, ep, at_, rest1, rest2, rest3, _, rest5⟩ := dic'
  exact d_write I (by rw [hD]; trivial) sb ⟨o, at_⟩ ⟨more, notSys, _, kt, o, es, ep, at_, rest1, rest2, rest3, rest5⟩
section
variable {X : Cx}
/-- a thing that holds in every block of the comprehension -/
abbrev InBlk (X : Cx) (scope : Scope) (F : Cx → Prop) : Prop := ∀ (s : Shared) (H : Hp) (C : Addr) (cl : List (Str × Addr)) (fp : List Addr), F (X.blk s H scope (compEnvC scope cl C X.env) fp)
/-- what a turn makes of x: the test, then key and value, then the store into the dict at D -/
abbrev turnT (g : TG) (tt : TT) (tk tv : TE) (vs : List Nat) (σ : L2.St) (D : Addr) (Nx : Hp → Prop) (x : V) (H : Hp) : Prop := g x (wipe σ vs) H fun σ2 H2 => wipe σ2 vs = wipe σ vs ∧ tt σ2 H2 fun b H3 =>
  if b = true then tk σ2 H3 fun y H4 => tv σ2 H4 fun z H5 => ∃ kvs k b, y = .ref b ∧ H5 b = some (.tup (k.map kV)) ∧ H5 D = some (.dT kvs) ∧ kvs.length < sizeLine ∧ Nx (upd H5 D (.dT (putK kvs k z))) else Nx H3
/-- the invariant W of the walk: at its end End, else a turn that keeps it -/
abbrev walkT (J : It) (W : Nat → Nat → Hp → Prop) (End : Hp → Prop) (turn : (Hp → Prop) → V → Hp → Prop) : Prop := ∀ i m H, W i m H → (J.stop i H ∧ End H) ∨ (J.go i H ∧ ∃ Nx : Hp → Prop, (∀ H', Nx H' → ∃ m', m' < m ∧ W (i + 1) m' H') ∧ ∀ x H', J.yld i H x H' → turn Nx x H')
def tDcT (wi : TI) (g : TG) (tt : TT) (tk tv : TE) (vs : List Nat) : TE := fun σ H Q => wi σ H fun J H1 => ∀ D, H1 D = none → ∃ W : Nat → Nat → Hp → Prop, (∃ m, W 0 m (upd H1 D (.dT []))) ∧ walkT J W (fun H => Q (.ref D) H) (turnT g tt tk tv vs σ D)
/-- where the loop stands in the block Z -/
def Mid (Z : Cx) (τ : L2.St) (fp : List Addr) (wd : Nat → Heap → Prop) (W : Nat → Nat → Hp → Prop) (m : Nat) (s : Shared) : Prop := ∃ i H, Inv Z [] τ H s ∧ wd i s.heap ∧ (∀ b ∈ fp, H b = none) ∧ W i m H
theorem blk_fp {s0 s : Shared} {H0 H : Hp} {scope : Scope} {ce : Env} {fp : List Addr} {τ : L2.St} (I : Inv (X.blk s0 H0 scope ce fp) [] τ H s) (n : ∀ b ∈ fp, H b = none) : ∀ b ∈ fp, FpOk (X.blk s0 H0 scope ce fp) [] H b := fun b hb => by
  have e := I.ok.exf b hb
  exact ⟨n b hb, e.1, I.ok.exfs b hb, Or.inl hb, e.2, fun p hp => nomatch (show p ∈ ([] : List (Addr × Obj)) from hp)⟩
theorem loopT {s0 s : Shared} {H0 : Hp} {scope : Scope} {ce : Env} {fp : List Addr} {it D : Addr} {wd : Nat → Heap → Prop} {J : It} {W : Nat → Nat → Hp → Prop} {End : Hp → Prop} {R : Result → Shared → Prop} {kx vx tg iter : Expr} {ifs : List Expr} {pos : Pos} {g : TG} {tt : TT} {tk tv : TE} {vs : List Nat} {σ : L2.St} {m : Nat}
    (hu : X.A.units + 1 < cLine) (calm : X.calm = true) (src : Turn X.prog X.w X.K tg J fp it wd) (pg : PG (X.blk s0 H0 scope ce fp) tg g) (pt : PTs (X.blk s0 H0 scope ce fp) ifs tt) (pk : PE (X.blk s0 H0 scope ce fp) kx tk) (pv : PE (X.blk s0 H0 scope ce fp) vx tv)
    (turns : walkT J W End (turnT g tt tk tv vs σ D)) (stop : ∀ H s', Inv (X.blk s0 H0 scope ce fp) [] (wipe σ vs) H s' → End H → R (.ok .next) s') (here : Mid (X.blk s0 H0 scope ce fp) (wipe σ vs) fp wd W m s) :
    codeAny (model X.prog X.w) X.A (.compLoop (.DictComp kx vx [⟨tg, iter, ifs, 0⟩] scope pos) 0 (.ref it) (.ref D) ce) R s := by
  refine compLoop_anyD (Mid (X.blk s0 H0 scope ce fp) (wipe σ vs) fp wd W) (fun n s1 at1 => ?_) m here
  obtain ⟨i, H1, I1, w1, n1, inv⟩ := at1
  rcases turns i n H1 inv with ⟨ends, z⟩ | ⟨goes, Nx, less, turn⟩
  · refine thnF (src.done (X.blk s0 H0 scope ce fp) rfl rfl rfl calm i [] s1 _ H1 (fun _ _ => False) I1 (blk_fp I1 n1) w1 ends) fun r s2 z2 => ?_
    obtain ⟨rfl, I2⟩ := z2
    exact stop H1 s2 I2 z
  refine thnF (src.item (X.blk s0 H0 scope ce fp) rfl rfl rfl calm i [] s1 _ H1 (fun _ _ => False) I1 (blk_fp I1 n1) w1 goes) fun r s2 z2 => ?_
  obtain ⟨u, rfl, z2⟩ := z2
  refine thnF z2 fun _ s3 z3 => ?_
  obtain ⟨x, H3, I3, r3, y3, w3, n3⟩ := z3
  -- a turn's end, from a state in which the iterator's own objects were pinned
  have next : ∀ {σ' : L2.St} {G : Hp} {t : Shared}, wipe σ' vs = wipe σ vs → Inv (X.blk s0 H0 scope ce fp) ([] ++ pinsAt fp s3.heap) σ' G t → Nx G → ∃ m', m' < n ∧ Mid (X.blk s0 H0 scope ce fp) (wipe σ vs) fp wd W m' t := fun {σ' G t} hw J' nx => by
    obtain ⟨m', lt, w'⟩ := less G nx
    have held : ∀ b ∈ fp, ∀ o, s3.heap.get? b = some o → t.heap.get? b = some o ∧ G b = none := fun b hb o e => (J'.pin (b, o) (List.mem_append_right _ (List.mem_append_right _ (mem_pinsAt hb e)))).imp_right And.left
    have weak := J'.unpinned (pins := []) |>.weak (σ' := wipe σ vs) (by rw [← hw, wipe_length]) fun j v e => by rw [← hw] at e; exact (wipe_some e).1
    exact ⟨m', lt, i + 1, G, weak, src.keep _ _ _ w3 fun b hb o e => (held b hb o e).1, fun b hb => (src.obj _ _ w3 b hb).elim fun o e => (held b hb o e.1).2, w'⟩
  refine thnF (pg.run _ s3 _ H3 x u _ (I3.pinned (blk_fp I3 n3) (src.obj _ _ w3)) r3 (turn x H3 y3)) fun _ s4 z4 => ?_
  obtain ⟨σ4, H4, I4, hw, z4⟩ := z4
  refine thnF (pt.run _ s4 σ4 H4 _ I4 z4) fun b s5 z5 => ?_
  obtain ⟨H5, I5, z5⟩ := z5
  cases b
  · exact (by simpa using next hw I5 (by simpa using z5))
  rw [if_pos rfl] at z5 ⊢
  refine thnF (pk.run _ s5 σ4 H5 _ I5 z5) fun kw s6 z6 => ?_
  obtain ⟨ky, H6, I6, r6, z6⟩ := z6
  refine thnF (pv.run _ s6 σ4 H6 _ I6 z6) fun vw s7 z7 => ?_
  obtain ⟨vy, H7, I7, r7, kvs, k, b, rfl, hb, hD, few, nx⟩ := z7
  exact d_dictSetT (X := X.blk s0 H0 scope ce fp) hu I7 hD hb few r6 r7 fun s8 I8 => next hw I8 nx
theorem dcT_core {pins : List (Addr × Obj)} {s : Shared} {σ : L2.St} {H : Hp} {Q : VK} {kx vx tg iter : Expr} {ifs : List Expr} {scope : Scope} {own : List (Str × Nat)} {pos pos' : Pos} {wi : TI} {g : TG} {tt : TT} {tk tv : TE} {use : Option (Value → Sem Unit)} {Qf : Value → Shared → Prop}
    (hu : X.A.units + 1 < cLine) (calm : X.calm = true) (nd : X.N.Nodup) (I : Inv X pins σ H s) (hi : PI X tg iter wi) (ok : BlkOk X.N X.env.scope scope own) (hg : InBlk X scope (PG · tg g)) (ht : InBlk X scope (PTs · ifs tt)) (hk : InBlk X scope (PE · kx tk)) (hv : InBlk X scope (PE · vx tv))
    (plain : ∀ x, foldedSetIterable iter X.env x = pure x) (h : tDcT wi g tt tk tv (own.map (·.2)) σ H Q)
    (back : ∀ D C s' m G, Inv X pins σ G s' → Q (.ref D) G → s'.heap.Ns C m → FpOk X pins G C → compPost (model X.prog X.w) X.A X.xe use Qf (.ref D) C (.ok .next) s') :
    wpAny (model X.prog X.w) X.A (comprehension (.DictComp kx vx [⟨tg, iter, ifs, 0⟩] scope pos) scope X.env pos' newDict false (eval iter X.env) use) Qf X.xe s := by
  refine wpAny_comprehension_free (use := use) rfl plain (closure_ok fun y hy e => I.ok.has _ (ok.free y hy e)) ok.kind (fun y hy e => by rw [ok.uniq y hy, e]) (thn (hi.run pins s σ H _ I h) fun _ _ z => thn z fun _ s2 z2 => ?_)
  obtain ⟨it, fp, wd, J, H2, rfl, I2, src, w2, out, z2⟩ := z2
  obtain ⟨W, ⟨m0, w0⟩, turns⟩ := z2 s2.heap.objs.size (I2.hok.fresh (Nat.le_refl _))
  refine wpAny_newObj_type (newEnv_comp ?_)
  -- the state with the dict, then with the block's frame
  have start : ∀ (s3 : Shared) (G : Hp), s3 = { s2 with heap := s2.heap.push { cls := .type "dict", data := .dict #[] } } → G = upd H2 s2.heap.objs.size (.dT []) →
      codeAny (model X.prog X.w) X.A (.compStart (.DictComp kx vx [⟨tg, iter, ifs, 0⟩] scope pos) 0 (.ref it) (.ref s2.heap.objs.size) (compEnvC scope (cellsFrom (s3.heap.objs.size + 1) scope.names (cloFrom X.env.cells scope.names [])) s3.heap.objs.size X.env)) (compPost (model X.prog X.w) X.A X.xe use Qf (.ref s2.heap.objs.size) s3.heap.objs.size) { s3 with heap := pushCells (s3.heap.push { cls := .type "dict", data := .dict #[] }) scope.names } := fun s3 G e3 eG => by
    have up : ∀ b o, s2.heap.get? b = some o → s3.heap.get? b = some o := fun b o e => by rw [e3]; exact Heap.get?_push_of_some _ e
    have I3 : Inv X pins σ G s3 := by
      rw [e3, eG]
      exact I2.laid (t' := s2.toks) (fun _ _ e => Heap.get?_push_of_some _ e) (Nat.le_refl _) (dt_empty s2.heap I2.big)
    have out3 : ∀ b ∈ fp, FpOk X pins G b ∧ b < s3.heap.objs.size := fun b hb => by
      obtain ⟨o, at_, _⟩ := src.obj _ _ w2 b hb
      have lt := Heap.lt_size at_
      refine ⟨⟨?_, (out b hb).2⟩, Heap.lt_size (up b o at_)⟩
      rw [eG, upd_ne (Nat.ne_of_lt lt)]
      exact (out b hb).1
    have w3 : wd 0 s3.heap := src.keep _ _ _ w2 fun b _ => up b
    have I4 := block_start I3 ok nd out3
    have pg := hg s3 G s3.heap.objs.size (cellsFrom (s3.heap.objs.size + 1) scope.names (cloFrom X.env.cells scope.names [])) fp
    have pt := ht s3 G s3.heap.objs.size (cellsFrom (s3.heap.objs.size + 1) scope.names (cloFrom X.env.cells scope.names [])) fp
    have pk := hk s3 G s3.heap.objs.size (cellsFrom (s3.heap.objs.size + 1) scope.names (cloFrom X.env.cells scope.names [])) fp
    have pv := hv s3 G s3.heap.objs.size (cellsFrom (s3.heap.objs.size + 1) scope.names (cloFrom X.env.cells scope.names [])) fp
    have eL : (compEnvC scope (cellsFrom (s3.heap.objs.size + 1) scope.names (cloFrom X.env.cells scope.names [])) s3.heap.objs.size X.env).locals = s3.heap.objs.size := rfl
    have w4 : wd 0 (pushCells (s3.heap.push { cls := .type "dict", data := .dict #[] }) scope.names) := src.keep _ _ _ w3 fun b _ o e => pushCells_keeps _ _ _ _ (Heap.get?_push_of_some _ e)
    generalize compEnvC scope (cellsFrom (s3.heap.objs.size + 1) scope.names (cloFrom X.env.cells scope.names [])) s3.heap.objs.size X.env = ce at I4 pg pt pk pv eL ⊢
    rw [← eG] at w0
    have loop := loopT (s := { s3 with heap := pushCells (s3.heap.push { cls := .type "dict", data := .dict #[] }) scope.names }) (R := compPost (model X.prog X.w) X.A X.xe use Qf (.ref s2.heap.objs.size) s3.heap.objs.size) (iter := iter) (pos := pos) hu calm src pg pt pk pv turns (fun K s6 I6 q => ?_) ⟨0, G, I4, w4, fun b hb => (out3 b hb).1.1, w0⟩
    · exact codeAny_compStart_dict loop (src.self X.A 0 _ _ _ w4 loop)
    · have mine : Inv X pins σ K s6 := I3.call' (ch := fp) I6.os I6.base I6.hok I6.bare fun b hb => by
        obtain ⟨_, f1, f2, f3, f4, f5⟩ := (out3 b hb).1
        exact ⟨f3, f1, f4, f5⟩
      have free := I6.free
      obtain ⟨mm, ns, _⟩ := I6.loc
      have ns : s6.heap.Ns ce.locals mm := ns
      have free : K ce.locals = none := free
      rw [eL] at ns free
      exact back _ _ s6 mm K mine q ns (I3.fpOk (Nat.le_refl _) free)
  exact start _ _ rfl rfl
/-- as a value -/
theorem pe_dcT {kx vx tg iter : Expr} {ifs : List Expr} {scope : Scope} {own : List (Str × Nat)} {pos : Pos} {wi : TI} {g : TG} {tt : TT} {tk tv : TE} (hu : X.A.units + 1 < cLine) (calm : X.calm = true) (nd : X.N.Nodup) (hi : PI X tg iter wi) (ok : BlkOk X.N X.env.scope scope own) (hg : InBlk X scope (PG · tg g))
    (ht : InBlk X scope (PTs · ifs tt)) (hk : InBlk X scope (PE · kx tk)) (hv : InBlk X scope (PE · vx tv)) (plain : ∀ x, foldedSetIterable iter X.env x = pure x := by intro _; rfl) : PE X (.DictComp kx vx [⟨tg, iter, ifs, 0⟩] scope pos) (tDcT wi g tt tk tv (own.map (·.2))) := by
  constructor
  intro pins s σ H Q I h
  rw [arm_eval_DictComp]
  exact dcT_core hu calm nd I hi ok hg ht hk hv plain h fun D C s' m G J q hn ⟨o0, o1, o2, o3, o4, o5⟩ => ⟨m, hn, fun h2 sb => ⟨.ref D, G, J.turned (t' := s'.toks) (fun b o hb e => (sb.2 b hb).trans e) o0 o1 o3 o4 o5, rfl, q⟩⟩
end
end MG
/-! text R2 -/
set_option Elab.async false
set_option linter.all false
set_option maxRecDepth 100000
set_option maxHeartbeats 4200000
/-! comprehensions whose values are new objects -/
namespace MG
open PySem PySem.Spec PyProof.Rows L2
theorem pg_tupK {X : Cx} {K : PySem.W.Frag} {es : List Expr} {k : Nat} {t : TGs} {n : Nat} {pos : Pos} (hK : X.K = K) (hc : X.calm = true) (h : PGs X es t)
    (hn : (assignEach es X.env).length = n := by rfl) (hst : (assignEach es X.env).findIdx? (·.1) = none := by rfl) : PG X (.Tuple es k pos) (gTup K n t) := by subst hK; exact pg_tup hc h hn hst
theorem lt_of_at {α : Type} {l : List α} {i : Nat} {x : α} (h : l[i]? = some x) : i < l.length := (List.getElem?_eq_some_iff.mp h).1
theorem at_snoc {α : Type} {l : List α} {i : Nat} {x y : α} (h : (l ++ [y])[i]? = some x) : l[i]? = some x ∨ (i = l.length ∧ x = y) := by
  by_cases hi : i < l.length
  · rw [List.getElem?_append_left hi] at h
    exact .inl h
  · rw [List.getElem?_append_right (by omega)] at h
    have e : i - l.length = 0 := by
      have := lt_of_at h
      simp at this
      omega
    rw [e] at h
    exact .inr ⟨by omega, (Option.some.inj h).symm⟩
section
variable {J : It} {n : Nat} {G : Hp → Prop} {Y : Nat → Hp → V → Hp → Prop}
/-- what the turns have made: a new object each -/
structure Fresh (H1 H : Hp) (D : Addr) (P : Nat → Addr → Hp → Prop) (i : Nat) (as : List Addr) : Prop where
  s : Same H1 H
  len : as.length = i
  nd : as.Nodup
  at_ : ∀ j a, as[j]? = some a → P j a H ∧ H1 a = none ∧ a ≠ D
theorem Fresh.step {H1 H H4 : Hp} {D : Addr} {P : Nat → Addr → Hp → Prop} {i : Nat} {as : List Addr} {a : Addr} {o : HO} (hP : ∀ i a H H', a ≠ D → Sav D H H' → P i a H → P i a H') (hPn : ∀ i a H, P i a H → H a ≠ none)
    (hD : H1 D = none) (f : Fresh H1 H D P i as) (hHD : H D ≠ none) (s : Same H H4) (na : H a = none) (p : P i a H4) : Fresh H1 (upd H4 D o) D P (i + 1) (as ++ [a]) := by
  refine ⟨Same.mut (f.s.trans s) hD, by rw [List.length_append, f.len]; rfl, ?_, fun j b hb => ?_⟩
  · rw [List.nodup_append]
    refine ⟨f.nd, by simp, fun x hx y hy e => ?_⟩
    rw [List.mem_singleton.mp hy] at e
    obtain ⟨j, hj, ej⟩ := List.mem_iff_getElem.mp hx
    have := (f.at_ j x (by rw [List.getElem?_eq_getElem hj, ej])).1
    exact hPn _ _ _ this (e ▸ na)
  · rcases at_snoc hb with h | ⟨rfl, rfl⟩
    · obtain ⟨h1, h2, h3⟩ := f.at_ j b h
      exact ⟨hP _ _ _ _ h3 Sav.upd (hP _ _ _ _ h3 (Sav.of s) h1), h2, h3⟩
    · have hbD : b ≠ D := fun e => hHD (e ▸ na)
      rw [f.len]
      exact ⟨hP _ _ _ _ hbD Sav.upd p, f.s.free na, hbD⟩
theorem lc_fresh (w : Walk J n G Y) {g : TG} {te : TE} {vs : List Nat} {σ : L2.St} {H1 : Hp} {D : Addr} {Qd : Hp → Prop} (hD : H1 D = none) (P : Nat → Addr → Hp → Prop) (hP : ∀ i a H H', a ≠ D → Sav D H H' → P i a H → P i a H') (hPn : ∀ i a H, P i a H → H a ≠ none)
    (hn : n ≤ sizeLine) (hG : ∀ H', Same H1 H' → G H')
    (hs : ∀ (i : Nat) (x : V) (H H' : Hp) (Kt : V → Hp → Prop), i < n → Same H1 H → Y i H x H' → (∀ a H4, Same H H4 → H a = none → P i a H4 → Kt (.ref a) H4) → g x (wipe σ vs) H' fun σ2 H2 => wipe σ2 vs = wipe σ vs ∧ te σ2 H2 Kt)
    (hd : ∀ H' (as : List Addr), Same H1 H' → H' D = some (.lst (as.map V.ref)) → as.length = n → as.Nodup → (∀ j a, as[j]? = some a → P j a H' ∧ H1 a = none ∧ a ≠ D) → Qd H') :
    LcWalk J g tYes te vs σ H1 D Qd :=
  lc_it w (fun i H => ∃ as : List Addr, H D = some (.lst (as.map V.ref)) ∧ Fresh H1 H D P i as) ⟨[], upd_same, Same.new hD, rfl, List.nodup_nil, fun j a h => by simp at h⟩ (fun i H _ ⟨_, _, f⟩ => hG H f.s)
    (fun i x H H' hi ⟨as, hl, f⟩ y => hs i x H H' _ hi f.s y fun a H4 s na p => ⟨as.map V.ref, s _ _ hl, by rw [List.length_map, f.len]; omega, as ++ [a], by rw [upd_same, List.map_append]; rfl, Fresh.step hP hPn hD f (by rw [hl]; simp) s na p⟩)
    fun H ⟨as, hl, f⟩ => hd H as f.s hl f.len f.nd f.at_
theorem val_none {κ : Type} [DecidableEq κ] {kvs : List (κ × V)} {k : κ} (h : k ∉ kvs.map (·.1)) : valV kvs k = none := by
  unfold valV
  rw [Option.map_eq_none_iff, List.find?_eq_none]
  intro x hx
  simp only [decide_eq_true_eq]
  exact fun e => h (e ▸ List.mem_map_of_mem hx)
/-- a dict comprehension with new objects as values -/
theorem dc_fresh (w : Walk J n G Y) {g : TG} {tk tv : TE} {vs : List Nat} {σ : L2.St} {H1 : Hp} {D : Addr} {Qd : Hp → Prop} (hD : H1 D = none) (ks : List Key) (hk : ks.length = n) (hnd : ks.Nodup) (P : Nat → Addr → Hp → Prop) (hP : ∀ i a H H', a ≠ D → Sav D H H' → P i a H → P i a H') (hPn : ∀ i a H, P i a H → H a ≠ none)
    (hn : n ≤ sizeLine) (hG : ∀ H', Same H1 H' → G H')
    (hs : ∀ (i : Nat) (x : V) (H H' : Hp) (Kt : V → V → Hp → Prop), i < n → Same H1 H → Y i H x H' → (∀ k a H4, ks[i]? = some k → Same H H4 → H a = none → P i a H4 → Kt (kV k) (.ref a) H4) → g x (wipe σ vs) H' fun σ2 H2 => wipe σ2 vs = wipe σ vs ∧ tk σ2 H2 fun y H3 => tv σ2 H3 fun z H4 => Kt y z H4)
    (hd : ∀ H' (as : List Addr), Same H1 H' → H' D = some (.dK (ks.zip (as.map V.ref))) → as.length = n → as.Nodup → (∀ j a, as[j]? = some a → P j a H' ∧ H1 a = none ∧ a ≠ D) → Qd H') :
    DcWalk J g tYes tk tv vs σ H1 D Qd := by
  refine ⟨fun i m H => m = n - i ∧ i ≤ n ∧ ∃ as : List Addr, H D = some (.dK ((ks.take i).zip (as.map V.ref))) ∧ Fresh H1 H D P i as, ⟨n, by simp, Nat.zero_le _, [], by rw [upd_same]; rfl, Same.new hD, rfl, List.nodup_nil, fun j a h => by simp at h⟩, ?_⟩
  rintro i m H ⟨rfl, hi, as, hl, f⟩
  have q := hG H f.s
  by_cases hlt : i < n
  · refine .inr ⟨w.goes i H hlt q, fun H' => ∃ as : List Addr, H' D = some (.dK ((ks.take (i + 1)).zip (as.map V.ref))) ∧ Fresh H1 H' D P (i + 1) as, fun H' p => ⟨n - (i + 1), by omega, rfl, hlt, p⟩, fun x H' y => ?_⟩
    refine hs i x H H' (fun y z H5 => ∃ kvs k, y = kV k ∧ H5 D = some (.dK kvs) ∧ kvs.length < sizeLine ∧ ∃ as : List Addr, (upd H5 D (.dK (putK kvs k z))) D = some (.dK ((ks.take (i + 1)).zip (as.map V.ref))) ∧ Fresh H1 (upd H5 D (.dK (putK kvs k z))) D P (i + 1) as) hlt f.s (w.yields i H x H' hlt q y) fun k a H4 ek s na p => ?_
    have hlen : ((ks.take i).zip (as.map V.ref)).length = i := by rw [List.length_zip, List.length_take, List.length_map, f.len]; omega
    have hkn : k ∉ ((ks.take i).zip (as.map V.ref)).map (·.1) := fun hm => by
      rw [List.map_fst_zip (by rw [List.length_take, List.length_map, f.len]; omega)] at hm
      obtain ⟨j, hj, ej⟩ := List.mem_iff_getElem.mp hm
      rw [List.length_take] at hj
      rw [List.getElem_take] at ej
      have := nd_ix hnd (i := j) (j := i) (by rw [List.getElem?_eq_getElem (by omega), ej]) ek
      omega
    refine ⟨_, k, rfl, s _ _ hl, by rw [hlen]; omega, as ++ [a], ?_, Fresh.step hP hPn hD f (by rw [hl]; simp) s na p⟩
    rw [upd_same, putK_new _ (val_none hkn), List.take_add_one, ek, List.map_append, List.zip_append (by rw [List.length_take, List.length_map, f.len]; omega)]
    rfl
  · have e : i = n := by omega
    subst e
    refine .inl ⟨w.stops H q, hd H as f.s ?_ f.len f.nd f.at_⟩
    rw [hl, List.take_of_length_le (by omega)]
/-- a dict comprehension with tuples as keys: what it has by the turn is told -/
theorem dcT_pure (w : Walk J n G Y) {g : TG} {tk tv : TE} {vs : List Nat} {σ : L2.St} {H1 : Hp} {D : Addr} {Qd : Hp → Prop} (hD : H1 D = none) (ps : List (List Key × V)) (hk : ps.length = n) (hnd : (ps.map (·.1)).Nodup)
    (hn : n ≤ sizeLine) (hG : ∀ H', Same H1 H' → G H')
    (hs : ∀ (i : Nat) (x : V) (H H' : Hp) (Kt : V → V → Hp → Prop), i < n → Same H1 H → Y i H x H' → (∀ k v b H4, ps[i]? = some (k, v) → Same H H4 → H4 b = some (.tup (k.map kV)) → Kt (.ref b) v H4) → g x (wipe σ vs) H' fun σ2 H2 => wipe σ2 vs = wipe σ vs ∧ tk σ2 H2 fun y H3 => tv σ2 H3 fun z H4 => Kt y z H4)
    (hd : ∀ H', Same H1 H' → H' D = some (.dT ps) → Qd H') :
    ∃ W : Nat → Nat → Hp → Prop, (∃ m, W 0 m (upd H1 D (.dT []))) ∧ walkT J W Qd (turnT g tYes tk tv vs σ D) := by
  refine ⟨fun i m H => m = n - i ∧ i ≤ n ∧ H D = some (.dT (ps.take i)) ∧ Same H1 H, ⟨n, by simp, Nat.zero_le _, upd_same, Same.new hD⟩, ?_⟩
  rintro i m H ⟨rfl, hi, hl, f⟩
  have q := hG H f
  by_cases hlt : i < n
  · refine .inr ⟨w.goes i H hlt q, fun H' => H' D = some (.dT (ps.take (i + 1))) ∧ Same H1 H', fun H' p => ⟨n - (i + 1), by omega, rfl, hlt, p⟩, fun x H' y => ?_⟩
    refine hs i x H H' (fun y z H5 => ∃ kvs k b, y = .ref b ∧ H5 b = some (.tup (k.map kV)) ∧ H5 D = some (.dT kvs) ∧ kvs.length < sizeLine ∧ (upd H5 D (.dT (putK kvs k z))) D = some (.dT (ps.take (i + 1))) ∧ Same H1 (upd H5 D (.dT (putK kvs k z)))) hlt f (w.yields i H x H' hlt q y) fun k v b H4 ek s hb => ?_
    have hkn : k ∉ (ps.take i).map (·.1) := fun hm => by
      rw [List.map_take] at hm
      obtain ⟨j, hj, ej⟩ := List.mem_iff_getElem.mp hm
      rw [List.length_take, List.length_map] at hj
      rw [List.getElem_take] at ej
      have := nd_ix hnd (i := j) (j := i) (by rw [List.getElem?_eq_getElem (by rw [List.length_map]; omega), ej]) (by rw [List.getElem?_map, ek]; rfl)
      omega
    refine ⟨_, k, b, rfl, hb, s _ _ hl, by rw [List.length_take]; omega, ?_, Same.mut (f.trans s) hD⟩
    rw [upd_same, putK_new _ (val_none hkn), List.take_add_one, ek]
    rfl
  · have e : i = n := by omega
    subst e
    refine .inl ⟨w.stops H q, hd H f ?_⟩
    rw [hl, List.take_of_length_le (by omega)]
end
/-- texts as keys, new objects as values: as a table -/
theorem zip_tab : ∀ (xs : List Str) (as : List Addr), xs.Nodup → as.length = xs.length → ∃ ca : Str → Addr, ((xs.map fun n => (Sum.inr n : Key)).zip (as.map V.ref)) = xs.map (fun n => ((Sum.inr n : Key), V.ref (ca n))) ∧ ∀ (i : Nat) (n : Str), xs[i]? = some n → as[i]? = some (ca n)
  | [], as, _, _ => ⟨fun _ => 0, rfl, fun i n h => by simp at h⟩
  | x :: xs, [], _, h => by simp at h
  | x :: xs, a :: as, hnd, h => by
    obtain ⟨hx, hn⟩ := List.nodup_cons.mp hnd
    obtain ⟨ca, e, hc⟩ := zip_tab xs as hn (by simpa using h)
    have c1 : (fun n => if n = x then a else ca n) x = a := if_pos rfl
    have c2 : ∀ n, n ∈ xs → (fun n => if n = x then a else ca n) n = ca n := fun n hn' => if_neg fun (e : n = x) => hx (e ▸ hn')
    generalize (fun n => if n = x then a else ca n) = cb at c1 c2
    refine ⟨cb, ?_, fun i n hi => ?_⟩
    · rw [List.map_cons, List.map_cons, List.zip_cons_cons, List.map_cons, e, c1]
      congr 1
      exact List.map_congr_left fun n hn' => by rw [c2 n hn']
    · cases i with
      | zero =>
        have e1 : x = n := Option.some.inj hi
        subst e1
        rw [c1]; rfl
      | succ i =>
        have hi' : xs[i]? = some n := hi
        rw [c2 n (List.mem_of_getElem? hi')]
        exact hc i n hi'
end MG
namespace MG
open PySem PySem.Spec PyProof.Rows L2
section
variable {X : Cx}
theorem swD_true {kx vx : Expr} {gs : List Comprehension} {scope : Scope} {pos py : Pos} {y : Str} {l : Nat} {env : Env} (hk : env.scope.kind = .function) (hy : env.scope.names.lookup y = some .local) (hl : (py.line == pos.line) = true)
    (ha : (scope.names.any fun (n, k) => n == y && (k == .local || k == .cell)) = false) : swapsWith (.DictComp kx vx gs scope pos) (some (.Name y py)) l env = pure true := by
  have kind : env.kindOf y = some .local := hy
  have blk : env.blockKind = .function := by
    unfold Env.blockKind
    rw [hk]
    rfl
  unfold swapsWith
  simp only [Expr.pos, ha, hl, kind, blk]
  rfl
/-- name = {..} on one line, the name a local -/
theorem ps_setDc {i : Nat} {y : Str} {py : Pos} {kx vx tg iter : Expr} {ifs : List Expr} {scope : Scope} {own : List (Str × Nat)} {pos spos : Pos} {wi : TI} {g : TG} {tt : TT} {tk tv : TE} (calm : X.calm = true) (nd : X.N.Nodup) (hy : X.N[i]? = some y) (hyl : X.env.scope.names.lookup y = some .local)
    (used : swapsWith (.DictComp kx vx [⟨tg, iter, ifs, 0⟩] scope pos) (some (.Name y py)) spos.line X.env = pure true) (hi : PI X tg iter wi) (ok : BlkOk X.N X.env.scope scope own) (hg : InBlk X scope (PG · tg g)) (ht : InBlk X scope (PTs · ifs tt)) (hk : InBlk X scope (PE · kx tk)) (hv : InBlk X scope (PE · vx tv))
    (plain : ∀ x, foldedSetIterable iter X.env x = pure x := by intro _; rfl) : PS X (.Assign [.Name y py] (.DictComp kx vx [⟨tg, iter, ifs, 0⟩] scope pos) spos) (tAsg (tDc wi g tt tk tv (own.map (·.2))) (gName i)) := by
  constructor
  intro pins s σ H D I h
  -- behind the comprehension its dict is put under the name, then the block's frame goes
  have back : ∀ (L C : Addr) (s' : Shared) (m : Str → Option Value) (G : Hp), Inv X pins σ G s' → D.nx (σ.set i (some (.ref L))) G → s'.heap.Ns C m → FpOk X pins G C → compPost (model X.prog X.w) X.A X.xe (some (assign (.Name y py) X.env)) (fun _ s' => SP X pins D .next s') (.ref L) C (.ok .next) s' := fun L C s' m G J q hn f => by
    refine wpAny_assign_Name (store_ok2 (v := V.ref L) J nd hy (.inl hyl) rfl (fun s2 J2 z => ?_) (.inr hyl))
    obtain ⟨a, sb, ha⟩ := z
    have off : C ≠ a := ha.elim (fun z => z ▸ f.2.1) fun z e => f.2.2.2.2.1 y a z e.symm
    exact ⟨m, hn.sameBut sb off, fun h3 sb3 => ⟨_, G, J2.turned (t' := s2.toks) (fun b o hb e => (sb3.2 b hb).trans e) f.1 f.2.1 f.2.2.2.1 f.2.2.2.2.1 f.2.2.2.2.2, q⟩⟩
  rw [exec_Assign_Name_used _ _ _ _ used]
  refine wpAny_bind (wpAny_standAt (wpAny_bind (m := comprehension _ scope X.env _ newDict false (eval iter X.env) (some (assign (.Name y py) X.env)) >>= fun _ => pure ()) ?_))
  exact wpAny_bind (thn (dc_core (Qf := fun _ s' => SP X pins D .next s') calm nd I hi ok hg ht hk hv plain h back) fun _ s' z => wpAny_pure (wpAny_pure z))
end
end MG
namespace MG
open PySem PySem.Spec PyProof.Rows L2
theorem item_ns {ns : List Str} {f : Str → V} {i : Nat} {y z : V} (hy : ((ns.map fun n => ((Sum.inr n : Key), f n))[i]?.map fun kv => kV kv.1) = some y) (hz : ((ns.map fun n => ((Sum.inr n : Key), f n))[i]?.map Prod.snd) = some z) : ∃ n, ns[i]? = some n ∧ y = .str n ∧ z = f n := by
  rw [List.getElem?_map] at hy hz
  cases e : ns[i]? with
  | none => rw [e] at hy; cases hy
  | some n =>
    rw [e] at hy hz
    exact ⟨n, rfl, (Option.some.inj hy).symm, (Option.some.inj hz).symm⟩
theorem key_ns {ns : List Str} {f : Str → V} {i : Nat} {k : Key} {v : V} (h : (ns.map fun n => ((Sum.inr n : Key), f n))[i]? = some (k, v)) : ∃ n, ns[i]? = some n ∧ k = Sum.inr n ∧ v = f n := by
  rw [List.getElem?_map] at h
  cases e : ns[i]? with
  | none => rw [e] at h; cases h
  | some n =>
    rw [e] at h
    have h' := Option.some.inj h
    exact ⟨n, rfl, (Prod.mk.inj h').1.symm, (Prod.mk.inj h').2.symm⟩
theorem list_tab {ns : List Str} {as : List Addr} {tb : Str → Addr} (hl : as.length = ns.length) (h : ∀ (i : Nat) (n : Str), ns[i]? = some n → as[i]? = some (tb n)) : as = ns.map tb := by
  apply List.ext_getElem?
  intro i
  rw [List.getElem?_map]
  cases e : ns[i]? with
  | none => rw [List.getElem?_eq_none (by rw [hl]; exact List.getElem?_eq_none_iff.mp e)]; rfl
  | some n => rw [h i n e]; rfl
end MG
/-! text L1 -/
set_option Elab.async false
set_option linter.all false
set_option maxRecDepth 100000
set_option maxHeartbeats 4200000
/-! the law's draws -/
namespace MG
open PySem PySem.Spec PyProof.Rows L2
/-- r is a generator of draws -/
def Rng (r : Addr) (H : Hp) : Prop := ∃ a b : Int, H r = some (.lst [.int a, .int b]) ∧ 0 ≤ a ∧ 0 ≤ b ∧ b < 2147483648
/-- r drew; all else is as before -/
structure RS (r : Addr) (H H' : Hp) : Prop where
  sv : Sav r H H'
  rg : Rng r H'
theorem Rng.ne {r : Addr} {H : Hp} (h : Rng r H) : H r ≠ none := by
  obtain ⟨a, b, e, _⟩ := h
  rw [e]; simp
theorem RS.refl {r : Addr} {H : Hp} (h : Rng r H) : RS r H H := ⟨Sav.refl _ _, h⟩
theorem RS.trans {r : Addr} {H H1 H2 : Hp} (a : RS r H H1) (b : RS r H1 H2) : RS r H H2 := ⟨a.sv.trans b.sv, b.rg⟩
theorem RS.free {r : Addr} {H H' : Hp} (a : RS r H H') {l : Addr} (h : H' l = none) : H l = none := a.sv.free h a.rg.ne
theorem RS.of {r : Addr} {H H' : Hp} (a : Same H H') (h : Rng r H) : RS r H H' := ⟨Sav.of a, by obtain ⟨x, y, e, h⟩ := h; exact ⟨x, y, a _ _ e, h⟩⟩
theorem RS.new {r p : Addr} {H : Hp} {o : HO} (h : Rng r H) (hp : H p = none) : RS r H (upd H p o) := RS.of (Same.new hp) h
theorem RS.upd {r : Addr} {H : Hp} {a b : Int} (ha : 0 ≤ a) (hb : 0 ≤ b) (hb2 : b < 2147483648) : RS r H (upd H r (.lst [.int a, .int b])) := ⟨Sav.upd, a, b, upd_same .., ha, hb, hb2⟩
/-- a change of what is new -/
theorem RS.mut {r p : Addr} {H H' : Hp} {o : HO} (a : RS r H H') (hp : H p = none) (hr : p ≠ r) : RS r H (L2.upd H' p o) := by
  refine ⟨fun b u hb e => ?_, ?_⟩
  · rw [upd_ne (fun z => by rw [z, hp] at e; cases e)]
    exact a.sv b u hb e
  · obtain ⟨x, y, e, h⟩ := a.rg
    exact ⟨x, y, by rw [upd_ne (Ne.symm hr)]; exact e, h⟩
theorem ifT {c : Prop} [Decidable c] {p q : Prop} (h : c) (hp : p) : if decide c = true then p else q := by rw [if_pos (decide_eq_true h)]; exact hp
theorem ifF {c : Prop} [Decidable c] {p q : Prop} (h : ¬ c) (hp : q) : if decide c = true then p else q := by rw [if_neg (fun e => h (of_decide_eq_true e))]; exact hp
def spRng : Sp := fun vs H Q _ => ∃ (l : Addr) (ns : List Int) (k : Nat) , vs = [.ref l, .int k] ∧ H l = some (.lst (ns.map V.int)) ∧ k ≤ 3 ∧ ns.length ≤ 63 ∧ ∀ (r : Addr) (H' : Hp), H r = none → Same H H' → Rng r H' → Q (.ref r) H'
def spDraw : Sp := fun vs H Q _ => ∃ (r : Addr) (m : Nat), vs = [.ref r, .int m] ∧ Rng r H ∧ 0 < m ∧ m ≤ 1000 ∧ ∀ (d : Nat) (H' : Hp), RS r H H' → d < m → Q (.int d) H'
section
variable {P : Program} {w : World} {K : PySem.W.Frag} {mg : Str → Option Value} {base : Heap} {C U : Addr}
theorem sc_s_rng : FnScope ["_law_script", "_law_k", "_law_cell"] ["_law_script", "_law_k"] (defScope s_rng) := ⟨rfl, rfl, rfl, by decide +kernel, rfl, by decide +kernel, by decide +kernel⟩
theorem ok_rng {f : Addr} {fd : FuncData} (T : Txt K mg C) (F : Fun K "_law_rng" "_law_rng" s_rng f fd) (hm : mg "_law_rng" = some (.ref f)) : Cal P w K mg base 1 "_law_rng" spRng := by
  refine ⟨f, fd, ["_law_script", "_law_k"], ?_, hm, F.kp, F.binds (ps := ["_law_script", "_law_k"]) fun _ _ _ _ _ _ us hl => match us, hl with | [_, _], _ => rfl⟩
  refine F.okX sc_s_rng (fun vs H Q E h => ?_) (fun cdv A outer s H vs Q E hr h => ?_)
  · obtain ⟨l, ns, k, rfl, _⟩ := h
    rfl
  · obtain ⟨l, ns, k, rfl, hl, hk, hn, q⟩ := h
    refine ⟨_, PSs.nox (pss_cons (ps_set (i := 2) sc_s_rng.nd rfl (Or.inl rfl) (pe_ifExp (pt_cmpR op_lt (pv 1) (pe_callB call_len_seq (by rfl) T.g_len bt_len (pa_cons (pv 0) pa_nil)) (nomark _)) (pe_callB call_abs (by rfl) T.g_abs bt_abs (pa_cons (pe_ix ix_list (pv 0) (pv 1) (fun _ _ => rfl)) pa_nil)) pe_int))
    (pss_one (ps_ret (pe_lst (pa_cons (pe_callB (call_max2 rfl) (by rfl) T.g_max bt_max (pa_cons pe_int (pa_cons (pe_op op_sub (pv 2) (pe_op op_pow pe_int pe_int)) pa_nil))) (pa_cons (pe_op op_add (pe_op op_mod (pe_op op_pow (pe_op op_add (pe_op op_add (pe_op op_mod (pv 2) pe_int) (pe_op op_mul pe_int (pv 1))) pe_int) pe_int) pe_int) pe_int) pa_nil)))))), ?_⟩
    have hlen : (ns.map V.int).length = ns.length := List.length_map ..
    have cpow : ∀ c : Int, 0 ≤ c → CPow (c % 2147483543 + 101 * ↑k + 7) 2 := fun c hc => by
      have h1 := Int.emod_nonneg c (show (2147483543 : Int) ≠ 0 by decide)
      have h2 := Int.emod_lt_of_pos c (show (0 : Int) < 2147483543 by decide)
      refine ⟨by decide, by decide, ?_⟩
      have e : (2 : Nat) ^ 64 = 18446744073709551616 := by decide
      rw [e]
      omega
    have maxnn : ∀ z : Int, 0 ≤ (if z > 0 then z else 0) := fun z => by split <;> omega
    have modb : ∀ z : Int, 0 ≤ z % 2147483497 + 1 ∧ z % 2147483497 + 1 < 2147483648 := fun z => by
      have h1 := Int.emod_nonneg z (show (2147483497 : Int) ≠ 0 by decide)
      have h2 := Int.emod_lt_of_pos z (show (0 : Int) < 2147483497 by decide)
      omega
    refine ⟨_, rfl, ⟨_, rfl, _, _, rfl, .inl (SqL.of hl), ⟨_, _, rfl, rfl, ?_⟩⟩⟩
    have e1 : (↑k : Int) < ↑((ns.map V.int).length) ↔ k < ns.length := by rw [List.length_map]; omega
    by_cases hlt : k < ns.length
    · refine ⟨_, rfl, ifT (e1.mpr hlt) ⟨_, rfl, _, rfl, _, _, _, .int ns[k], rfl, rfl, SqL.of hl, ?_, _, rfl, ?_⟩⟩
      · exact atI_nat (by rw [List.getElem?_map, List.getElem?_eq_getElem hlt]; rfl)
      have h0 : (0 : Int) ≤ (if ns[k] < 0 then -ns[k] else ns[k]) := by split <;> omega
      refine ⟨_, rfl, _, _, rfl, rfl, ⟨by decide, by decide, by decide⟩, _, _, rfl, rfl, _, _, rfl, _, rfl, _, _, rfl, rfl, (by show (0 : Int) < 2147483543; decide), _, rfl, _, _, rfl, rfl, .inl ⟨by decide, by decide⟩, _, _, rfl, rfl, _, _, rfl, rfl, _, _, rfl, rfl, cpow _ h0, _, _, rfl, rfl, (by show (0 : Int) < 2147483497; decide), _, _, rfl, rfl, by show 2 ≤ sizeLine; decide, fun r hr => ?_⟩
      exact q r _ hr (Same.new hr) ⟨_, _, upd_same, maxnn _, (modb _).1, (modb _).2⟩
    · refine ⟨_, rfl, ifF (fun h => hlt (e1.mp h)) ?_⟩
      have h0 : (0 : Int) ≤ 0 := Int.le_refl _
      refine ⟨_, rfl, _, _, rfl, rfl, ⟨by decide, by decide, by decide⟩, _, _, rfl, rfl, _, _, rfl, _, rfl, _, _, rfl, rfl, (by show (0 : Int) < 2147483543; decide), _, rfl, _, _, rfl, rfl, .inl ⟨by decide, by decide⟩, _, _, rfl, rfl, _, _, rfl, rfl, _, _, rfl, rfl, cpow 0 h0, _, _, rfl, rfl, (by show (0 : Int) < 2147483497; decide), _, _, rfl, rfl, by show 2 ≤ sizeLine; decide, fun r hr => ?_⟩
      exact q r _ hr (Same.new hr) ⟨_, _, upd_same, maxnn _, (modb _).1, (modb _).2⟩
theorem sc_s_draw : FnScope ["_law_rng_here", "_law_many", "_law_digit", "_law_mixed"] ["_law_rng_here", "_law_many"] (defScope s_draw) := ⟨rfl, rfl, rfl, by decide +kernel, rfl, by decide +kernel, by decide +kernel⟩
theorem ok_draw {f : Addr} {fd : FuncData} (T : Txt K mg C) (F : Fun K "_law_draw" "_law_draw" s_draw f fd) (hm : mg "_law_draw" = some (.ref f)) : Cal P w K mg base 1 "_law_draw" spDraw := by
  refine ⟨f, fd, ["_law_rng_here", "_law_many"], ?_, hm, F.kp, F.binds (ps := ["_law_rng_here", "_law_many"]) fun _ _ _ _ _ _ us hl => match us, hl with | [_, _], _ => rfl⟩
  refine F.okX sc_s_draw (fun vs H Q E h => ?_) (fun cdv A outer s H vs Q E hr h => ?_)
  · obtain ⟨r, m, rfl, _⟩ := h
    rfl
  · obtain ⟨r, m, rfl, ⟨a, b, hr0, ha, hb, hb2⟩, hm0, hm1, q⟩ := h
    refine ⟨_, PSs.nox (pss_cons (ps_if (pt_cmpR op_gt (pe_ix ix_list (pv 0) pe_int (fun _ _ => rfl)) pe_int (nomark _)) (pss_cons (ps_asg (pe_callB call_divmod (by rfl) T.g_divmod bt_divmod (pa_cons (pe_ix ix_list (pv 0) pe_int (fun _ _ => rfl)) (pa_cons (pv 1) pa_nil))) (pg_tup rfl (pgs_cons (pg_sub (pv 0) pe_int set_list) (pgs_cons (pg_name (i := 2) sc_s_draw.nd rfl (Or.inl rfl)) pgs_nil))))
    (pss_one (ps_ret (pv 2)))) pss_nil)
    (pss_cons (ps_asg (pe_op op_mod (pe_op op_add (pe_op op_mul (pe_ix ix_list (pv 0) pe_int (fun _ _ => rfl)) pe_int) pe_int) pe_int) (pg_sub (pv 0) pe_int set_list))
    (pss_cons (ps_set (i := 3) sc_s_draw.nd rfl (Or.inl rfl) (pe_op op_fdiv (pe_op op_mod (pe_op op_mul (pe_ix ix_list (pv 0) pe_int (fun _ _ => rfl)) (pe_ix ix_list (pv 0) pe_int (fun _ _ => rfl))) pe_int) pe_int))
    (pss_one (ps_ret (pe_ifExp (pt_cmpR op_lt (pv 1) (pe_op op_pow pe_int pe_int) (nomark _)) (pe_op op_mod (pv 3) (pv 1)) (pe_op op_mod (pe_op op_mul (pe_op op_add (pe_op op_mul (pv 3) pe_int) (pe_ix ix_list (pv 0) pe_int (fun _ _ => rfl))) pe_int) (pv 1)))))))), ?_⟩
    refine ⟨_, rfl, _, _, _, _, rfl, rfl, SqL.of hr0, rfl, _, _, rfl, rfl, ?_⟩
    have p20 : (2 : Int) ^ (20 : Int).toNat = 1048576 := by decide +kernel
    have hlt20 : (m : Int) < 2 ^ (20 : Int).toNat := by rw [p20]; omega
    have hnn : ∀ z : Int, ∃ d : Nat, z % (m : Int) = d ∧ d < m := fun z => by
      have h1 := Int.emod_nonneg z (show (m : Int) ≠ 0 by omega)
      have h2 := Int.emod_lt_of_pos z (show (0 : Int) < m by omega)
      obtain ⟨d, hd⟩ := Int.eq_ofNat_of_zero_le h1
      exact ⟨d, hd, by omega⟩
    by_cases h0 : a > 0
    · refine ⟨_, rfl, ifT h0 ⟨_, rfl, _, _, _, _, rfl, rfl, SqL.of hr0, rfl, _, rfl, _, _, rfl, ⟨by omega, by omega⟩, fun p hp => ?_⟩⟩
      have hpr : r ≠ p := ne_of_none hr0 hp
      refine ⟨p, _, rfl, SqT.of upd_same, rfl, _, _, rfl, _, rfl, r, _, 0, 0, rfl, rfl, (upd_ne hpr).trans hr0, rfl, _, _, rfl, rfl, _, rfl, ?_⟩
      obtain ⟨d, hd, hdm⟩ := hnn a
      have z := q d _ ((RS.new (o := .tup [.int (a / m), .int (a % m)]) ⟨a, b, hr0, ha, hb, hb2⟩ hp).trans (RS.upd (Int.ediv_nonneg ha (show (0 : Int) ≤ m by omega)) hb hb2)) hdm
      rw [← hd] at z
      exact z
    · refine ⟨_, rfl, ifF h0 ?_⟩
      refine ⟨_, rfl, _, _, _, _, rfl, rfl, SqL.of hr0, rfl, _, _, rfl, rfl, .inl ⟨by omega, by omega⟩, _, _, rfl, rfl, _, _, rfl, rfl, (by show (0 : Int) < 2147483587; decide), _, rfl, r, _, 1, 1, rfl, rfl, hr0, rfl, ?_⟩
      have b1 : 0 ≤ (b * 48271 + 10007) % 2147483587 ∧ (b * 48271 + 10007) % 2147483587 < 2147483587 := ⟨Int.emod_nonneg _ (by decide), Int.emod_lt_of_pos _ (by decide)⟩
      have hr1 := RS.upd (r := r) (H := H) ha b1.1 (by omega)
      refine ⟨_, rfl, _, _, _, _, rfl, rfl, SqL.of upd_same, rfl, _, rfl, _, _, _, _, rfl, rfl, SqL.of upd_same, rfl, _, _, rfl, rfl, .inl ⟨by omega, by omega⟩, _, _, rfl, rfl, (by show (0 : Int) < 2147483549; decide), _, _, rfl, rfl, ⟨by decide, by decide⟩, ?_⟩
      refine ⟨_, rfl, _, _, rfl, rfl, ⟨by decide, by decide, by decide⟩, _, _, rfl, rfl, _, rfl, ?_⟩
      show (if decide ((m : Int) < 2 ^ (20 : Int).toNat) = true then _ else _ : Prop)
      rw [if_pos (decide_eq_true hlt20)]
      refine ⟨_, rfl, _, rfl, _, _, rfl, rfl, (by show (0 : Int) < m; omega), ?_⟩
      obtain ⟨d, hd, hdm⟩ := hnn ((b * 48271 + 10007) % 2147483587 * ((b * 48271 + 10007) % 2147483587) % 2147483549 / 11)
      have z := q d _ hr1 hdm
      rw [← hd] at z
      exact z
end
end MG
/-! text LB -/
set_option Elab.async false
set_option linter.all false
set_option maxRecDepth 100000
set_option maxHeartbeats 4200000
/-! the law's choices -/
namespace MG
open PySem PySem.Spec PyProof.Rows L2
section
variable {X : Cx} {K : PySem.W.Frag}
variable {r : V → List V → Hp → VK → Prop} {T id : String} {name : Str} {apos cpos : Pos} {to : TE} {t : TA} {o e : Expr} {es : List Expr}
theorem pe_bm0K (hK : X.K = K) (pa : PlainAttrs T) (slot : Slot T name id) (hty : typeOf (.builtin id) = pure (.type "method_descriptor")) (hm : MtR X id r) (ho : PE X o to)
    (hbase : attributeBase o name X.env (eval o X.env) = eval o X.env := by rfl) (hline : (apos.endLine == cpos.line) = true := by rfl) : PE X (.Call (.Attribute o name apos) [] [] cpos) (tBM0 K T r to) := by
  subst hK; exact pe_bm0 pa slot hty hm ho hbase hline
theorem pe_bmK (hK : X.K = K) (pa : PlainAttrs T) (slot : Slot T name id) (hty : typeOf (.builtin id) = pure (.type "method_descriptor")) (hm : MtR X id r) (ho : PE X o to) (ha : PA X (e :: es) t)
    (hbase : attributeBase o name X.env (eval o X.env) = eval o X.env := by rfl) (hfew : ((backTo cpos (starEach (e :: es) X.env)).all (fun x => !x.1) && (backToKw cpos (keywordEach [] X.env)).all (fun x => x.1.isSome) && decide ((e :: es).length + ([] : List Keyword).length + (if ([] : List Keyword).isEmpty then 0 else 1) < 30)) = true := by rfl)
    (hline : (apos.endLine == cpos.line) = true := by rfl) (hs : Row1 X e es := by rfl) (hplain : Flat X es cpos := by rfl) :
    PE X (.Call (.Attribute o name apos) (e :: es) [] cpos) (tBM K T r to t) := by
  subst hK; exact pe_bm pa slot hty hm ho ha hbase hfew hline hs hplain
end
theorem erase_perm {α : Type} : ∀ (l : List α) (i : Nat) (h : i < l.length), (l[i] :: l.eraseIdx i).Perm l
  | [], i, h => absurd h (Nat.not_lt_zero _)
  | x :: l, 0, _ => List.Perm.refl _
  | x :: l, i + 1, h => (List.Perm.swap _ _ _).trans (List.Perm.cons x (erase_perm l i (Nat.lt_of_succ_lt_succ h)))
def spChoice : Sp := fun vs H Q _ => ∃ (r l : Addr) (xs : List V), vs = [.ref r, .ref l] ∧ Rng r H ∧ r ≠ l ∧ H l = some (.lst xs) ∧ 0 < xs.length ∧ xs.length ≤ 1000 ∧ ∀ (d : Nat) (y : V) (H' : Hp), RS r H H' → xs[d]? = some y → Q y H'
def spShuffled : Sp := fun vs H Q _ => ∃ (r l : Addr) (xs : List V), vs = [.ref r, .ref l] ∧ Rng r H ∧ r ≠ l ∧ H l = some (.lst xs) ∧ xs.length ≤ 40 ∧ ∀ (p : Addr) (ys : List V) (H' : Hp), H p = none → RS r H H' → H' p = some (.lst ys) → ys.Perm xs → Q (.ref p) H'
section
variable {P : Program} {w : World} {K : PySem.W.Frag} {mg : Str → Option Value} {base : Heap} {C U : Addr}
theorem sc_s_choice : FnScope ["_law_rng_here", "_law_options"] ["_law_rng_here", "_law_options"] (defScope s_choice) := ⟨rfl, rfl, rfl, by decide +kernel, rfl, by decide +kernel, by decide +kernel⟩
theorem ok_choice {f : Addr} {fd : FuncData} (T : Txt K mg C) (F : Fun K "_law_choice" "_law_choice" s_choice f fd) (hm : mg "_law_choice" = some (.ref f)) (c__law_draw : Cal P w K mg base 1 "_law_draw" spDraw) : Cal P w K mg base 2 "_law_choice" spChoice := by
  refine ⟨f, fd, ["_law_rng_here", "_law_options"], ?_, hm, F.kp, F.binds (ps := ["_law_rng_here", "_law_options"]) fun _ _ _ _ _ _ us hl => match us, hl with | [_, _], _ => rfl⟩
  refine F.okX sc_s_choice (fun vs H Q E h => ?_) (fun cdv A outer s H vs Q E hr h => ?_)
  · obtain ⟨r, l, xs, rfl, _⟩ := h
    rfl
  · obtain ⟨r, l, xs, rfl, hR, hrl, hl, h0, h1, q⟩ := h
    refine ⟨_, PSs.nox (pss_one (ps_ret (pe_ix ix_list (pv 1) (pe_cl c__law_draw hr (by decide) (by rfl) (pa_cons (pv 0) (pa_cons (pe_callB call_len_seq (by rfl) T.g_len bt_len (pa_cons (pv 1) pa_nil)) pa_nil))) (fun _ _ => rfl)))), ?_⟩
    refine ⟨_, rfl, _, rfl, _, rfl, _, _, rfl, .inl (SqL.of hl), r, xs.length, rfl, hR, h0, h1, fun d H1 s1 hd => ?_⟩
    refine ⟨_, _, _, xs[d], rfl, rfl, SqL.of (s1.sv _ _ (Ne.symm hrl) hl), atI_nat (by rw [List.getElem?_eq_getElem hd]), q d _ H1 s1 (by rw [List.getElem?_eq_getElem hd])⟩
theorem sc_s_shuffled : FnScope ["_law_rng_here", "_law_values", "_law_pool", "_law_k"] ["_law_rng_here", "_law_values"] (defScope s_shuffled) := ⟨rfl, rfl, rfl, by decide +kernel, rfl, by decide +kernel, by decide +kernel⟩
theorem ok_shuffled {f : Addr} {fd : FuncData} (T : Txt K mg C) (F : Fun K "_law_shuffled" "_law_shuffled" s_shuffled f fd) (hm : mg "_law_shuffled" = some (.ref f)) (c__law_draw : Cal P w K mg base 1 "_law_draw" spDraw) : Cal P w K mg base 2 "_law_shuffled" spShuffled := by
  refine ⟨f, fd, ["_law_rng_here", "_law_values"], ?_, hm, F.kp, F.binds (ps := ["_law_rng_here", "_law_values"]) fun _ _ _ _ _ _ us hl => match us, hl with | [_, _], _ => rfl⟩
  refine F.okX sc_s_shuffled (fun vs H Q E h => ?_) (fun cdv A outer s H vs Q E hr h => ?_)
  · obtain ⟨r, l, xs, rfl, _⟩ := h
    rfl
  · obtain ⟨r, l, xs, rfl, hR, hrl, hl, h1, q⟩ := h
    refine ⟨_, PSs.nox (pss_cons (ps_set (i := 2) sc_s_shuffled.nd rfl (Or.inr rfl) (pe_callTy call_list_of (by rfl) T.g_list bt_list (pa_cons (pv 1) pa_nil)))
    (pss_one (ps_ret (pe_lc (own := [("_law_k", 3)]) (g := gName 3) (tt := tYes) rfl sc_s_shuffled.nd (pi_range1 (by rfl) T.g_range (pa_cons (pe_callB call_len_seq (by rfl) T.g_len bt_len (pa_cons (pv 1) pa_nil)) pa_nil)) (blkOk_by (own := [("_law_k", 3)]) (N := ["_law_rng_here", "_law_values", "_law_pool", "_law_k"]) (sc := defScope s_shuffled) (by decide +kernel)) (fun _ _ _ _ _ => pg_name (i := 3) sc_s_shuffled.nd rfl (Or.inl rfl)) (fun _ _ _ _ _ => pts_nil) (fun _ _ _ _ _ => (pe_bmK (K := K) rfl PySem.F.plainAttrs_list PySem.F.slot_list_pop PySem.F.type_list_pop mt_popAt (pv 2) (pa_cons (pe_cl c__law_draw hr (by decide) (by rfl) (pa_cons (pv 0) (pa_cons (pe_callB (call_len_seqK (K := K) rfl) (by rfl) T.g_len bt_len (pa_cons (pv 2) pa_nil)) pa_nil))) pa_nil))))))), ?_⟩
    have hlr : l ≠ r := Ne.symm hrl
    refine ⟨_, rfl, l, xs, rfl, .inl (SqL.of hl), fun p0 hp0 => ?_⟩
    refine ⟨_, rfl, _, _, rfl, .inl (SqL.of (Same.new hp0 _ _ hl)), ?_⟩
    have n1 : ∀ b, H b ≠ none → b ≠ p0 := fun b h e => h (e ▸ hp0)
    have hp0r : r ≠ p0 := n1 r hR.ne
    refine ⟨_, rfl, (by rw [← Int.ofNat_le] at h1; omega), (by rw [← Int.ofNat_le] at h1; omega), fun D hD => lc_it walk_range (fun i H' => ∃ rest acc, H' p0 = some (.lst rest) ∧ H' D = some (.lst acc) ∧ (acc ++ rest).Perm xs ∧ acc.length = i ∧ RS r H H')
      ⟨xs, [], ?_, upd_same, List.Perm.refl _, rfl, ?_⟩ (fun _ _ _ _ => trivial) ?_ ?_⟩
    · have hDp : p0 ≠ D := fun e => by rw [← e, upd_same] at hD; cases hD
      rw [upd_ne hDp, upd_same]
    · have s0 := RS.new (o := .lst xs) hR hp0
      exact s0.trans (RS.new s0.rg hD)
    · rintro i x H1 H2 hi ⟨rest, acc, e1, e2, pm, el, s1⟩ ⟨rfl, rfl⟩
      have hi : i < xs.length := by rw [Int.toNat_natCast] at hi; exact hi
      have hlen := pm.length_eq
      rw [List.length_append] at hlen
      have hDp : p0 ≠ D := fun e => by rw [← e, upd_same] at hD; cases hD
      have hDr : D ≠ r := fun e => by
        rw [e, Same.new hp0 _ _ hR.choose_spec.choose_spec.1] at hD; cases hD
      refine ⟨rfl, _, rfl, .inl ⟨rfl, _, SqL.of e1⟩, _, rfl, _, rfl, _, _, rfl, .inl (SqL.of e1), r, rest.length, rfl, s1.rg, by omega, by omega, fun d H4 s4 hd => ?_⟩
      have f1 := s4.sv _ _ (Ne.symm hp0r) e1
      have f2 := s4.sv _ _ hDr e2
      refine ⟨p0, rest, d, d, rest[d], rfl, rfl, f1, by omega, by omega, ?_, by rw [List.getElem?_eq_getElem hd], acc, ?_, by rw [sz]; omega, rest.eraseIdx d, acc ++ [rest[d]], ?_, upd_same, ?_, by rw [List.length_append, el]; rfl, ?_⟩
      · rw [seqIndex_at (by omega) (by omega)]; rfl
      · rw [upd_ne (Ne.symm hDp)]; exact f2
      · rw [upd_ne hDp, upd_same]
      · have pm2 := erase_perm rest d hd
        rw [List.append_assoc]
        exact (List.Perm.append_left acc pm2).trans pm
      · exact ((s1.trans s4).mut hp0 (Ne.symm hp0r)).mut ((Same.new hp0).free hD) hDr
    · rintro H1 ⟨rest, acc, e1, e2, pm, el, s1⟩
      have hlen := pm.length_eq
      rw [List.length_append] at hlen
      have e0 : rest = [] := List.eq_nil_of_length_eq_zero (by rw [Int.toNat_natCast] at el; omega)
      subst e0
      rw [List.append_nil] at pm
      exact q D acc H1 ((Same.new hp0).free hD) s1 e2 pm
end
end MG
/-! text LN -/
set_option Elab.async false
set_option linter.all false
set_option maxRecDepth 100000
set_option maxHeartbeats 4200000
/-! names, plainly -/
namespace MG
open PySem PySem.Spec PyProof.Rows L2
def letS (i : Nat) : Nat := LET.cps.toList.getD i 0
def sg (c : Nat) : Str := ⟨#[c]⟩
def cand (b : Str) (k : Nat) : Str := cutS b none (some 6) ++ sg (letS (k / 26)) ++ sg (letS (k % 26))
theorem let_len : LET.cps.toList.length = 26 := by decide +kernel
theorem letS_in : ∀ i, i < 26 → letS i ∈ LET.cps.toList := by decide +kernel
theorem letS_at : ∀ i, i < 26 → LET.cps.toList[i]? = some (letS i) := by decide +kernel
theorem letS_inj : ∀ i, i < 26 → ∀ j, j < 26 → letS i = letS j → i = j := by decide +kernel
theorem cps_app (x y : Str) : (x ++ y).cps.toList = x.cps.toList ++ y.cps.toList := by
  show (x.cps ++ y.cps).toList = _
  rw [Array.toList_append]
theorem cut6 (b : Str) : (cutS b none (some 6)).cps.toList = b.cps.toList.take 6 := by
  unfold cutS
  have e1 : HT.sIx b.length 0 none = 0 := rfl
  rw [e1, show (some (6 : Int)) = some ((6 : Nat) : Int) from rfl, HT.sIx_nat]
  show (List.toArray _).toList = _
  rw [List.drop_zero, Nat.sub_zero]
  show List.take (min 6 b.length) b.cps.toList = _
  have e2 : b.length = b.cps.toList.length := by rw [Array.length_toList]; rfl
  rw [e2, List.take_eq_take_iff]
  omega
theorem cand_cps (b : Str) (k : Nat) : (cand b k).cps.toList = b.cps.toList.take 6 ++ [letS (k / 26), letS (k % 26)] := by
  unfold cand
  rw [cps_app, cps_app, cut6, List.append_assoc]
  rfl
theorem nameB_iff (x : Str) : nameB x = true ↔ (1 ≤ x.cps.toList.length ∧ x.cps.toList.length ≤ 8) ∧ ∀ c ∈ x.cps.toList, c ∈ LET.cps.toList := by
  have e2 : x.length = x.cps.toList.length := by rw [Array.length_toList]; rfl
  unfold nameB
  rw [Bool.and_eq_true, decide_eq_true_eq, e2, List.all_eq_true]
  simp only [decide_eq_true_eq]
theorem cand_name {b : Str} (hb : nameB b = true) {k : Nat} (hk : k < 676) : nameB (cand b k) = true := by
  rw [nameB_iff] at hb ⊢
  obtain ⟨⟨h1, h2⟩, h3⟩ := hb
  rw [cand_cps]
  refine ⟨⟨by simp, by rw [List.length_append, List.length_take]; simp; omega⟩, fun c hc => ?_⟩
  rcases List.mem_append.mp hc with h | h
  · exact h3 c (List.mem_of_mem_take h)
  · rcases List.mem_cons.mp h with e | h
    · rw [e]; exact letS_in _ (by omega)
    · rcases List.mem_cons.mp h with e | h
      · rw [e]; exact letS_in _ (by omega)
      · cases h
theorem cand_inj {b : Str} {k j : Nat} (hk : k < 676) (hj : j < 676) (e : cand b k = cand b j) : k = j := by
  have e := congrArg (fun x : Str => x.cps.toList) e
  simp only [cand_cps] at e
  have e := List.append_cancel_left e
  have h1 : letS (k / 26) = letS (j / 26) := by injection e
  have h2 : letS (k % 26) = letS (j % 26) := by injection e with _ e; injection e
  have a1 := letS_inj _ (by omega) _ (by omega) h1
  have a2 := letS_inj _ (by omega) _ (by omega) h2
  omega
theorem nodup_le {α : Type} [DecidableEq α] : ∀ (l m : List α), l.Nodup → (∀ x ∈ l, x ∈ m) → l.length ≤ m.length
  | [], _, _, _ => Nat.zero_le _
  | x :: l, m, hn, hs => by
    obtain ⟨hx, hn⟩ := List.nodup_cons.mp hn
    have hm : x ∈ m := hs x List.mem_cons_self
    have h := nodup_le l (m.erase x) hn fun y hy => (List.mem_erase_of_ne fun e => hx (by rw [← e]; exact hy)).mpr (hs y (List.mem_cons_of_mem _ hy))
    rw [List.length_erase_of_mem hm] at h
    have : 0 < m.length := List.length_pos_of_mem hm
    rw [List.length_cons]
    omega
theorem cand_free {b : Str} (used : List Str) (hu : used.length ≤ 600) : ∃ k, k < 676 ∧ cand b k ∉ used ∧ cand b k ≠ Rt := by
  apply Classical.byContradiction
  intro hno
  have hall : ∀ x ∈ (List.range 676).map (cand b), x ∈ Rt :: used := fun x hx => by
    obtain ⟨k, hk, rfl⟩ := List.mem_map.mp hx
    apply Classical.byContradiction
    intro h
    exact hno ⟨k, List.mem_range.mp hk, fun h' => h (List.mem_cons_of_mem _ h'), fun h' => h (by rw [h']; exact List.mem_cons_self)⟩
  have hnd : ((List.range 676).map (cand b)).Nodup := by
    refine List.Pairwise.map _ (R := fun a b => a < 676 ∧ b < 676 ∧ a ≠ b) (fun a c h e => h.2.2 (cand_inj h.1 h.2.1 e)) ?_
    exact List.Pairwise.imp_of_mem (fun {a c} ha hc h => ⟨List.mem_range.mp ha, List.mem_range.mp hc, h⟩) List.nodup_range
  have := nodup_le _ _ hnd hall
  rw [List.length_map, List.length_range, List.length_cons] at this
  omega
/-- what a name is chosen from -/
def freshL (b : Str) (used : List Str) : List Str := (b :: (List.range 676).map (cand b)).filter fun x => !decide (x ∈ used) && !decide (x = Rt)
theorem freshL_head {b : Str} {used : List Str} (hb : nameB b = true) (hu : used.length ≤ 600) : ∃ x t, freshL b used = x :: t ∧ nameB x = true ∧ x ∉ used ∧ x ≠ Rt := by
  have ok : ∀ x ∈ freshL b used, nameB x = true ∧ x ∉ used ∧ x ≠ Rt := fun x hx => by
    obtain ⟨h1, h2⟩ := List.mem_filter.mp hx
    rw [Bool.and_eq_true] at h2
    refine ⟨?_, of_decide_eq_false (by simpa using h2.1), of_decide_eq_false (by simpa using h2.2)⟩
    rcases List.mem_cons.mp h1 with e | h1
    · rw [e]; exact hb
    · obtain ⟨k, hk, rfl⟩ := List.mem_map.mp h1
      exact cand_name hb (List.mem_range.mp hk)
  obtain ⟨k, hk, h1, h2⟩ := cand_free (b := b) used hu
  have hm : cand b k ∈ freshL b used := List.mem_filter.mpr ⟨List.mem_cons_of_mem _ (List.mem_map_of_mem (List.mem_range.mpr hk)), by simp [h1, h2]⟩
  cases e : freshL b used with
  | nil => rw [e] at hm; cases hm
  | cons x t => exact ⟨x, t, rfl, ok x (by rw [e]; exact List.mem_cons_self)⟩
theorem join_sg (cs : List Nat) : Txt.join "" (cs.map sg) = ⟨cs.toArray⟩ := by
  rw [TL.join_eq]
  have h := join_nil_signs (⟨cs.toArray⟩ : Str)
  exact h
def WORDS : List Str := ["node", "limit", "grant", "height", "allow", "deny", "start", "rule"]
theorem words_name : ∀ x ∈ WORDS, nameB x = true := by decide +kernel
end MG
/-! text LC -/
set_option Elab.async false
set_option linter.all false
set_option maxRecDepth 100000
set_option maxHeartbeats 4200000
/-! the law's names -/
namespace MG
open PySem PySem.Spec PyProof.Rows L2
theorem RS.at {r b : Addr} {H H' : Hp} {o : HO} (a : RS r H H') (h : H b = some o) (hb : b ≠ r) : H' b = some o := a.sv b o hb h
def spNameL : Sp := fun vs H Q _ => ∃ (r u : Addr) (used : List Str), vs = [.ref r, .ref u] ∧ Rng r H ∧ u ≠ r ∧ H u = some (.lst (used.map V.str)) ∧ used.length ≤ 600 ∧ ∀ (x : Str) (H' : Hp), RS r H H' → nameB x = true → x ∉ used → x ≠ Rt → Q (.str x) H'
theorem sg_sum : ∀ cs : List Nat, ((cs.map sg).map (·.length)).sum = cs.length
  | [] => rfl
  | c :: cs => by rw [List.map_cons, List.map_cons, List.sum_cons, sg_sum cs, List.length_cons]; show 1 + _ = _; omega
/-- the filter's turn -/
theorem fil_yes {p : Str → Bool} {l : List Str} {i : Nat} {z : Str} (h : l[i]? = some z) (hp : p z = true) : ((l.take (i + 1)).filter p).map V.str = ((l.take i).filter p).map V.str ++ [V.str z] := by
  rw [List.take_add_one, h, List.filter_append, List.map_append]
  simp [hp]
theorem fil_no {p : Str → Bool} {l : List Str} {i : Nat} {z : Str} (h : l[i]? = some z) (hp : p z = false) : ((l.take (i + 1)).filter p).map V.str = ((l.take i).filter p).map V.str := by
  rw [List.take_add_one, h, List.filter_append, List.map_append]
  simp [hp]
theorem pv_int {xs : List V} {d : Nat} (h : d < xs.length) : ∃ v, xs[d]? = some v := ⟨_, List.getElem?_eq_getElem h⟩
section
variable {P : Program} {w : World} {K : PySem.W.Frag} {mg : Str → Option Value} {base : Heap} {C U : Addr}
theorem sc_s_name : FnScope ["_law_rng_here", "_law_used", "_law_letters", "_law_length", "_law_name_here", "_law_k", "_law_fresh", "_law_one"] ["_law_rng_here", "_law_used"] (defScope s_name) := ⟨rfl, rfl, rfl, by decide +kernel, rfl, by decide +kernel, by decide +kernel⟩
theorem ok_name {f : Addr} {fd : FuncData} (T : Txt K mg C) (F : Fun K "_law_name" "_law_name" s_name f fd) (hm : mg "_law_name" = some (.ref f)) (c__law_draw : Cal P w K mg base 1 "_law_draw" spDraw) : Cal P w K mg base 2 "_law_name" spNameL := by
  refine ⟨f, fd, ["_law_rng_here", "_law_used"], ?_, hm, F.kp, F.binds (ps := ["_law_rng_here", "_law_used"]) fun _ _ _ _ _ _ us hl => match us, hl with | [_, _], _ => rfl⟩
  refine F.okX sc_s_name (fun vs H Q E h => ?_) (fun cdv A outer s H vs Q E hr h => ?_)
  · obtain ⟨r, u, used, rfl, _⟩ := h
    rfl
  · obtain ⟨r, u, used, rfl, hR, hur, hu, hus, q⟩ := h
    refine ⟨_, PSs.nox (pss_cons (ps_set (i := 2) sc_s_name.nd rfl (Or.inr rfl) pe_str)
    (pss_cons (ps_set (i := 3) sc_s_name.nd rfl (Or.inl rfl) (pe_ix ix_list (pe_lst (pa_cons pe_int (pa_cons pe_int (pa_cons pe_int (pa_cons (pe_op op_add pe_int (pe_cl c__law_draw hr (by decide) (by rfl) (pa_cons (pv 0) (pa_cons pe_int pa_nil)))) pa_nil))))) (pe_cl c__law_draw hr (by decide) (by rfl) (pa_cons (pv 0) (pa_cons pe_int pa_nil))) (fun _ _ => rfl)))
    (pss_cons (ps_set (i := 4) sc_s_name.nd rfl (Or.inr rfl) (pe_join pe_str (pe_lc (own := [("_law_k", 5)]) (g := gName 5) (tt := tYes) rfl sc_s_name.nd (pi_range1 (by rfl) T.g_range (pa_cons (pv 3) pa_nil)) (blkOk_by (own := [("_law_k", 5)]) (N := ["_law_rng_here", "_law_used", "_law_letters", "_law_length", "_law_name_here", "_law_k", "_law_fresh", "_law_one"]) (sc := defScope s_name) (by decide +kernel)) (fun _ _ _ _ _ => pg_name (i := 5) sc_s_name.nd rfl (Or.inl rfl)) (fun _ _ _ _ _ => pts_nil) (fun _ _ _ _ _ => (pe_ix ix_str (pv 2) (pe_cl c__law_draw hr (by decide) (by rfl) (pa_cons (pv 0) (pa_cons pe_int pa_nil))) (fun _ _ => rfl))))))
    (pss_cons (ps_if (pt_cmpR op_eq (pe_cl c__law_draw hr (by decide) (by rfl) (pa_cons (pv 0) (pa_cons pe_int pa_nil))) pe_int (nomark _)) (pss_one (ps_set (i := 4) sc_s_name.nd rfl (Or.inr rfl) (pe_ix ix_list (pe_lst (pa_cons pe_str (pa_cons pe_str (pa_cons pe_str (pa_cons pe_str (pa_cons pe_str (pa_cons pe_str (pa_cons pe_str (pa_cons pe_str pa_nil))))))))) (pe_cl c__law_draw hr (by decide) (by rfl) (pa_cons (pv 0) (pa_cons pe_int pa_nil))) (fun _ _ => rfl)))) pss_nil)
    (pss_cons (ps_set (i := 6) sc_s_name.nd rfl (Or.inl rfl) (pe_op op_cat (pe_lst (pa_cons (pv 4) pa_nil)) (pe_lc (own := [("_law_k", 5)]) (g := gName 5) (tt := tYes) rfl sc_s_name.nd (pi_range1 (by rfl) T.g_range (pa_cons pe_int pa_nil)) (blkOk_by (own := [("_law_k", 5)]) (N := ["_law_rng_here", "_law_used", "_law_letters", "_law_length", "_law_name_here", "_law_k", "_law_fresh", "_law_one"]) (sc := defScope s_name) (by decide +kernel)) (fun _ _ _ _ _ => pg_name (i := 5) sc_s_name.nd rfl (Or.inl rfl)) (fun _ _ _ _ _ => pts_nil) (fun _ _ _ _ _ => (pe_op op_add_str (pe_op op_add_str (pe_slice sl_str (pv 4) po_none (po_some pe_int)) (pe_ix ix_str (pv 2) (pe_op op_fdiv (pv 5) pe_int) (fun _ _ => rfl))) (pe_ix ix_str (pv 2) (pe_op op_mod (pv 5) pe_int) (fun _ _ => rfl)))))))
    (pss_one (ps_ret (pe_ix ix_list (pe_lc (own := [("_law_one", 7)]) (g := gName 7) (tt := _) rfl sc_s_name.nd (pi_list (pv 6)) (blkOk_by (own := [("_law_one", 7)]) (N := ["_law_rng_here", "_law_used", "_law_letters", "_law_length", "_law_name_here", "_law_k", "_law_fresh", "_law_one"]) (sc := defScope s_name) (by decide +kernel)) (fun _ _ _ _ _ => pg_name (i := 7) sc_s_name.nd rfl (Or.inl rfl)) (fun _ _ _ _ _ => (pts_one (PW.pt (pw_and (pt_cmpR (op_notIn_seqK (K := K) rfl) (pv 7) (pv 1) (by rfl)) (pw_and1 (pt_cmpR op_ne (pv 7) pe_str (nomark _))))))) (fun _ _ _ _ _ => (pv 7))) pe_int (fun _ _ => rfl))))))))), ?_⟩
    refine ⟨_, rfl, r, 8, rfl, hR, by decide, by decide, fun d1 H1 s1 hd1 => ⟨_, _, rfl, rfl, by show 4 ≤ sizeLine; decide, fun l1 hl1 => ?_⟩⟩
    have s2 := s1.trans (RS.new (o := .lst [.int 1, .int 1, .int 2, .int (1 + (d1 : Int))]) s1.rg hl1)
    refine ⟨_, rfl, r, 4, rfl, s2.rg, by decide, by decide, fun d2 H2 s3 hd2 => ?_⟩
    have hl1r : l1 ≠ r := fun e => s1.rg.ne (e ▸ hl1)
    have hL : H2 l1 = some (.lst [.int 1, .int 1, .int 2, .int (1 + (d1 : Int))]) := s3.at upd_same hl1r
    obtain ⟨n, hn, hn1, hn8⟩ : ∃ n : Nat, ([V.int 1, .int 1, .int 2, .int (1 + (d1 : Int))] : List V)[d2]? = some (.int n) ∧ 1 ≤ n ∧ n ≤ 8 := by
      match d2, hd2 with
      | 0, _ => exact ⟨1, rfl, by decide, by decide⟩
      | 1, _ => exact ⟨1, rfl, by decide, by decide⟩
      | 2, _ => exact ⟨2, rfl, by decide, by decide⟩
      | 3, _ => exact ⟨1 + d1, by show some (V.int (1 + (d1 : Int))) = _; rw [Int.natCast_add]; rfl, by omega, by omega⟩
    have s4 := s2.trans s3
    clear s1 s2
    refine ⟨l1, _, d2, _, rfl, rfl, SqL.of hL, atI_nat hn, ?_⟩
    refine ⟨⟨_, rfl⟩, _, rfl, n, rfl, by omega, by omega, fun D hD => lc_it walk_range (fun i H' => ∃ cs : List Nat, cs.length = i ∧ (∀ c ∈ cs, c ∈ LET.cps.toList) ∧ H' D = some (.lst ((cs.map sg).map V.str)) ∧ RS r H2 H') ⟨[], rfl, fun _ h => by simp at h, upd_same, RS.new s4.rg hD⟩ (fun _ _ _ _ => trivial) ?_ ?_⟩
    · rintro i x H3 H4 hi ⟨cs, hcl, hcs, hD3, s5⟩ ⟨rfl, rfl⟩
      have hDr : D ≠ r := fun e => s4.rg.ne (e ▸ hD)
      refine ⟨rfl, _, rfl, _, rfl, r, 26, rfl, s5.rg, by decide, by decide, fun d H5 s6 hd => ?_⟩
      refine ⟨LET, d, letS d, rfl, rfl, by rw [sz]; decide, atI_nat (letS_at d hd), (cs.map sg).map V.str, s6.at hD3 hDr, ?_, cs ++ [letS d], by rw [List.length_append, hcl]; rfl, fun c hc => ?_, ?_, ?_⟩
      · rw [List.length_map, List.length_map, hcl, sz]; omega
      · rcases List.mem_append.mp hc with h | h
        · exact hcs c h
        · rcases List.mem_cons.mp h with e | h
          · rw [e]; exact letS_in _ hd
          · cases h
      · rw [upd_same, List.map_append, List.map_append]; rfl
      · exact (s5.trans s6).mut hD hDr
    · rintro H3 ⟨cs, hcl, hcs, hD3, s5⟩
      have hcl : cs.length = n := by rw [hcl, Int.toNat_natCast]
      have hsum := sg_sum cs
      refine ⟨_, D, cs.map sg, rfl, rfl, .inl (SqL.of hD3), by rw [hsum]; show cs.length + _ * 0 ≤ _; omega, ?_⟩
      rw [join_sg]
      have hb0 : nameB (⟨cs.toArray⟩ : Str) = true := (nameB_iff _).mpr ⟨⟨by show 1 ≤ cs.length; omega, by show cs.length ≤ 8; omega⟩, hcs⟩
      generalize (⟨cs.toArray⟩ : Str) = b0 at hb0
      clear hsum hcs hD3
      have s6 := s4.trans s5
      clear s4 s5
      refine ⟨_, rfl, r, 8, rfl, s6.rg, by decide, by decide, fun d3 H4 s7 hd3 => ⟨rfl, _, rfl, ?_⟩⟩
      have s8 := s6.trans s7
      refine iteD (fun _ => ?_) (fun _ => ?_)
      · refine ⟨by show 8 ≤ sizeLine; decide, fun l3 hl3 => ?_⟩
        have s9 := s8.trans (RS.new (o := .lst (WORDS.map V.str)) s8.rg hl3)
        refine ⟨_, rfl, r, 8, rfl, s9.rg, by decide, by decide, fun d4 H5 s10 hd4 => ?_⟩
        have hl3r : l3 ≠ r := fun e => s8.rg.ne (e ▸ hl3)
        obtain ⟨b1, hb1⟩ : ∃ b1, WORDS[d4]? = some b1 := ⟨_, List.getElem?_eq_getElem (show d4 < WORDS.length from hd4)⟩
        have hbn := words_name b1 (List.mem_of_getElem? hb1)
        have s11 := s9.trans s10
        refine ⟨l3, _, d4, .str b1, rfl, rfl, SqL.of (s10.at upd_same hl3r), atI_nat (show (WORDS.map V.str)[d4]? = _ by rw [List.getElem?_map, hb1]; rfl), ?_⟩
        refine ⟨_, rfl, by show 1 ≤ sizeLine; decide, fun l2 hl2 => ?_⟩
        have t1 := s11.trans (RS.new (o := .lst [.str b1]) s11.rg hl2)
        refine ⟨676, rfl, by decide, by decide, fun D2 hD2 => lc_each walk_range hD2 (fun i => ((List.range i).map (cand b1)).map V.str) rfl (fun i hi => by rw [List.length_map, List.length_map, List.length_range, sz]; have : i < 676 := hi; omega) (fun _ _ => trivial) ?_ ?_⟩
        · rintro i x Ha Hb Kt hi sab ⟨rfl, rfl⟩ kt
          have hi : i < 676 := hi
          have d1 : ((0 : Int) + (i : Int)) / 26 = ((i / 26 : Nat) : Int) := by omega
          have d2 : ((0 : Int) + (i : Int)) % 26 = ((i % 26 : Nat) : Int) := by omega
          have hbl := nameB_len hbn
          have hcl := cutS_length b1 none (some 6)
          refine ⟨rfl, _, rfl, _, rfl, _, rfl, by rw [sz]; omega, _, rfl, _, rfl, _, _, rfl, rfl, ⟨by decide, by decide⟩, LET, _, letS (i / 26), rfl, rfl, by rw [sz]; decide, by rw [d1]; exact atI_nat (letS_at _ (by omega)), _, _, rfl, rfl, by show (cutS b1 none (some 6)).length + 1 ≤ sizeLine; rw [sz]; omega, ?_⟩
          refine ⟨_, rfl, _, rfl, _, _, rfl, rfl, (by show (0 : Int) < 26; decide), LET, _, letS (i % 26), rfl, rfl, by rw [sz]; decide, by rw [d2]; exact atI_nat (letS_at _ (by omega)), _, _, rfl, rfl, ?_, kt _ _ (Same.refl _) ?_⟩
          · rw [Str.length_append]; show (cutS b1 none (some 6)).length + 1 + 1 ≤ sizeLine; rw [sz]; omega
          · rw [List.range_succ, List.map_append, List.map_append]; rfl
        · intro H7 s77 hD7
          have t2 := t1.trans (RS.of s77 t1.rg)
          refine ⟨l2, D2, [.str b1], _, rfl, rfl, s77 _ _ upd_same, hD7, by rw [List.length_map, List.length_map, sz]; show 1 + (List.range 676).length ≤ _; rw [List.length_range]; omega, fun p hp => ?_⟩
          have t3 := t2.trans (RS.new (o := .lst ((b1 :: (List.range 676).map (cand b1)).map V.str)) t2.rg hp)
          have hu3 := t3.at hu hur
          refine ⟨_, rfl, p, rfl, ⟨_, SqL.of upd_same⟩, fun D3 hD3 => lc_pure (walk_list (xs := (b1 :: (List.range 676).map (cand b1)).map V.str)) hD3 (fun i => (((b1 :: (List.range 676).map (cand b1)).take i).filter fun x => !decide (x ∈ used) && !decide (x = Rt)).map V.str) rfl (fun i hi => ?_) (fun H' s => SqL.of (s _ _ upd_same)) ?_ ?_⟩
          · have h1 := List.length_filter_le (fun x => !decide (x ∈ used) && !decide (x = Rt)) ((b1 :: (List.range 676).map (cand b1)).take i)
            rw [List.length_take, List.length_cons, List.length_map, List.length_range] at h1
            rw [List.length_map, sz]; omega
          · rintro i x Ha Hb Kt Kf hi sab ⟨rfl, hv⟩ k1 k2
            rw [List.getElem?_map] at hv
            obtain ⟨z, hz, rfl⟩ := Option.map_eq_some_iff.mp hv
            refine ⟨rfl, _, rfl, _, rfl, u, _, rfl, .inl (SqL.of (sab _ _ hu3)), rfl, flat_strs _, _, rfl, ?_⟩
            show if (!inV (V.str z) (used.map V.str)) = true then _ else _
            rw [in_strs]
            refine iteND (fun h1 => ?_) (fun h1 => iteF (k2 _ (Same.refl _) (fil_no hz (by simp [h1]))))
            exact ⟨_, rfl, rfl, _, rfl, iteND (fun h2 => ⟨_, rfl, k1 _ _ (Same.refl _) (fil_yes hz (by simp [h1, show z ≠ Rt from fun e => h2 (by rw [e])]))⟩) fun h2 => k2 _ (Same.refl _) (fil_no hz (by simp [show z = Rt from V.str.inj h2]))⟩
          · intro H8 s88 hD8
            rw [List.length_map, List.take_of_length_le (Nat.le_refl _)] at hD8
            obtain ⟨x, tl, e, x1, x2, x3⟩ := freshL_head (b := b1) hbn hus
            have hD8 : H8 D3 = some (.lst ((x :: tl).map V.str)) := by rw [← e]; exact hD8
            exact ⟨D3, _, 0, .str x, rfl, rfl, SqL.of hD8, atI_nat (j := 0) rfl, q x H8 (t3.trans (RS.of s88 t3.rg)) x1 x2 x3⟩
      · refine ⟨_, rfl, by show 1 ≤ sizeLine; decide, fun l2 hl2 => ?_⟩
        have t1 := s8.trans (RS.new (o := .lst [.str b0]) s8.rg hl2)
        refine ⟨676, rfl, by decide, by decide, fun D2 hD2 => lc_each walk_range hD2 (fun i => ((List.range i).map (cand b0)).map V.str) rfl (fun i hi => by rw [List.length_map, List.length_map, List.length_range, sz]; have : i < 676 := hi; omega) (fun _ _ => trivial) ?_ ?_⟩
        · rintro i x Ha Hb Kt hi sab ⟨rfl, rfl⟩ kt
          have hi : i < 676 := hi
          have d1 : ((0 : Int) + (i : Int)) / 26 = ((i / 26 : Nat) : Int) := by omega
          have d2 : ((0 : Int) + (i : Int)) % 26 = ((i % 26 : Nat) : Int) := by omega
          have hbl := nameB_len hb0
          have hcl := cutS_length b0 none (some 6)
          refine ⟨rfl, _, rfl, _, rfl, _, rfl, by rw [sz]; omega, _, rfl, _, rfl, _, _, rfl, rfl, ⟨by decide, by decide⟩, LET, _, letS (i / 26), rfl, rfl, by rw [sz]; decide, by rw [d1]; exact atI_nat (letS_at _ (by omega)), _, _, rfl, rfl, by show (cutS b0 none (some 6)).length + 1 ≤ sizeLine; rw [sz]; omega, ?_⟩
          refine ⟨_, rfl, _, rfl, _, _, rfl, rfl, (by show (0 : Int) < 26; decide), LET, _, letS (i % 26), rfl, rfl, by rw [sz]; decide, by rw [d2]; exact atI_nat (letS_at _ (by omega)), _, _, rfl, rfl, ?_, kt _ _ (Same.refl _) ?_⟩
          · rw [Str.length_append]; show (cutS b0 none (some 6)).length + 1 + 1 ≤ sizeLine; rw [sz]; omega
          · rw [List.range_succ, List.map_append, List.map_append]; rfl
        · intro H7 s77 hD7
          have t2 := t1.trans (RS.of s77 t1.rg)
          refine ⟨l2, D2, [.str b0], _, rfl, rfl, s77 _ _ upd_same, hD7, by rw [List.length_map, List.length_map, sz]; show 1 + (List.range 676).length ≤ _; rw [List.length_range]; omega, fun p hp => ?_⟩
          have t3 := t2.trans (RS.new (o := .lst ((b0 :: (List.range 676).map (cand b0)).map V.str)) t2.rg hp)
          have hu3 := t3.at hu hur
          refine ⟨_, rfl, p, rfl, ⟨_, SqL.of upd_same⟩, fun D3 hD3 => lc_pure (walk_list (xs := (b0 :: (List.range 676).map (cand b0)).map V.str)) hD3 (fun i => (((b0 :: (List.range 676).map (cand b0)).take i).filter fun x => !decide (x ∈ used) && !decide (x = Rt)).map V.str) rfl (fun i hi => ?_) (fun H' s => SqL.of (s _ _ upd_same)) ?_ ?_⟩
          · have h1 := List.length_filter_le (fun x => !decide (x ∈ used) && !decide (x = Rt)) ((b0 :: (List.range 676).map (cand b0)).take i)
            rw [List.length_take, List.length_cons, List.length_map, List.length_range] at h1
            rw [List.length_map, sz]; omega
          · rintro i x Ha Hb Kt Kf hi sab ⟨rfl, hv⟩ k1 k2
            rw [List.getElem?_map] at hv
            obtain ⟨z, hz, rfl⟩ := Option.map_eq_some_iff.mp hv
            refine ⟨rfl, _, rfl, _, rfl, u, _, rfl, .inl (SqL.of (sab _ _ hu3)), rfl, flat_strs _, _, rfl, ?_⟩
            show if (!inV (V.str z) (used.map V.str)) = true then _ else _
            rw [in_strs]
            refine iteND (fun h1 => ?_) (fun h1 => iteF (k2 _ (Same.refl _) (fil_no hz (by simp [h1]))))
            exact ⟨_, rfl, rfl, _, rfl, iteND (fun h2 => ⟨_, rfl, k1 _ _ (Same.refl _) (fil_yes hz (by simp [h1, show z ≠ Rt from fun e => h2 (by rw [e])]))⟩) fun h2 => k2 _ (Same.refl _) (fil_no hz (by simp [show z = Rt from V.str.inj h2]))⟩
          · intro H8 s88 hD8
            rw [List.length_map, List.take_of_length_le (Nat.le_refl _)] at hD8
            obtain ⟨x, tl, e, x1, x2, x3⟩ := freshL_head (b := b0) hb0 hus
            have hD8 : H8 D3 = some (.lst ((x :: tl).map V.str)) := by rw [← e]; exact hD8
            exact ⟨D3, _, 0, .str x, rfl, rfl, SqL.of hD8, atI_nat (j := 0) rfl, q x H8 (t3.trans (RS.of s88 t3.rg)) x1 x2 x3⟩
theorem sc_s_names : FnScope ["_law_rng_here", "_law_many", "_law_used", "_law_found", "_law_k"] ["_law_rng_here", "_law_many", "_law_used"] (defScope s_names) := ⟨rfl, rfl, rfl, by decide +kernel, rfl, by decide +kernel, by decide +kernel⟩
def spNames : Sp := fun vs H Q _ => ∃ (r u : Addr) (m : Nat), vs = [.ref r, .int m, .ref u] ∧ Rng r H ∧ u ≠ r ∧ H u = some (.lst []) ∧ m ≤ 40 ∧ ∀ (p : Addr) (ns : List Str) (H' : Hp), H p = none → RS r H H' → H' p = some (.lst (ns.map V.str)) → ns.length = m → ns.Nodup → (∀ x ∈ ns, nameB x = true ∧ x ≠ Rt) → Q (.ref p) H'
theorem ok_names {f : Addr} {fd : FuncData} (T : Txt K mg C) (F : Fun K "_law_names" "_law_names" s_names f fd) (hm : mg "_law_names" = some (.ref f)) (c__law_name : Cal P w K mg base 2 "_law_name" spNameL) : Cal P w K mg base 3 "_law_names" spNames := by
  refine ⟨f, fd, ["_law_rng_here", "_law_many", "_law_used"], ?_, hm, F.kp, F.binds (ps := ["_law_rng_here", "_law_many", "_law_used"]) fun _ _ _ _ _ _ us hl => match us, hl with | [_, _, _], _ => rfl⟩
  refine F.okX sc_s_names (fun vs H Q E h => ?_) (fun cdv A outer s H vs Q E hr h => ?_)
  · obtain ⟨r, u, m, rfl, _⟩ := h
    rfl
  · obtain ⟨r, u, m, rfl, hR, hur, hu, hm0, q⟩ := h
    refine ⟨_, PSs.nox (pss_cons (ps_set (i := 3) sc_s_names.nd rfl (Or.inl rfl) (pe_lst pa_nil))
    (pss_cons (ps_for PassesOwn.never rfl (pi_range1 (by rfl) T.g_range (pa_cons (pv 1) pa_nil)) (pg_name (i := 4) sc_s_names.nd rfl (Or.inl rfl))
    (pss_one (ps_expr (pe_bm PySem.F.plainAttrs_list PySem.F.slot_list_append PySem.F.type_list_append mt_append (pv 3) (pa_cons (pe_cl c__law_name hr (by decide) (by rfl) (pa_cons (pv 0) (pa_cons (pe_op op_cat (pv 2) (pv 3)) pa_nil))) pa_nil)))))
    (pss_one (ps_ret (pv 3))))), ?_⟩
    refine ⟨by show 0 ≤ sizeLine; decide, fun l hl => ?_⟩
    have hlr : l ≠ r := fun e => hR.ne (e ▸ hl)
    refine ⟨_, rfl, _, rfl, by omega, by omega, for_it walk_range (fun i σ H' => ∃ (vk : Option V) (ns : List Str), σ = [some (.ref r), some (.int m), some (.ref u), some (.ref l), vk] ∧ H' l = some (.lst (ns.map V.str)) ∧ ns.length = i ∧ ns.Nodup ∧ (∀ x ∈ ns, nameB x = true ∧ x ≠ Rt) ∧ RS r H H')
      ⟨none, [], rfl, upd_same, rfl, List.nodup_nil, fun x h => by simp at h, RS.new hR hl⟩ (fun _ _ _ _ _ => trivial) ?_ ?_⟩
    · rintro i x σ H1 H2 hi ⟨vk, ns, rfl, hl1, hlen, hnd, hns, s1⟩ ⟨rfl, rfl⟩
      rw [Int.toNat_natCast] at hi
      refine ⟨_, rfl, .inl ⟨rfl, _, SqL.of hl1⟩, _, rfl, _, rfl, _, rfl, u, l, [], ns.map V.str, rfl, rfl, s1.at hu hur, hl1, by rw [List.length_map, sz]; show 0 + _ ≤ _; omega, fun p hp => ?_⟩
      have hpr : p ≠ r := fun e => s1.rg.ne (e ▸ hp)
      refine ⟨r, p, ns, rfl, (RS.new s1.rg hp).rg, hpr, upd_same, by omega, fun x H3 s3 x1 x2 x3 => ?_⟩
      have s4 := (RS.new (o := .lst ([] ++ ns.map V.str)) s1.rg hp).trans s3
      refine ⟨l, _, _, rfl, rfl, s4.at hl1 hlr, by rw [List.length_map, sz]; omega, _, ns ++ [x], rfl, by rw [upd_same, List.map_append]; rfl, by rw [List.length_append, hlen]; rfl, ?_, ?_, (s1.trans s4).mut hl hlr⟩
      · exact List.nodup_append.mpr ⟨hnd, by simp, fun a ha b hb e => x2 (by rw [List.mem_singleton.mp hb] at e; rw [← e]; exact ha)⟩
      · intro y hy
        rcases List.mem_append.mp hy with h | h
        · exact hns y h
        · rw [List.mem_singleton.mp h]; exact ⟨x1, x3⟩
    · rintro σ H1 ⟨vk, ns, rfl, hl1, hlen, hnd, hns, s1⟩
      exact ⟨_, rfl, q l ns H1 hl s1 hl1 (by rw [hlen, Int.toNat_natCast]) hnd hns⟩
end
end MG
/-! text LE -/
set_option Elab.async false
set_option linter.all false
set_option maxRecDepth 100000
set_option maxHeartbeats 4200000
/-! list(d.values()) -/
namespace MG
open PySem PySem.Spec PyProof.Rows L2
theorem vals_items {κ : Type} {kvs : List (κ × V)} {vs : List (κ × Value)} (kv : KV kvs vs) : ∀ its : List Value, its.length = vs.length → (∀ (j : Nat) (u : Value), its[j]? = some u → ∃ k, vs[j]? = some (k, u)) → Vals (kvs.map (·.2)) its := by
  unfold KV at kv
  induction kv with
  | nil =>
    intro its e _
    rw [List.eq_nil_of_length_eq_zero e]
    exact .nil
  | cons h _ ih =>
    rintro (_ | ⟨u, its⟩) e at_
    · cases e
    · obtain ⟨k, z⟩ := at_ 0 u rfl
      cases z
      exact .cons h.2 (ih its (Nat.succ.inj e) fun j w q => at_ (j + 1) w q)
section
variable {X : Cx} {o : Expr} {td : TE} {apos cpos pos p : Pos}
def tListVals (td : TE) : TE := fun σ H Q => td σ H fun x H1 => ∃ d kvs, x = .ref d ∧ H1 d = some (.dK kvs) ∧ ∀ q, H1 q = none → Q (.ref q) (upd H1 q (.lst (kvs.map (·.2))))
theorem pe_listVals (calm : X.calm = true) (gl : Gl X "list") (free : X.mg "list" = none) (he : PE X o td) (base : attributeBase o "values" X.env (eval o X.env) = eval o X.env := by rfl) (one : (apos.endLine == cpos.line) = true := by rfl)
    (row : Row1 X (.Call (.Attribute o "values" apos) [] [] cpos) [] := by rfl) : PE X (.Call (.Name "list" p) [.Call (.Attribute o "values" apos) [] [] cpos] [] pos) (tListVals td) := by
  constructor
  intro pins s σ H Q I h
  refine wpAny_Call_Name_kw (ld_blt I gl free bt_list (PyProof.Rows.callWith_type1 ?_ row rfl) (by decide) (by decide))
  rw [row]
  refine Calls.spliced_cons (x := eval (.Call (.Attribute o "values" apos) [] [] cpos) X.env) (rest := backTo pos (starEach [] X.env)) ?_
  refine (wpAny_Call_method (T := "dict") (id := "dict.values") base rfl one PySem.F.plainAttrs_dict PySem.F.slot_dict_values PySem.F.type_dict_values (thn (he.run pins s σ H _ I h) fun u s1 z => ?_))
  obtain ⟨x, H1, I1, rx, d, kvs, rfl, at_, q⟩ := z
  cases rx
  obtain ⟨few, notSys, vs, kv, dic⟩ := dk_of I1.hok at_
  obtain ⟨ep, hat⟩ := dic.dictAt
  have many : kvs.length = vs.length := Paired.length kv
  refine ⟨hat.dictOf.typeIs, hat.dictOf.mapOf.noDict, method_meetsIn PySem.F.slot_dict_values PySem.F.entry_dict_values rfl (PySem.evalArgs_none ⟨rfl, hat.dictOf.typeIs, PySem.F.args_dict_values_1 _, _, meets_dict_values (mixKind X.prog X.w) d notSys, ⟨vs, hat.dictOf⟩, Calls.spliced_nil ?_⟩)⟩
  -- over the view, which is new
  have I2 := I1.kept (t' := s1.toks) (h' := s1.heap.push { cls := .type "dict_values", data := .fields #[.ref d] }) fun _ _ e => Heap.get?_push_of_some _ e
  refine PySem.W.kdl_call (PySem.W.kdl_values (knd := mixKind X.prog X.w) (kvs := vs) (ep := ep) (d := d)) (I1.ok.hd calm) ⟨⟨_, Heap.get?_push_size _ rfl, rfl, rfl⟩, hat.push _⟩ (Nat.le_trans (Nat.le_of_eq many.symm) few) fun h' tk its c keep new is => ?_
  have all : Vals (kvs.map (·.2)) its.toList := vals_items kv _ (by rw [Array.length_toList, is.1]) fun j u e => is.2 j u (by rw [← Array.getElem?_toList]; exact e)
  exact ⟨.ref _, upd H1 _ (.lst (kvs.map (·.2))), I2.laid keep (Nat.le_refl _) (show ObjOk X.prog X.w _ _ _ (HO.lst (kvs.map (·.2))) from ⟨(List.length_map _).symm ▸ few, its.toList, c, all, new⟩), rfl, q _ (I2.hok.fresh (Nat.le_refl _))⟩
theorem op_notInDK {K : PySem.W.Frag} (hK : X.K = K) (hu : X.A.units + 65 < cLine) : OpR X (compareOp .NotIn) (rNotInD K) := by subst hK; exact op_notInD hu
theorem op_inDK {K : PySem.W.Frag} (hK : X.K = K) (hu : X.A.units + 65 < cLine) : OpR X (compareOp .In) (rInD K) := by subst hK; exact op_inD hu
end
/-- a pair of texts as data -/
def pr2 (x y : Str) : PyData := .tuple [.str x, .str y]
theorem pr2_eqv (x y z u : Str) : PyData.eqv (pr2 x y) (pr2 z u) = decide (x = z ∧ y = u) := by
  have e1 : (x == z) = decide (x = z) := rfl
  have e2 : (y == u) = decide (y = u) := rfl
  unfold pr2
  rw [PyData.eqv, PyData.eqvAll, PyData.eqvAll, PyData.eqvAll, PyData.eqv, PyData.eqv, Bool.decide_and, Bool.and_true, e1, e2]
theorem pr2_dp {K : PySem.W.Frag} {H : Hp} {a : Addr} {x y : Str} (h : H a = some (.tup [.str x, .str y])) : Dp K H (.ref a) (pr2 x y) := .tup (SqT.of h) (.cons (.str _) (.cons (.str _) .nil))
theorem pr2_lay (x y : Str) (hx : PyData.strOk x = true) (hy : PyData.strOk y = true) : (pr2 x y).canLay0 = true := by simp [pr2, PyData.canLay0, PyData.canLayAll0, hx, hy]
theorem pr2_depth (x y : Str) : (pr2 x y).depth = 1 := by simp [pr2, PyData.depth, PyData.depthAll]
end MG
/-! text Math3 -/
set_option Elab.async false
set_option linter.all false
set_option maxRecDepth 100000
set_option maxHeartbeats 4200000
/-! the children in the order of their labels -/
namespace MG
open PySem PySem.Spec PyProof.Rows PySem.W
def encP (par lab : Str → Str) (n : Str) : PyData := .tuple [.tuple [.str (par n), .str (lab n)], .str n]
def encL (lab : Str → Str) (n : Str) : PyData := .tuple [.str (lab n), .str n]
theorem eqv_str (x y : Str) : PyData.eqv (.str x) (.str y) = decide (x = y) := by
  rw [PyData.eqv]
  by_cases h : x = y
  · subst h; simp
  · rw [decide_eq_false h]; exact beq_eq_false_iff_ne.mpr h
theorem alike_str (x y : Str) : alike (.str x) (.str y) = true := by simp [alike]
theorem alike_tup2 {a b c d : PyData} (h : alike a c = true) (h' : alike b d = true) : alike (.tuple [a, b]) (.tuple [c, d]) = true := by
  rw [alike, alikeAll, alikeAll, alikeAll, h, h']; rfl
theorem eqv_tup2 (a b c d : Str) : PyData.eqv (.tuple [.str a, .str b]) (.tuple [.str c, .str d]) = (decide (a = c) && decide (b = d)) := by
  rw [PyData.eqv, PyData.eqvAll, PyData.eqvAll, PyData.eqvAll, eqv_str, eqv_str, Bool.and_true]
theorem lt_encL (lab : Str → Str) (a b : Str) : dataLt (encL lab a) (encL lab b) = if lab a = lab b then (if a = b then false else dataLt (.str a) (.str b)) else dataLt (.str (lab a)) (.str (lab b)) := by
  unfold encL
  rw [dataLt_pair (alike_str _ _) (alike_str _ _), eqv_str, eqv_str]
  simp only [decide_eq_true_eq]
theorem lt_encP {par lab : Str → Str} {a b : Str} (h : par a = par b) : dataLt (encP par lab a) (encP par lab b) = dataLt (encL lab a) (encL lab b) := by
  rw [lt_encL]
  unfold encP
  rw [dataLt_pair (alike_tup2 (alike_str _ _) (alike_str _ _)) (alike_str _ _), eqv_tup2, eqv_str, dataLt_pair (alike_str _ _) (alike_str _ _), eqv_str, eqv_str, h]
  simp only [decide_true, Bool.true_and, decide_eq_true_eq, if_true]
  by_cases e : lab a = lab b
  · rw [if_pos e, if_pos e]
  · rw [if_neg e, if_neg e, if_neg e]
theorem str_tri {x y : Str} (h1 : dataLt (.str x) (.str y) = false) (h2 : dataLt (.str y) (.str x) = false) : x = y := by
  rw [dataLt_str] at h1 h2
  have a := List.not_lt.mp (of_decide_eq_false h1)
  have b := List.not_lt.mp (of_decide_eq_false h2)
  exact str_of_cps (List.le_antisymm b a)
theorem anti_encL {lab : Str → Str} {a b : Str} (h1 : dataLe false (encL lab) a b = true) (h2 : dataLe false (encL lab) b a = true) : a = b := by
  have h1 : dataLt (encL lab b) (encL lab a) = false := by simpa [dataLe_eq] using h1
  have h2 : dataLt (encL lab a) (encL lab b) = false := by simpa [dataLe_eq] using h2
  rw [lt_encL] at h1 h2
  by_cases e : lab a = lab b
  · rw [if_pos e.symm] at h1
    rw [if_pos e] at h2
    by_cases q : a = b
    · exact q
    · rw [if_neg q] at h2
      rw [if_neg fun z => q z.symm] at h1
      exact str_tri h2 h1
  · rw [if_neg fun z => e z.symm] at h1
    rw [if_neg e] at h2
    exact absurd (str_tri h2 h1) e
def sortP (ns : List Str) (par lab : Str → Str) : List Str := ns.mergeSort (dataLe false (encP par lab))
/-- the children, in the order of their labels -/
def chS (ns : List Str) (par lab : Str → Str) (p : Str) : List Str := (sortP ns par lab).filter fun q => decide (par q = p)
theorem sortP_perm (ns : List Str) (par lab : Str → Str) : (sortP ns par lab).Perm ns := List.mergeSort_perm _ _
theorem chS_kids {ns : List Str} (hnd : ns.Nodup) (par lab : Str → Str) : Kids ns par (chS ns par lab) := by
  refine ⟨fun p q => ?_, fun p => ?_⟩
  · unfold chS
    rw [List.mem_filter, (sortP_perm ns par lab).mem_iff, decide_eq_true_eq]
  · exact List.Nodup.sublist List.filter_sublist ((sortP_perm ns par lab).nodup_iff.mpr hnd)
/-- the law's own reading of them -/
theorem chS_law (ns : List Str) (par lab : Str → Str) (p : Str) : (ns.filter fun q => decide (par q = p)).mergeSort (dataLe false (encL lab)) = chS ns par lab p := by
  have t1 := sortLe_total (listOrd itemOrd) false fun b => keyToks (encL lab b)
  have t2 := sortLe_total (listOrd itemOrd) false fun b => keyToks (encP par lab b)
  refine List.Perm.eq_of_pairwise (le := fun a b => dataLe false (encL lab) a b = true) (fun a b _ _ h1 h2 => anti_encL h1 h2) (sort_pairwise t1 _) ?_ ?_
  · have h := sort_pairwise t2 ns
    have h2 : (chS ns par lab p).Pairwise fun a b => dataLe false (encP par lab) a b = true := List.Pairwise.sublist List.filter_sublist h
    refine List.Pairwise.imp_of_mem (fun {a b} ha hb q => ?_) h2
    have ea : par a = p := by unfold chS at ha; simpa using (List.mem_filter.mp ha).2
    have eb : par b = p := by unfold chS at hb; simpa using (List.mem_filter.mp hb).2
    have e := lt_encP (par := par) (lab := lab) (a := b) (b := a) (by rw [ea, eb])
    show (!dataLt (encL lab b) (encL lab a)) = true
    rw [← e]
    exact q
  · exact (List.mergeSort_perm _ _).trans ((sortP_perm ns par lab).symm.filter _)
theorem alike_encP (ns : List Str) (par lab : Str → Str) : AllAlike (ns.map (encP par lab)) := .of fun b b' => alike_tup2 (alike_tup2 (alike_str _ _) (alike_str _ _)) (alike_str _ _)
theorem alike_encL (ns : List Str) (lab : Str → Str) : AllAlike (ns.map (encL lab)) := .of fun b b' => alike_tup2 (alike_str _ _) (alike_str _ _)
theorem sortable_encP (ns : List Str) (par lab : Str → Str) : Sortable (ns.map (encP par lab)) := .tuples fun b => ⟨_, _, rfl⟩
theorem sortable_encL (ns : List Str) (lab : Str → Str) : Sortable (ns.map (encL lab)) := .tuples fun b => ⟨_, _, rfl⟩
theorem depth_encP (par lab : Str → Str) (n : Str) : (encP par lab n).depth ≤ 60 := by
  unfold encP
  simp [PyData.depth, PyData.depthAll]
theorem depth_encL (lab : Str → Str) (n : Str) : (encL lab n).depth ≤ 60 := by
  unfold encL
  simp [PyData.depth, PyData.depthAll]
end MG
/-! text LF0 -/
set_option Elab.async false
set_option linter.all false
set_option maxRecDepth 100000
set_option maxHeartbeats 4200000
/-! places, plainly -/
namespace MG
open PySem PySem.Spec PyProof.Rows L2
theorem hu65 {A : Around} {k : Nat} (hr : Room k A) : A.units + 65 < cLine := by have := hr.un; omega
theorem cut_to (xs : List V) (k : Nat) (h : k ≤ xs.length) : cutV xs none (some (k : Int)) = xs.take k := by
  unfold cutV
  have e1 : HT.sIx xs.length 0 none = 0 := rfl
  rw [e1, HT.sIx_nat, List.drop_zero, Nat.sub_zero, Nat.min_eq_left h]
theorem mergeK_app : ∀ (more acc : List (Key × V)), ((acc ++ more).map (·.1)).Nodup → mergeK acc more = acc ++ more
  | [], acc, _ => by rw [List.append_nil]; rfl
  | p :: more, acc, h => by
    have hk : valV acc p.1 = none := val_none fun hm => by
      rw [List.map_append, List.map_cons] at h
      have h2 := (List.nodup_append.mp h).2.2
      exact h2 _ hm _ List.mem_cons_self rfl
    show mergeK (putK acc p.1 p.2) more = _
    rw [putK_new _ hk]
    have e : acc ++ p :: more = (acc ++ [(p.1, p.2)]) ++ more := by rw [List.append_assoc]; rfl
    rw [e] at h ⊢
    exact mergeK_app more _ h
theorem mergeK_nd {kvs : List (Key × V)} (h : (kvs.map (·.1)).Nodup) : mergeK [] kvs = kvs := mergeK_app kvs [] h
/-- a table of names -/
theorem tab_of {α : Type} [Inhabited α] : ∀ (xs : List Str) (as : List α), xs.Nodup → as.length = xs.length → ∃ f : Str → α, ∀ (i : Nat) (n : Str), xs[i]? = some n → as[i]? = some (f n)
  | [], as, _, _ => ⟨fun _ => default, fun i n h => by simp at h⟩
  | x :: xs, [], _, h => by simp at h
  | x :: xs, a :: as, hnd, h => by
    obtain ⟨hx, hn⟩ := List.nodup_cons.mp hnd
    obtain ⟨ca, hc⟩ := tab_of xs as hn (by simpa using h)
    refine ⟨fun n => if n = x then a else ca n, fun i n hi => ?_⟩
    cases i with
    | zero =>
      have e1 : x = n := Option.some.inj hi
      subst e1
      show some a = some (if x = x then a else ca x)
      rw [if_pos rfl]
    | succ i =>
      have hi' : xs[i]? = some n := hi
      show as[i]? = some (if n = x then a else ca n)
      rw [if_neg fun (e : n = x) => hx (e ▸ List.mem_of_getElem? hi')]
      exact hc i n hi'
instance : Inhabited (Str × Str) := ⟨(Rt, Rt)⟩
def LABS : List Str := ["a", "b", "root", "img", "x"]
theorem labs_name : ∀ x ∈ LABS, nameB x = true := by decide +kernel
/-- the labels that are free -/
def freeL (ls : List (Str × Str)) (p : Str) (names : List Str) : List Str := (LABS ++ names).filter fun l => !decide ((p, l) ∈ ls)
theorem freeL_some {ls : List (Str × Str)} {p : Str} {names : List Str} (hnd : names.Nodup) (h : ls.length < names.length) : 0 < (freeL ls p names).length := by
  apply Classical.byContradiction
  intro h0
  have e0 : freeL ls p names = [] := List.eq_nil_of_length_eq_zero (by omega)
  have hall : ∀ x ∈ names, x ∈ ls.map (·.2) := fun x hx => by
    have h1 : (!decide ((p, x) ∈ ls)) = false := by
      cases e : (!decide ((p, x) ∈ ls)) with
      | false => rfl
      | true =>
        have : x ∈ freeL ls p names := List.mem_filter.mpr ⟨List.mem_append_right _ hx, e⟩
        rw [e0] at this; cases this
    have h2 : (p, x) ∈ ls := by simpa using h1
    exact List.mem_map.mpr ⟨_, h2, rfl⟩
  have := nodup_le names (ls.map (·.2)) hnd hall
  rw [List.length_map] at this
  omega
theorem freeL_mem {ls : List (Str × Str)} {p l : Str} {names : List Str} (h : l ∈ freeL ls p names) : (l ∈ LABS ∨ l ∈ names) ∧ (p, l) ∉ ls := by
  obtain ⟨h1, h2⟩ := List.mem_filter.mp h
  exact ⟨List.mem_append.mp h1, by simpa using h2⟩
/-- a table of places drawn in turn is a tree, in any order of its nodes -/
theorem drawn_TD {names ns : List Str} {ls : List (Str × Str)} {par lab : Str → Str} (hnd : names.Nodup) (hl : ls.length = names.length) (hn40 : names.length ≤ 40) (hns : ∀ x ∈ names, nameB x = true ∧ x ≠ Rt)
    (hp : ∀ (j : Nat) (p l : Str), ls[j]? = some (p, l) → p ∈ Rt :: names.take j ∧ nameB l = true) (hls : ls.Nodup) (hf : ∀ (j : Nat) (n : Str), names[j]? = some n → ls[j]? = some (par n, lab n)) (pm : ns.Perm names) : TD ns par lab := by
  have at_ : ∀ n, n ∈ ns → ∃ j, names[j]? = some n ∧ j < names.length := fun n hn => by
    obtain ⟨j, hj, e⟩ := List.mem_iff_getElem.mp (pm.mem_iff.mp hn)
    exact ⟨j, by rw [List.getElem?_eq_getElem hj, e], hj⟩
  have hroot : Rt ∉ names := fun h => (hns _ h).2 rfl
  have hpar : ∀ n j, names[j]? = some n → par n ∈ Rt :: names.take j := fun n j hj => (hp j _ _ (hf j n hj)).1
  refine ⟨⟨pm.nodup_iff.mpr hnd, fun h => hroot (pm.mem_iff.mp h), fun n hn => ?_, ⟨fun n => if n = Rt then 0 else names.idxOf n + 1, if_pos rfl, fun n hn => ?_, fun n hn => ?_⟩⟩, by rw [pm.length_eq]; exact hn40, fun a ha b hb e1 e2 => ?_, fun n hn => (hns n (pm.mem_iff.mp hn)).1, fun n hn => ?_⟩
  · obtain ⟨j, hj, _⟩ := at_ n hn
    rcases List.mem_cons.mp (hpar n j hj) with h | h
    · exact .inl h
    · exact .inr (pm.mem_iff.mpr (List.mem_of_mem_take h))
  · have h1 : n ≠ Rt := (hns n (pm.mem_iff.mp hn)).2
    have h2 := List.idxOf_lt_length_of_mem (pm.mem_iff.mp hn)
    show (if n = Rt then 0 else names.idxOf n + 1) ≤ 40
    rw [if_neg h1]; omega
  · have h1 : n ≠ Rt := (hns n (pm.mem_iff.mp hn)).2
    obtain ⟨j, hj, hjl⟩ := at_ n hn
    show (if par n = Rt then 0 else names.idxOf (par n) + 1) < (if n = Rt then 0 else names.idxOf n + 1)
    rw [if_neg h1]
    by_cases h2 : par n = Rt
    · rw [if_pos h2]; omega
    · rw [if_neg h2]
      have h3 : par n ∈ names.take j := (List.mem_cons.mp (hpar n j hj)).resolve_left h2
      have h4 : names.idxOf n = j := by
        have h5 := List.idxOf_lt_length_of_mem (pm.mem_iff.mp hn)
        have h6 := List.getElem_idxOf h5
        exact nd_ix hnd (i := names.idxOf n) (by rw [List.getElem?_eq_getElem h5, h6]) hj
      obtain ⟨k, hk, e⟩ := List.mem_iff_getElem.mp h3
      rw [List.length_take] at hk
      rw [List.getElem_take] at e
      have h7 : names.idxOf (par n) = k := by
        have hm : par n ∈ names := List.mem_of_mem_take h3
        have h5 := List.idxOf_lt_length_of_mem hm
        have h6 := List.getElem_idxOf h5
        exact nd_ix hnd (i := names.idxOf (par n)) (by rw [List.getElem?_eq_getElem h5, h6]) (by rw [List.getElem?_eq_getElem (by omega), e])
      omega
  · obtain ⟨i, hi, _⟩ := at_ a ha
    obtain ⟨j, hj, _⟩ := at_ b hb
    have q1 := hf i a hi
    have q2 := hf j b hj
    rw [← e1, ← e2] at q2
    have := nd_ix hls q1 q2
    subst this
    rw [hi] at hj
    exact Option.some.inj hj
  · obtain ⟨j, hj, _⟩ := at_ n hn
    exact (hp j _ _ (hf j n hj)).2
theorem pr2s_lay : ∀ ls : List (Str × Str), (∀ z ∈ ls, PyData.strOk z.1 = true ∧ PyData.strOk z.2 = true) → PyData.canLayAll0 (ls.map fun z => pr2 z.1 z.2) = true
  | [], _ => by simp [PyData.canLayAll0]
  | z :: zs, h => by
    have := h z List.mem_cons_self
    simp [PyData.canLayAll0, pr2_lay _ _ this.1 this.2, pr2s_lay zs fun y hy => h y (List.mem_cons_of_mem _ hy)]
theorem pr2s_depth : ∀ ls : List (Str × Str), PyData.depthAll (ls.map fun z => pr2 z.1 z.2) ≤ 1
  | [] => by simp [PyData.depthAll]
  | z :: zs => by
    have h1 := pr2s_depth zs
    have h2 := pr2_depth z.1 z.2
    simp only [List.map_cons, PyData.depthAll]
    omega
theorem pr2s_shaped (ls : List (Str × Str)) (h : ∀ z ∈ ls, PyData.strOk z.1 = true ∧ PyData.strOk z.2 = true) : SeqAt.shaped (.list (ls.map fun z => pr2 z.1 z.2)) = true := by
  have h1 := pr2s_depth ls
  have h2 : PyData.depth (.list (ls.map fun z => pr2 z.1 z.2)) ≤ 64 := by
    simp only [PyData.depth]; omega
  show (PyData.canLay0 (.list (ls.map fun z => pr2 z.1 z.2)) && decide (PyData.depth (.list (ls.map fun z => pr2 z.1 z.2)) ≤ 64)) = true
  rw [Bool.and_eq_true]
  exact ⟨by simp only [PyData.canLay0]; exact pr2s_lay ls h, decide_eq_true h2⟩
theorem pr2_shaped (x y : Str) (hx : PyData.strOk x = true) (hy : PyData.strOk y = true) : SeqAt.shaped (pr2 x y) = true := by
  show ((pr2 x y).canLay0 && decide ((pr2 x y).depth ≤ 64)) = true
  rw [Bool.and_eq_true]
  exact ⟨pr2_lay x y hx hy, decide_eq_true (by rw [pr2_depth]; decide)⟩
theorem pr2s_any (ls : List (Str × Str)) (p l : Str) : ((ls.map fun z => pr2 z.1 z.2).any fun z => PyData.eqv z (pr2 p l)) = decide ((p, l) ∈ ls) := by
  induction ls with
  | nil => simp
  | cons z ls ih =>
    rw [List.map_cons, List.any_cons, ih, pr2_eqv]
    by_cases h : (p, l) = z
    · subst h; simp
    · have h1 : decide (z.1 = p ∧ z.2 = l) = false := decide_eq_false fun e => h (by rw [← e.1, ← e.2])
      rw [h1, Bool.false_or]
      exact decide_eq_decide.mpr ⟨fun e => List.mem_cons_of_mem _ e, fun e => (List.mem_cons.mp e).resolve_left h⟩
theorem dps_of {K : PySem.W.Frag} {H : Hp} : ∀ (as : List Addr) (ls : List (Str × Str)), as.length = ls.length → (∀ (j : Nat) (p l : Str) (a : Addr), ls[j]? = some (p, l) → as[j]? = some a → H a = some (.tup [.str p, .str l])) → DpAll K H (as.map V.ref) (ls.map fun z => pr2 z.1 z.2)
  | [], [], _, _ => .nil
  | [], _ :: _, h, _ => by simp at h
  | _ :: _, [], h, _ => by simp at h
  | a :: as, z :: ls, h, hat => .cons (pr2_dp (hat 0 z.1 z.2 a rfl rfl)) (dps_of as ls (by simpa using h) fun j p l b h1 h2 => hat (j + 1) p l b h1 h2)
end MG
/-! text D4 -/
set_option Elab.async false
set_option linter.all false
set_option maxRecDepth 100000
set_option maxHeartbeats 4200000
/-! the making of a tree -/
namespace MG
open PySem PySem.Spec PyProof.Rows L2
def spChildren : Sp := fun vs H Q _ => ∃ (p : Addr) (ns : List Str) (par lab : Str → Str) (ad : Str → Addr), vs = [.ref p] ∧ Pl H p ns par lab ad ∧ H p = some (.dK (ns.map fun n => ((Sum.inr n : Key), V.ref (ad n)))) ∧ TD ns par lab ∧
  ∀ (q : Addr) (ca : Str → Addr) (H' : Hp), H q = none → Same H H' → H' q = some (.dK ((Rt :: ns).map fun n => ((Sum.inr n : Key), V.ref (ca n)))) → (∀ n, n ∈ Rt :: ns → H' (ca n) = some (.lst ((chS ns par lab n).map V.str))) → Q (.ref q) H'
section
variable {P : Program} {w : World} {K : PySem.W.Frag} {mg : Str → Option Value} {base : Heap} {C U : Addr}
theorem sc_s_children_within : FnScope ["places", "found", "node", "parent", "label", "place"] ["places"] (defScope s_children_within) := ⟨rfl, rfl, rfl, by decide +kernel, rfl, by decide +kernel, by decide +kernel⟩
theorem ok_children_within {f : Addr} {fd : FuncData} (T : Txt K mg C) (F : Fun K "children_within" "children_within" s_children_within f fd) (hm : mg "children_within" = some (.ref f)) : Cal P w K mg base 1 "children_within" spChildren := by
  refine ⟨f, fd, ["places"], ?_, hm, F.kp, F.binds (ps := ["places"]) fun _ _ _ _ _ _ us hl => match us, hl with | [_], _ => rfl⟩
  refine F.okX sc_s_children_within (fun vs H Q E h => ?_) (fun cdv A outer s H vs Q E hr h => ?_)
  · obtain ⟨p, ns, par, lab, ad, rfl, _⟩ := h
    rfl
  · obtain ⟨p, ns, par, lab, ad, rfl, hp, hk, D, q⟩ := h
    have T0 := D.T
    refine ⟨_, PSs.nox (pss_cons (ps_setDc (i := 1) (own := [("node", 2)]) (g := gName 2) (tt := tYes) rfl sc_s_children_within.nd rfl rfl (swD_true rfl rfl rfl (by decide +kernel)) (pi_list (pe_lst (pa_cons (C8.pe_gc (by rfl) T.c_ROOT) (pa_starD rfl (pv 0) pa_nil)))) (blkOk_by (own := [("node", 2)]) (N := ["places", "found", "node", "parent", "label", "place"]) (sc := defScope s_children_within) (by decide +kernel)) (fun _ _ _ _ _ => pg_name (i := 2) sc_s_children_within.nd rfl (Or.inl rfl)) (fun _ _ _ _ _ => pts_nil) (fun _ _ _ _ _ => (pv 2)) (fun _ _ _ _ _ => (pe_lst pa_nil)))
    (pss_cons (ps_for PassesOwn.never rfl (pi_list (pe_callB (cr_sortedX hr.units) (by rfl) T.g_sorted bt_sorted (pa_cons (pe_lock (pe_lc (own := [("node", 2), ("place", 5)]) (tt := tYes) rfl sc_s_children_within.nd (pi_items (pv 0)) (blkOk_by (own := [("node", 2), ("place", 5)]) (N := ["places", "found", "node", "parent", "label", "place"]) (sc := defScope s_children_within) (by decide +kernel)) (fun _ _ _ _ _ => pg_tupK (n := 2) (K := K) rfl rfl (pgs_cons (pg_name (i := 2) sc_s_children_within.nd rfl (Or.inl rfl)) (pgs_cons (pg_name (i := 5) sc_s_children_within.nd rfl (Or.inl rfl)) pgs_nil))) (fun _ _ _ _ _ => pts_nil) (fun _ _ _ _ _ => (pe_tup (pa_cons (pv 5) (pa_cons (pv 2) pa_nil)))))) pa_nil))) (pg_tup rfl (pgs_cons (pg_tup rfl (pgs_cons (pg_name (i := 3) sc_s_children_within.nd rfl (Or.inl rfl)) (pgs_cons (pg_name (i := 4) sc_s_children_within.nd rfl (Or.inl rfl)) pgs_nil))) (pgs_cons (pg_name (i := 2) sc_s_children_within.nd rfl (Or.inl rfl)) pgs_nil)))
    (pss_one (ps_expr (pe_bm PySem.F.plainAttrs_list PySem.F.slot_list_append PySem.F.type_list_append mt_append (pe_dget (hu_of hr) (pv 1) (pv 3) (fun _ _ => rfl)) (pa_cons (pv 2) pa_nil)))))
    (pss_one (ps_ret (pv 1))))), ?_⟩
    have few := D.few
    have hnd : (Rt :: ns).Nodup := List.nodup_cons.mpr ⟨T0.nr, T0.nd⟩
    have hlen1 : (Rt :: ns).length ≤ 41 := by rw [List.length_cons]; omega
    have eL : (V.str Rt :: (((ns.map fun n => ((Sum.inr n : Key), V.ref (ad n))).map fun kv => kV kv.1) ++ [])) = (Rt :: ns).map V.str := by rw [List.map_map, List.append_nil]; rfl
    refine ⟨_, rfl, p, _, rfl, hk, ?_, fun l hl => ?_⟩
    · rw [eL, List.length_map, sz]; omega
    rw [eL]
    refine ⟨l, rfl, ⟨_, SqL.of upd_same⟩, fun q0 hq0 => dc_fresh (walk_list (xs := (Rt :: ns).map V.str)) hq0 ((Rt :: ns).map fun n => (Sum.inr n : Key)) (by rw [List.length_map, List.length_map]) ?_ (fun _ a H' => H' a = some (.lst [])) (fun _ a H1 H2 na s h => s a _ na h) (fun _ a H1 h e => by rw [h] at e; cases e) (by rw [List.length_map, sz]; omega) (fun H' s => SqL.of (s _ _ upd_same)) ?_ ?_⟩
    · exact List.Pairwise.map _ (fun a b h e => h (Sum.inr.inj e)) hnd
    · rintro i x H2 H3 Kt hi s2 ⟨rfl, hv⟩ k
      rw [List.getElem?_map] at hv
      obtain ⟨n, hn, rfl⟩ := Option.map_eq_some_iff.mp hv
      exact ⟨rfl, _, rfl, by show 0 ≤ sizeLine; decide, fun a ha => k (Sum.inr n) a _ (by rw [List.getElem?_map, hn]; rfl) (Same.new ha) ha upd_same⟩
    · intro H1 as s1 hq1 hlen hand hat
      rw [List.length_map] at hlen
      obtain ⟨ca, eca, hca⟩ := zip_tab (Rt :: ns) as hnd hlen
      rw [eca] at hq1
      have sH1 : Same H H1 := (Same.new hl).trans s1
      have hp1 := hp.same sH1
      have hk1 := sH1 _ _ hk
      have cal : ∀ n, n ∈ Rt :: ns → H1 (ca n) = some (.lst []) ∧ H (ca n) = none ∧ ca n ≠ q0 := fun n hn => by
        obtain ⟨i, hi, e⟩ := List.mem_iff_getElem.mp hn
        obtain ⟨h1, h2, h3⟩ := hat i _ (hca i n (by rw [List.getElem?_eq_getElem hi, e]))
        exact ⟨h1, (Same.new hl).free h2, h3⟩
      have cai : ∀ n m, n ∈ Rt :: ns → m ∈ Rt :: ns → ca n = ca m → n = m := fun n m hn hm e => by
        obtain ⟨i, hi, e1⟩ := List.mem_iff_getElem.mp hn
        obtain ⟨j, hj, e2⟩ := List.mem_iff_getElem.mp hm
        have a1 := hca i n (by rw [List.getElem?_eq_getElem hi, e1])
        have a2 := hca j m (by rw [List.getElem?_eq_getElem hj, e2])
        have := nd_ix hand a1 (by rw [e]; exact a2)
        subst this
        rw [← e1, e2]
      refine ⟨p, _, hk1, trivial, fun od => ?_⟩
      obtain ⟨_, hp2⟩ := hp1.lock hk1 od
      refine ⟨_, rfl, p, od, _, rfl, upd_same, fun D0 hD0 => lc_fresh walk_items hD0 (fun i a H' => ∃ n, ns[i]? = some n ∧ H' a = some (.tup [.ref (ad n), .str n])) (fun i a H1 H2 na s ⟨n, hn, h⟩ => ⟨n, hn, s a _ na h⟩) (fun i a H1 ⟨n, _, h⟩ e => by rw [h] at e; cases e) (by rw [List.length_map, sz]; omega) (fun H' s => s _ _ upd_same) ?_ ?_⟩
      · rintro i x H2 H3 Kt hi s2 ⟨T1, y, z, rfl, hT1, rfl, hy, hz⟩ k
        obtain ⟨n, hn, rfl, rfl⟩ := item_ns hy hz
        exact ⟨T1, _, rfl, SqT.of upd_same, rfl, _, _, rfl, _, _, rfl, rfl, rfl, _, rfl, _, rfl, by show 2 ≤ sizeLine; decide, fun a ha => k a _ (((Same.new hT1).trans (Same.new ha))) ((Same.new hT1).free ha) ⟨n, hn, upd_same⟩⟩
      · intro H2 bs s2 hD2 hlen2 hand2 hat2
        rw [List.length_map] at hlen2
        obtain ⟨tb, _, htb⟩ := zip_tab ns bs T0.nd hlen2
        have eb : bs = ns.map tb := list_tab hlen2 htb
        have hp2' : H2 p = some (.frz od (.dK (ns.map fun n => ((Sum.inr n : Key), V.ref (ad n))))) := s2 _ _ upd_same
        refine ⟨hp2', ?_⟩
        have s12 : Same H1 (upd H2 p (.dK (ns.map fun n => ((Sum.inr n : Key), V.ref (ad n))))) := Same.unlock hk1 s2
        have tbl : ∀ n, n ∈ ns → H2 (tb n) = some (.tup [.ref (ad n), .str n]) ∧ tb n ≠ p := fun n hn => by
          obtain ⟨i, hi, e⟩ := List.mem_iff_getElem.mp hn
          obtain ⟨⟨m, hm, h1⟩, h2, _⟩ := hat2 i _ (htb i n (by rw [List.getElem?_eq_getElem hi, e]))
          rw [List.getElem?_eq_getElem hi, e] at hm
          cases hm
          exact ⟨h1, fun e => by rw [e, hp2'] at h1; cases h1⟩
        have hDp : D0 ≠ p := fun e => by rw [e, hp2'] at hD2; cases hD2
        generalize eH3 : upd H2 p (.dK (ns.map fun n => ((Sum.inr n : Key), V.ref (ad n)))) = H3 at s12 ⊢
        have tb3 : ∀ n, n ∈ ns → H3 (tb n) = some (.tup [.ref (ad n), .str n]) := fun n hn => by rw [← eH3, upd_ne (tbl n hn).2]; exact (tbl n hn).1
        have hD3 : H3 D0 = some (.lst (ns.map fun n => V.ref (tb n))) := by
          rw [← eH3, upd_ne hDp, hD2, eb, List.map_map]; rfl
        have hp3 := hp1.same s12
        refine ⟨Str, D0, ns, fun n => V.ref (tb n), encP par lab, rfl, SqL.of hD3, fun n hn => .tup (SqT.of (tb3 n hn)) (.cons (.tup (SqT.of (hp3.t n hn)) (.cons (.str _) (.cons (.str _) .nil))) (.cons (.str _) .nil)), alike_encP _ _ _, sortable_encP _ _ _, by rw [sz]; omega, fun n _ => depth_encP _ _ _, fun q2 hq2 => ?_⟩
        refine ⟨q2, rfl, ⟨_, SqL.of upd_same⟩, ?_⟩
        have hS : ∀ n, n ∈ sortP ns par lab → n ∈ ns := fun n hn => (sortP_perm ns par lab).mem_iff.mp hn
        refine for_it (walk_list (xs := (sortP ns par lab).map fun n => V.ref (tb n))) (fun i σ H' => ∃ vn vp vl vq, σ = [some (.ref p), some (.ref q0), vn, vp, vl, vq] ∧ (∀ b o, (∀ n, n ∈ Rt :: ns → b ≠ ca n) → (upd H3 q2 (.lst ((sortP ns par lab).map fun n => V.ref (tb n)))) b = some o → H' b = some o) ∧
          ∀ n, n ∈ Rt :: ns → H' (ca n) = some (.lst ((((sortP ns par lab).take i).filter fun q => decide (par q = n)).map V.str))) ⟨none, none, none, none, rfl, fun b o _ h => h, fun n hn => ?_⟩ ?_ ?_ ?_
        · rw [Same.new hq2 _ _ (s12 _ _ (cal n hn).1)]; rfl
        · rintro i σ H' _ ⟨vn, vp, vl, vq, rfl, hkeep, _⟩
          exact SqL.of (hkeep q2 _ (fun n hn e => by rw [e, s12 _ _ (cal n hn).1] at hq2; cases hq2) upd_same)
        · rintro i x σ H5 H6 hi ⟨vn, vp, vl, vq, rfl, hkeep, hl5⟩ ⟨rfl, hv⟩
          rw [List.getElem?_map] at hv
          obtain ⟨n, hn, rfl⟩ := Option.map_eq_some_iff.mp hv
          have hnn : n ∈ ns := hS n (List.mem_of_getElem? hn)
          have hpn : par n ∈ Rt :: ns := (T0.pin n hnn).elim (fun e => e ▸ List.mem_cons_self) fun e => List.mem_cons_of_mem _ e
          have ne1 : ∀ b u, H3 b = some u → (∀ xs, u ≠ .lst xs) → ∀ m, m ∈ Rt :: ns → b ≠ ca m := fun b u hb hu m hm e => by
            rw [e, s12 _ _ (cal m hm).1] at hb
            exact hu _ (Option.some.inj hb).symm
          have k1 : H6 (tb n) = some (.tup [.ref (ad n), .str n]) := hkeep _ _ (ne1 _ _ (tb3 n hnn) fun _ e => by cases e) (Same.new hq2 _ _ (tb3 n hnn))
          have k2 : H6 (ad n) = some (.tup [.str (par n), .str (lab n)]) := hkeep _ _ (ne1 _ _ (hp3.t n hnn) fun _ e => by cases e) (Same.new hq2 _ _ (hp3.t n hnn))
          have k3 : H6 q0 = some (.dK ((Rt :: ns).map fun n => ((Sum.inr n : Key), V.ref (ca n)))) := hkeep _ _ (ne1 _ _ (s12 _ _ hq1) fun _ e => by cases e) (Same.new hq2 _ _ (s12 _ _ hq1))
          have hdg := dget_rd (Sum.inr (par n) : Key) (.inl k3)
          rw [val_ns, if_pos hpn] at hdg
          have hlen5 : ((((sortP ns par lab).take i).filter fun q => decide (par q = par n)).map V.str).length < sizeLine := by
            have h1 := List.length_filter_le (fun q => decide (par q = par n)) ((sortP ns par lab).take i)
            have h2 := (sortP_perm ns par lab).length_eq
            rw [List.length_take] at h1
            rw [List.length_map, sz]
            omega
          refine ⟨tb n, _, rfl, SqT.of k1, rfl, _, _, rfl, ⟨ad n, _, rfl, SqT.of k2, rfl, _, _, rfl, _, _, rfl, rfl, _, _, rfl, rfl, ?_⟩⟩
          refine ⟨_, rfl, _, rfl, q0, _, rfl, hdg, .inl ⟨rfl, _, SqL.of (hl5 _ hpn)⟩, _, rfl, ca (par n), _, _, rfl, rfl, hl5 _ hpn, hlen5, _, _, _, _, rfl, fun b o hb ho => ?_, fun m hm => ?_⟩
          · rw [upd_ne (hb _ hpn)]
            exact hkeep b o hb ho
          · rw [List.take_add_one, hn, List.filter_append]
            by_cases e : m = par n
            · subst e
              rw [upd_same, List.map_append]
              simp
            · rw [upd_ne fun z => e (cai _ _ hm hpn z), hl5 m hm]
              have e2 : decide (par n = m) = false := decide_eq_false fun z => e z.symm
              simp [e2]
        · rintro σ H5 ⟨vn, vp, vl, vq, rfl, hkeep, hl5⟩
          have ne2 : ∀ n, n ∈ Rt :: ns → ∀ b, H b ≠ none → b ≠ ca n := fun n hn b hb e => hb (e ▸ (cal n hn).2.1)
          have k3 : H5 q0 = some (.dK ((Rt :: ns).map fun n => ((Sum.inr n : Key), V.ref (ca n)))) := hkeep _ _ (fun n hn e => (cal n hn).2.2 e.symm) (Same.new hq2 _ _ (s12 _ _ hq1))
          refine ⟨_, rfl, q q0 ca H5 ((Same.new hl).free hq0) (fun b o hb => hkeep b o (fun n hn => ne2 n hn b (by rw [hb]; simp)) (Same.new hq2 _ _ (s12 _ _ (sH1 _ _ hb)))) k3 fun n hn => ?_⟩
          rw [hl5 n hn, List.length_map, List.take_of_length_le (Nat.le_refl _)]
          rfl
end
end MG
/-! text D5 -/
set_option Elab.async false
set_option linter.all false
set_option maxRecDepth 100000
set_option maxHeartbeats 4200000
/-! the making of a tree: the check -/
namespace MG
open PySem PySem.Spec PyProof.Rows L2
/-- a dict of places of a tree -/
def PlX (H : Hp) (p : Addr) (ns : List Str) (par lab : Str → Str) (ad : Str → Addr) : Prop := Pl H p ns par lab ad ∧ H p = some (.dK (ns.map fun n => ((Sum.inr n : Key), V.ref (ad n))))
theorem PlX.same {H H' : Hp} {p : Addr} {ns : List Str} {par lab : Str → Str} {ad : Str → Addr} (h : PlX H p ns par lab ad) (e : Same H H') : PlX H' p ns par lab ad := ⟨h.1.same e, e _ _ h.2⟩
def spCheck : Sp := fun vs H Q _ => ∃ (p : Addr) (ns : List Str) (par lab : Str → Str) (ad : Str → Addr), vs = [.ref p] ∧ PlX H p ns par lab ad ∧ TD ns par lab ∧ ∀ H', Same H H' → Q .non H'
/-- the nodes by their places -/
def byPl (ns : List Str) (par lab : Str → Str) : List (List Key × V) := ns.map fun n => ([(Sum.inr (par n) : Key), Sum.inr (lab n)], V.str n)
theorem byPl_nd {ns : List Str} {par lab : Str → Str} (hnd : ns.Nodup) (A : Apart2 ns par lab) : ((byPl ns par lab).map (·.1)).Nodup := by
  unfold byPl
  rw [List.map_map]
  refine List.Pairwise.map (R := fun a b => a ∈ ns ∧ b ∈ ns ∧ a ≠ b) _ (fun a b h e => ?_) (List.Pairwise.imp_of_mem (fun ha hb h => ⟨ha, hb, h⟩) hnd)
  have e1 := (List.cons.inj e)
  exact h.2.2 (A a h.1 b h.2.1 (Sum.inr.inj e1.1) (Sum.inr.inj (List.cons.inj e1.2).1))
section
variable {P : Program} {w : World} {K : PySem.W.Frag} {mg : Str → Option Value} {base : Heap} {C U : Addr}
theorem sc_s_require_places : FnScope ["places", "taken", "node", "place"] ["places"] (defScope s_require_places) := ⟨rfl, rfl, rfl, by decide +kernel, rfl, by decide +kernel, by decide +kernel⟩
theorem ok_require_places {f : Addr} {fd : FuncData} (T : Txt K mg C) (F : Fun K "require_places" "require_places" s_require_places f fd) (hm : mg "require_places" = some (.ref f)) (c_is_node : Cal P w K mg base 2 "is_node" spNode) (c_is_place : Cal P w K mg base 2 "is_place" spPlace)
    (c_is_known : Cal P w K mg base 1 "is_known" spKnown) (c_first_cyclic : Cal P w K mg base 2 "first_cyclic" spCyclic) : Cal P w K mg base 3 "require_places" spCheck := by
  refine ⟨f, fd, ["places"], ?_, hm, F.kp, F.binds (ps := ["places"]) fun _ _ _ _ _ _ us hl => match us, hl with | [_], _ => rfl⟩
  refine F.okX sc_s_require_places (fun vs H Q E h => ?_) (fun cdv A outer s H vs Q E hr h => ?_)
  · obtain ⟨p, ns, par, lab, ad, rfl, _⟩ := h
    rfl
  · obtain ⟨p, ns, par, lab, ad, rfl, ⟨hp, hk⟩, D, q⟩ := h
    have T0 := D.T
    have few := D.few
    refine ⟨_, PSs.nox (pss_cons (ps_if (PW.pt (pw_or (pt_not (pt_val (pe_callB call_isi (by rfl) T.g_isinstance bt_isinstance (pa_cons (pv 0) (pa_cons (pe_bltn (v := .ty "dict") (by rfl) T.g_dict bt_dict rfl) pa_nil))))) (pw_or1 (pt_cmpR op_gt (pe_callB call_lenD (by rfl) T.g_len bt_len (pa_cons (pv 0) pa_nil)) (C8.pe_gc (by rfl) T.c_MOST_NODES) (nomark _))))) (pss_one ps_never) pss_nil)
    (pss_cons (ps_set (i := 1) sc_s_require_places.nd rfl (Or.inl rfl) pe_dnewT)
    (pss_cons (ps_lock (ps_for PassesOwn.never rfl (pi_items (pv 0)) (pg_tup rfl (pgs_cons (pg_name (i := 2) sc_s_require_places.nd rfl (Or.inl rfl)) (pgs_cons (pg_name (i := 3) sc_s_require_places.nd rfl (Or.inl rfl)) pgs_nil)))
    (pss_cons (ps_if (pt_not (pt_val (pe_cl c_is_node hr (by decide) (by rfl) (pa_cons (pv 2) pa_nil)))) (pss_one ps_never) pss_nil)
    (pss_cons (ps_if (pt_not (pt_val (pe_cl c_is_place hr (by decide) (by rfl) (pa_cons (pv 3) pa_nil)))) (pss_one ps_never) pss_nil)
    (pss_cons (ps_if (pt_not (pt_val (pe_cl c_is_known hr (by decide) (by rfl) (pa_cons (pv 0) (pa_cons (pe_ix ix_tup (pv 3) pe_int (fun _ _ => rfl)) pa_nil))))) (pss_one ps_never) pss_nil)
    (pss_cons (ps_if (pt_cmp (pc_din (hu_of hr) (pv 3) (pv 1))) (pss_one ps_never) pss_nil)
    (pss_one (ps_dput (hu_of hr) (pv 1) (pv 3) (pv 2) rfl))))))))
    (pss_cons (ps_set (i := 2) sc_s_require_places.nd rfl (Or.inl rfl) (pe_cl c_first_cyclic hr (by decide) (by rfl) (pa_cons (pv 0) pa_nil)))
    (pss_one (ps_if (pt_cmpR op_notN (pv 2) pe_non (nomark _)) (pss_one ps_never) pss_nil)))))), ?_⟩
    refine ⟨_, rfl, _, _, _, _, _, rfl, .ty _, .base (.dK hk), kit_ty dicB, true, rfl, iteF ⟨_, rfl, p, _, rfl, hk, _, _, rfl, rfl, _, rfl, iteD (fun h => ?_) fun h => ?_⟩⟩
    · rw [List.length_map] at h
      omega
    refine fun t ht => ?_
    have hk1 := Same.new (o := .dT []) ht _ _ hk
    have hp1 := hp.same (Same.new (o := .dT []) ht)
    refine ⟨p, _, hk1, trivial, fun od => ?_⟩
    obtain ⟨_, hp2⟩ := hp1.lock hk1 od
    refine ⟨_, rfl, p, od, _, rfl, upd_same, for_it walk_items (fun i σ H' => ∃ vn vp, σ = [some (.ref p), some (.ref t), vn, vp] ∧ (∀ b o, b ≠ t → (upd (upd H t (.dT [])) p (.frz od (.dK (ns.map fun n => ((Sum.inr n : Key), V.ref (ad n)))))) b = some o → H' b = some o) ∧ H' t = some (.dT ((byPl ns par lab).take i)))
      ⟨none, none, rfl, fun b o _ h => h, ?_⟩ (fun i σ H' _ ⟨_, _, _, hkeep, _⟩ => hkeep p _ (fun e => by rw [← e, hk] at ht; cases ht) upd_same) ?_ ?_⟩
    · rw [upd_ne (fun e => by rw [e, hk] at ht; cases ht), upd_same]; rfl
    · rintro i x σ H2 H3 hi ⟨vn, vp, rfl, hkeep, hT2⟩ ⟨T1, y, z, rfl, hT1, rfl, hy, hz⟩
      obtain ⟨n, hn, rfl, rfl⟩ := item_ns hy hz
      have hnn : n ∈ ns := List.mem_of_getElem? hn
      have hp3 : Pl H2 p ns par lab ad := ⟨(by
          rcases hp2.d with h | ⟨o, h⟩
          · exact .inl (hkeep p _ (fun e => by rw [← e, hk] at ht; cases ht) h)
          · exact .inr ⟨o, hkeep p _ (fun e => by rw [← e, hk] at ht; cases ht) h⟩), fun m hm => hkeep _ _ (fun e => by have := hp.t m hm; rw [e] at this; rw [this] at ht; cases ht) (hp2.t m hm)⟩
      have n1 := nameB_len (D.nm n hnn)
      have n2 := nameB_len (D.lm n hnn)
      have nmp : nameB (par n) = true := (T0.pin n hnn).elim (fun e => by rw [e]; decide +kernel) fun e => D.nm _ e
      have n3 := nameB_len nmp
      have hnr : n ≠ "root" := fun e => T0.nr (by have e : n = Rt := e; rw [← e]; exact hnn)
      refine ⟨T1, _, rfl, SqT.of upd_same, rfl, _, _, rfl, _, _, rfl, rfl, ?_⟩
      refine ⟨_, rfl, n, rfl, by rw [sz]; omega, fun H4 s4 => ⟨_, rfl, iteNB (fun e => ?_) fun _ => ?_⟩⟩
      · rw [D.nm n hnn, decide_eq_false hnr] at e
        cases e
      have s24 := (Same.new (o := .tup [.str n, .ref (ad n)]) hT1).trans s4
      have hp4 := hp3.same s24
      refine ⟨_, rfl, ad n, par n, lab n, rfl, hp4.t n hnn, by rw [sz]; omega, by rw [sz]; omega, fun H5 s5 => ⟨_, rfl, iteNB (fun e => ?_) fun _ => ?_⟩⟩
      · rw [D.lm n hnn, nmp] at e
        cases e
      have hp5 := hp4.same s5
      refine ⟨_, rfl, _, rfl, ad n, _, 0, .str (par n), rfl, rfl, SqT.of (hp5.t n hnn), rfl, p, ns, par, lab, ad, .str (par n), rfl, hp5, True.intro, _, rfl, iteNB (fun e => ?_) fun _ => ?_⟩
      · rw [knownB_yes (T0.pin n hnn)] at e
        cases e
      have s25 := s24.trans s5
      have hT5 := s25 _ _ hT2
      have hkn : [(Sum.inr (par n) : Key), Sum.inr (lab n)] ∉ ((byPl ns par lab).take i).map (·.1) := fun hm => by
        rw [List.map_take] at hm
        obtain ⟨j, hj, ej⟩ := List.mem_iff_getElem.mp hm
        rw [List.length_take, List.length_map] at hj
        rw [List.getElem_take] at ej
        have := nd_ix (byPl_nd T0.nd D.ap) (i := j) (j := i) (by rw [List.getElem?_eq_getElem (by rw [List.length_map]; omega), ej]) (by unfold byPl; rw [List.map_map, List.getElem?_map, hn]; rfl)
        omega
      have hlt : ((byPl ns par lab).take i).length < sizeLine := by
        have : (byPl ns par lab).length = ns.length := List.length_map _
        rw [List.length_take, sz]
        omega
      refine ⟨_, rfl, _, rfl, t, _, rfl, DGet.t (k := [(Sum.inr (par n) : Key), Sum.inr (lab n)]) hT5 (hp5.t n hnn), _, rfl, iteB (fun e => ?_) fun _ => ?_⟩
      · rw [val_none hkn] at e
        cases e
      refine ⟨_, rfl, _, rfl, _, rfl, t, _, rfl, DPut.t (k := [(Sum.inr (par n) : Key), Sum.inr (lab n)]) hT5 (hp5.t n hnn) hlt, _, _, rfl, fun b o hb ho => ?_, ?_⟩
      · rw [upd_ne hb]
        exact s25 _ _ (hkeep b o hb ho)
      · rw [upd_same, putK_new _ (val_none hkn), List.take_add_one]
        unfold byPl
        rw [List.getElem?_map, hn]
        rfl
    · rintro σ H2 ⟨vn, vp, rfl, hkeep, hT2⟩
      have hpt : p ≠ t := fun e => by rw [← e, hk] at ht; cases ht
      have hp3 := hkeep p _ hpt upd_same
      refine ⟨hp3, ?_⟩
      have sF : Same H (upd H2 p (.dK (ns.map fun n => ((Sum.inr n : Key), V.ref (ad n))))) := fun b o hb => by
        have hbt : b ≠ t := fun e => by rw [e, ht] at hb; cases hb
        by_cases e : b = p
        · subst e
          rw [upd_same, ← hk, hb]
        · rw [upd_ne e]
          exact hkeep b o hbt (by rw [upd_ne e, upd_ne hbt]; exact hb)
      refine ⟨_, rfl, p, ns, par, lab, ad, rfl, ⟨_, sF _ _ hk⟩, hp.same sF, D, fun H3 s3 => ?_⟩
      refine ⟨_, rfl, rfl, _, rfl, ?_⟩
      exact q H3 (sF.trans s3)
end
end MG
/-! text LF -/
set_option Elab.async false
set_option linter.all false
set_option maxRecDepth 100000
set_option maxHeartbeats 4200000
/-! the law's places -/
namespace MG
open PySem PySem.Spec PyProof.Rows L2
def spPlacesL : Sp := fun vs H Q _ => ∃ (r : Addr) (m : Nat), vs = [.ref r, .int m] ∧ Rng r H ∧ m ≤ 40 ∧ ∀ (p : Addr) (ns : List Str) (par lab : Str → Str) (ad : Str → Addr) (H' : Hp), H p = none → RS r H H' → PlX H' p ns par lab ad → TD ns par lab → ns.length = m → Q (.ref p) H'
/-- the state of the loop -/
structure PlSt (names : List Str) (r L F B : Addr) (H : Hp) (i : Nat) (ls : List (Str × Str)) (as : List Addr) (H' : Hp) : Prop where
  rs : RS r H H'
  ll : ls.length = i
  al : as.length = i
  fd : H' F = some (.dK (((names.take i).map fun n => (Sum.inr n : Key)).zip (as.map V.ref)))
  nm : H' L = some (.lst (names.map V.str))
  lb : H' B = some (.lst (LABS.map V.str))
  at_ : ∀ (j : Nat) (p l : Str) (a : Addr), ls[j]? = some (p, l) → as[j]? = some a → H' a = some (.tup [.str p, .str l])
  ok : ∀ (j : Nat) (p l : Str), ls[j]? = some (p, l) → p ∈ Rt :: names.take j ∧ nameB l = true
  nd : ls.Nodup
theorem PlSt.rs_ {names : List Str} {r L F B : Addr} {H : Hp} {i : Nat} {ls : List (Str × Str)} {as : List Addr} {H' H2 : Hp} (h : PlSt names r L F B H i ls as H') (s : RS r H' H2) (hF : F ≠ r) (hL : L ≠ r) (hB : B ≠ r) : PlSt names r L F B H i ls as H2 := by
  obtain ⟨a, b, hr, _⟩ := h.rs.rg
  refine ⟨h.rs.trans s, h.ll, h.al, s.at h.fd hF, s.at h.nm hL, s.at h.lb hB, fun j p l c h1 h2 => s.at (h.at_ j p l c h1 h2) fun e => ?_, h.ok, h.nd⟩
  have := h.at_ j p l c h1 h2
  rw [e, hr] at this; cases this
theorem paired_map {α β γ : Type} {R : β → γ → Prop} {f : α → β} {g : α → γ} : ∀ l : List α, (∀ x, x ∈ l → R (f x) (g x)) → Paired R (l.map f) (l.map g)
  | [], _ => .nil
  | x :: l, h => .cons (h x List.mem_cons_self) (paired_map l fun y hy => h y (List.mem_cons_of_mem _ hy))
theorem perm_strs {ys : List V} {names : List Str} (pm : ys.Perm (names.map V.str)) : ∃ ns : List Str, ys = ns.map V.str ∧ ns.Perm names := by
  let un : V → Str := fun v => match v with
    | .str x => x
    | _ => Rt
  have e1 : (names.map V.str).map un = names := by
    rw [List.map_map]
    exact (List.map_congr_left fun x _ => rfl).trans (List.map_id _)
  have e2 : (ys.map un).map V.str = ys := by
    rw [List.map_map]
    refine (List.map_congr_left fun v hv => ?_).trans (List.map_id _)
    obtain ⟨x, _, rfl⟩ := List.mem_map.mp (pm.mem_iff.mp hv)
    rfl
  exact ⟨ys.map un, e2.symm, by have := pm.map un; rw [e1] at this; exact this⟩
section
variable {P : Program} {w : World} {K : PySem.W.Frag} {mg : Str → Option Value} {base : Heap} {C U : Addr}
theorem sc_s_places : FnScope ["_law_rng_here", "_law_many", "_law_names_here", "_law_found", "_law_labels", "_law_k", "_law_name_here", "_law_parent", "_law_free", "_law_label"] ["_law_rng_here", "_law_many"] (defScope s_places) := ⟨rfl, rfl, rfl, by decide +kernel, rfl, by decide +kernel, by decide +kernel⟩
theorem ok_placesL {f : Addr} {fd : FuncData} (T : Txt K mg C) (F : Fun K "_law_places" "_law_places" s_places f fd) (hm : mg "_law_places" = some (.ref f)) (c__law_draw : Cal P w K mg base 1 "_law_draw" spDraw) (c__law_choice : Cal P w K mg base 2 "_law_choice" spChoice)
    (c__law_shuffled : Cal P w K mg base 2 "_law_shuffled" spShuffled) (c__law_names : Cal P w K mg base 3 "_law_names" spNames) : Cal P w K mg base 4 "_law_places" spPlacesL := by
  refine ⟨f, fd, ["_law_rng_here", "_law_many"], ?_, hm, F.kp, F.binds (ps := ["_law_rng_here", "_law_many"]) fun _ _ _ _ _ _ us hl => match us, hl with | [_, _], _ => rfl⟩
  refine F.okX sc_s_places (fun vs H Q E h => ?_) (fun cdv A outer s H vs Q E hr h => ?_)
  · obtain ⟨r, m, rfl, _⟩ := h
    rfl
  · obtain ⟨r, m, rfl, hR, hm40, q⟩ := h
    refine ⟨_, PSs.nox (pss_cons (ps_asg (pe_tup (pa_cons (pe_cl c__law_names hr (by decide) (by rfl) (pa_cons (pv 0) (pa_cons (pv 1) (pa_cons (pe_lst pa_nil) pa_nil)))) (pa_cons pe_dnewK pa_nil))) (pg_tup rfl (pgs_cons (pg_name (i := 2) sc_s_places.nd rfl (Or.inl rfl)) (pgs_cons (pg_name (i := 3) sc_s_places.nd rfl (Or.inr rfl)) pgs_nil))))
    (pss_cons (ps_set (i := 4) sc_s_places.nd rfl (Or.inl rfl) (pe_lst (pa_cons pe_str (pa_cons pe_str (pa_cons pe_str (pa_cons pe_str (pa_cons pe_str pa_nil)))))))
    (pss_cons (ps_for PassesOwn.never rfl (pi_enum (by rfl) T.g_enumerate (pa_cons (pv 2) pa_nil)) (pg_tup rfl (pgs_cons (pg_name (i := 5) sc_s_places.nd rfl (Or.inl rfl)) (pgs_cons (pg_name (i := 6) sc_s_places.nd rfl (Or.inl rfl)) pgs_nil)))
    (pss_cons (ps_set (i := 7) sc_s_places.nd rfl (Or.inr rfl) (pe_cl c__law_choice hr (by decide) (by rfl) (pa_cons (pv 0) (pa_cons (pe_op op_cat (pe_lst (pa_cons pe_str pa_nil)) (pe_slice sl_list (pv 2) po_none (po_some (pv 5)))) pa_nil))))
    (pss_cons (ps_setLc (i := 8) (own := [("_law_label", 9)]) (g := gName 9) (tt := _) rfl sc_s_places.nd rfl rfl (sw_true rfl rfl rfl (by decide +kernel)) (pi_list (pe_op op_cat (pv 4) (pv 2))) (blkOk_by (own := [("_law_label", 9)]) (N := ["_law_rng_here", "_law_many", "_law_names_here", "_law_found", "_law_labels", "_law_k", "_law_name_here", "_law_parent", "_law_free", "_law_label"]) (sc := defScope s_places) (by decide +kernel)) (fun _ _ _ _ _ => pg_name (i := 9) sc_s_places.nd rfl (Or.inl rfl)) (fun _ _ _ _ _ => (pts_one (pt_cmpR (op_notInDK (K := K) rfl (hu65 hr)) (pe_tup (pa_cons (pv 7) (pa_cons (pv 9) pa_nil))) (pe_listVals rfl (by rfl) T.g_list (pv 3)) (by rfl)))) (fun _ _ _ _ _ => (pv 9)))
    (pss_one (ps_dput (hu_of hr) (pv 3) (pv 6) (pe_tup (pa_cons (pv 7) (pa_cons (pe_ix ix_list (pv 8) (pe_cl c__law_draw hr (by decide) (by rfl) (pa_cons (pv 0) (pa_cons (pe_callB (call_min2 rfl) (by rfl) T.g_min bt_min (pa_cons pe_int (pa_cons (pe_callB call_len_seq (by rfl) T.g_len bt_len (pa_cons (pv 8) pa_nil)) pa_nil))) pa_nil))) (fun _ _ => rfl)) pa_nil))) rfl)))))
    (pss_one (ps_ret (pe_callTy (call_dictP rfl) (by rfl) T.g_dict bt_dict (pa_cons (pe_lc (own := [("_law_name_here", 6)]) (g := gName 6) (tt := tYes) rfl sc_s_places.nd (pi_list (pe_cl c__law_shuffled hr (by decide) (by rfl) (pa_cons (pv 0) (pa_cons (pv 2) pa_nil)))) (blkOk_by (own := [("_law_name_here", 6)]) (N := ["_law_rng_here", "_law_many", "_law_names_here", "_law_found", "_law_labels", "_law_k", "_law_name_here", "_law_parent", "_law_free", "_law_label"]) (sc := defScope s_places) (by decide +kernel)) (fun _ _ _ _ _ => pg_name (i := 6) sc_s_places.nd rfl (Or.inl rfl)) (fun _ _ _ _ _ => pts_nil) (fun _ _ _ _ _ => (pe_tup (pa_cons (pv 6) (pa_cons (pe_dget (hu_of hr) (pv 3) (pv 6) (fun _ _ => rfl)) pa_nil))))) pa_nil))))))), ?_⟩
    have new_r : ∀ {H' : Hp} {p : Addr}, RS r H H' → H' p = none → p ≠ r := fun s h e => s.rg.ne (e ▸ h)
    have s0 := RS.refl hR
    refine ⟨_, rfl, _, rfl, by show 0 ≤ sizeLine; decide, fun u hu => ?_⟩
    have s1 := s0.trans (RS.new (o := .lst []) s0.rg hu)
    refine ⟨r, u, m, rfl, s1.rg, new_r s0 hu, upd_same, hm40, fun L names H1 hL0 s2 hL hlen hnd hns => ?_⟩
    have s3 := s1.trans s2
    have hLr : L ≠ r := new_r s1 hL0
    refine fun F hF => ⟨by show 2 ≤ sizeLine; decide, fun t ht => ?_⟩
    have hFr : F ≠ r := new_r s3 hF
    have s4 := s3.trans (RS.new (o := .dK []) s3.rg hF)
    refine ⟨t, _, rfl, SqT.of upd_same, rfl, _, _, rfl, _, _, rfl, rfl, ?_⟩
    have s5 := s4.trans (RS.new (o := .tup [.ref L, .ref F]) s4.rg ht)
    refine ⟨by show 5 ≤ sizeLine; decide, fun B hB => ?_⟩
    have hBr : B ≠ r := new_r s5 hB
    have s6 := s5.trans (RS.new (o := .lst (LABS.map V.str)) s5.rg hB)
    have LF_ : L ≠ F := ne_of_none hL hF
    have Lt_ : L ≠ t := fun e => by rw [← e, upd_ne LF_, hL] at ht; cases ht
    have Ft_ : F ≠ t := fun e => by rw [← e, upd_same] at ht; cases ht
    have LB_ : L ≠ B := fun e => by rw [← e, upd_ne Lt_, upd_ne LF_, hL] at hB; cases hB
    have FB_ : F ≠ B := fun e => by rw [← e, upd_ne Ft_, upd_same] at hB; cases hB
    have hlabs : ∀ x, x ∈ LABS ∨ x ∈ names → nameB x = true := fun x hx => hx.elim (labs_name x) fun h => (hns x h).1
    have rt_ok : PyData.strOk Rt = true := by decide +kernel
    have par_ok : ∀ (i : Nat) (p : Str), p ∈ Rt :: names.take i → PyData.strOk p = true := fun i p h => by
      rcases List.mem_cons.mp h with e | h
      · rw [e]; exact rt_ok
      · exact nameB_ok (hns p (List.mem_of_mem_take h)).1
    refine ⟨_, rfl, L, names.map V.str, rfl, SqL.of (by rw [upd_ne LB_, upd_ne Lt_, upd_ne LF_]; exact hL), for_it walk_enum (fun i σ H' => ∃ (vk vn vp vf vl : Option V) (ls : List (Str × Str)) (as : List Addr), σ = [some (.ref r), some (.int m), some (.ref L), some (.ref F), some (.ref B), vk, vn, vp, vf, vl] ∧ PlSt names r L F B H i ls as H')
      ⟨none, none, none, none, none, [], [], rfl, s6, rfl, rfl, by rw [upd_ne FB_, upd_ne Ft_, upd_same]; rfl, by rw [upd_ne LB_, upd_ne Lt_, upd_ne LF_]; exact hL, upd_same, fun j p l a h _ => by simp at h, fun j p l h => by simp at h, List.nodup_nil⟩ (fun i σ H' _ ⟨_, _, _, _, _, ls, as, _, h⟩ => SqL.of h.nm) ?_ ?_⟩
    · rintro i x σ H2 H3 hi ⟨vk, vn, vp, vf, vl, ls, as, rfl, st⟩ ⟨T1, y, z, rfl, hT1, rfl, hy, hz⟩
      cases hy
      have hz : (names.map V.str)[i]? = some z := hz
      rw [List.getElem?_map] at hz
      obtain ⟨n, hn, rfl⟩ := Option.map_eq_some_iff.mp hz
      have hi : i < names.length := (List.getElem?_eq_some_iff.mp hn).1
      refine ⟨T1, _, rfl, SqT.of upd_same, rfl, _, _, rfl, _, _, rfl, rfl, ?_⟩
      have st1 := st.rs_ (RS.new (o := .tup [.int (i : Nat), .str n]) st.rs.rg hT1) hFr hLr hBr
      clear st hT1 hz
      refine ⟨_, rfl, by show 1 ≤ sizeLine; decide, fun p1 hp1 => ?_⟩
      have st2 := st1.rs_ (RS.new (o := .lst [.str Rt]) st1.rs.rg hp1) hFr hLr hBr
      refine ⟨_, rfl, _, rfl, _, rfl, L, _, rfl, SqL.of st2.nm, fun p2 hp2 => ?_⟩
      have p12 : p1 ≠ p2 := fun e => by rw [← e, upd_same] at hp2; cases hp2
      have cut : cutV (names.map V.str) none (some (i : Int)) = (names.take i).map V.str := by rw [cut_to _ _ (by rw [List.length_map]; omega), List.map_take]
      refine ⟨p1, p2, [.str Rt], (names.take i).map V.str, rfl, rfl, by rw [upd_ne p12]; exact upd_same, by rw [upd_same, cut], by rw [List.length_map, List.length_take, sz]; show 1 + _ ≤ _; omega, fun p3 hp3 => ?_⟩
      have st3 := st2.rs_ (RS.new (o := .lst (cutV (names.map V.str) none (some (i : Int)))) st2.rs.rg hp2) hFr hLr hBr
      have st4 := st3.rs_ (RS.new (o := .lst ([.str Rt] ++ (names.take i).map V.str)) st3.rs.rg hp3) hFr hLr hBr
      refine ⟨r, p3, (Rt :: names.take i).map V.str, rfl, st4.rs.rg, Ne.symm (new_r st3.rs hp3), upd_same, by simp, by rw [List.length_map, List.length_cons, List.length_take]; omega, fun d y H4 s7 hy => ?_⟩
      rw [List.getElem?_map] at hy
      obtain ⟨p, hp, rfl⟩ := Option.map_eq_some_iff.mp hy
      have hpin := List.mem_of_getElem? hp
      have hpok := par_ok i p hpin
      have st5 := st4.rs_ s7 hFr hLr hBr
      clear st1 st2 st3 st4 hp1 hp2 hp3 s7 hy hp
      refine ⟨_, rfl, _, rfl, B, L, LABS.map V.str, names.map V.str, rfl, rfl, st5.lb, st5.nm, by rw [List.length_map, List.length_map, sz]; show 5 + _ ≤ _; omega, fun p4 hp4 => ?_⟩
      have st6 := st5.rs_ (RS.new (o := .lst ((LABS ++ names).map V.str)) st5.rs.rg hp4) hFr hLr hBr
      refine ⟨p4, rfl, ⟨_, SqL.of upd_same⟩, fun D hD => lc_pure (walk_list (xs := (LABS ++ names).map V.str)) hD (fun i => (((LABS ++ names).take i).filter fun l => !decide ((p, l) ∈ ls)).map V.str) rfl (fun i hi => ?_) (fun H' s => SqL.of (s _ _ ?_)) ?_ ?_⟩
      · have h1 := List.length_filter_le (fun l => !decide ((p, l) ∈ ls)) ((LABS ++ names).take i)
        rw [List.length_take, List.length_append] at h1
        rw [List.length_map, sz]; have : LABS.length = 5 := rfl; omega
      · rw [← List.map_append]; exact upd_same
      · rintro j x Ha Hb Kt Kf hj sab ⟨rfl, hv⟩ k1 k2
        rw [List.getElem?_map] at hv
        obtain ⟨l, hl, rfl⟩ := Option.map_eq_some_iff.mp hv
        have lok := nameB_ok (hlabs l (List.mem_append.mp (List.mem_of_getElem? hl)))
        have st7 := st6.rs_ (RS.of sab (by rw [← List.map_append] at *; exact st6.rs.rg)) hFr hLr hBr
        refine ⟨rfl, _, rfl, _, rfl, by show 2 ≤ sizeLine; decide, fun t2 ht2 => ⟨_, rfl, F, _, rfl, Same.new ht2 _ _ st7.fd, fun q2 hq2 => ?_⟩⟩
        have sn := (Same.new (o := .tup [.str p, .str l]) ht2).trans (Same.new (o := .lst ((((names.take i).map fun n => (Sum.inr n : Key)).zip (as.map V.ref)).map (·.2))) hq2)
        have eas : (((names.take i).map fun n => (Sum.inr n : Key)).zip (as.map V.ref)).map (·.2) = as.map V.ref := by
          rw [List.map_snd_zip]
          rw [List.length_map, List.length_map, List.length_take, st7.al]; omega
        refine ⟨pr2 p l, ls.map fun z => pr2 z.1 z.2, pr2_dp (Same.new hq2 _ _ upd_same), .lst (xs := as.map V.ref) (SqL.of (by rw [upd_same, eas])) (dps_of as ls (by rw [st7.al, st7.ll]) fun j p l a h1 h2 => sn _ _ (st7.at_ j p l a h1 h2)), pr2_shaped _ _ hpok lok, pr2s_shaped _ fun z hz => ?_, _, rfl, ?_⟩
        · obtain ⟨j, hj, e⟩ := List.mem_iff_getElem.mp hz
          have h1 := st7.ok j z.1 z.2 (by rw [List.getElem?_eq_getElem hj, e])
          exact ⟨par_ok _ _ h1.1, nameB_ok h1.2⟩
        · show if (!(ls.map fun z => pr2 z.1 z.2).any fun z => PyData.eqv z (pr2 p l)) = true then _ else _
          rw [pr2s_any]
          exact iteND (fun h1 => ⟨_, rfl, k1 _ _ sn (fil_yes hl (by simp [h1]))⟩) fun h1 => k2 _ sn (fil_no hl (by simp [h1]))
      · intro H7 s8 hD7
        rw [List.length_map, List.take_of_length_le (Nat.le_refl _)] at hD7
        have hD7 : H7 D = some (.lst ((freeL ls p names).map V.str)) := hD7
        have hDr : D ≠ r := fun e => st6.rs.rg.ne (by rw [List.map_append]; exact e ▸ hD)
        have s8' : Same (upd H4 p4 (.lst ((LABS ++ names).map V.str))) H7 := by rw [List.map_append]; exact s8
        have st8 := st6.rs_ (RS.of s8' st6.rs.rg) hFr hLr hBr
        have hpos := freeL_some (p := p) hnd (show ls.length < names.length by rw [st8.ll]; exact hi)
        obtain ⟨mm, emm, hm1, hm4, hml⟩ : ∃ mm : Nat, (if ((((freeL ls p names).map V.str).length : Nat) : Int) < 4 then ((((freeL ls p names).map V.str).length : Nat) : Int) else 4) = (mm : Int) ∧ 0 < mm ∧ mm ≤ 4 ∧ mm ≤ (freeL ls p names).length := by
          rw [List.length_map]
          by_cases h : (((freeL ls p names).length : Nat) : Int) < 4
          · exact ⟨_, if_pos h, hpos, by omega, Nat.le_refl _⟩
          · exact ⟨4, if_neg h, by decide, by decide, by omega⟩
        refine ⟨_, rfl, _, rfl, _, rfl, _, rfl, _, _, rfl, .inl (SqL.of hD7), _, _, rfl, r, mm, congrArg (fun z => [V.ref r, V.int z]) emm, st8.rs.rg, hm1, by omega, fun d H8 s9 hd => ?_⟩
        have hd2 : d < (freeL ls p names).length := by omega
        obtain ⟨l, hl⟩ : ∃ l, (freeL ls p names)[d]? = some l := ⟨_, List.getElem?_eq_getElem hd2⟩
        obtain ⟨l1, l2⟩ := freeL_mem (List.mem_of_getElem? hl)
        have st9 := st8.rs_ s9 hFr hLr hBr
        refine ⟨D, _, d, .str l, rfl, rfl, SqL.of (s9.at hD7 hDr), atI_nat (by rw [List.getElem?_map, hl]; rfl), by show 2 ≤ sizeLine; decide, fun t3 ht3 => ?_⟩
        have st10 := st9.rs_ (RS.new (o := .tup [.str p, .str l]) st9.rs.rg ht3) hFr hLr hBr
        have htk : names.take (i + 1) = names.take i ++ [n] := by rw [List.take_add_one, hn]; rfl
        have hkn : (Sum.inr n : Key) ∉ ((((names.take i).map fun n => (Sum.inr n : Key)).zip (as.map V.ref)).map (·.1)) := fun hm => by
          rw [List.map_fst_zip (by rw [List.length_map, List.length_map, List.length_take, st10.al]; omega)] at hm
          obtain ⟨n', hn', e⟩ := List.mem_map.mp hm
          cases e
          obtain ⟨j, hj, ej⟩ := List.mem_iff_getElem.mp hn'
          rw [List.length_take] at hj
          rw [List.getElem_take] at ej
          have := nd_ix hnd (i := j) (j := i) (by rw [List.getElem?_eq_getElem (by omega), ej]) hn
          omega
        have hF0 : H F = none := s3.free hF
        have t3F : t3 ≠ F := fun e => by rw [e, st9.fd] at ht3; cases ht3
        refine ⟨_, rfl, _, rfl, F, _, rfl, DPut.k (k := Sum.inr n) st10.fd (by rw [List.length_zip, List.length_map, List.length_map, List.length_take, st10.al, sz]; omega), _, _, _, _, _, ls ++ [(p, l)], as ++ [t3], rfl, ⟨st10.rs.mut hF0 hFr, by rw [List.length_append, st10.ll]; rfl, by rw [List.length_append, st10.al]; rfl, ?_, by rw [upd_ne LF_]; exact st10.nm, by rw [upd_ne (Ne.symm FB_)]; exact st10.lb, fun j p' l' a h1 h2 => ?_, fun j p' l' h1 => ?_, ?_⟩⟩
        · rw [upd_same, putK_new _ (val_none hkn), htk, List.map_append, List.map_append, List.zip_append (by rw [List.length_map, List.length_map, List.length_take, st10.al]; omega)]
          rfl
        · by_cases hj : j < i
          · rw [List.getElem?_append_left (by rw [st10.ll]; exact hj)] at h1
            rw [List.getElem?_append_left (by rw [st10.al]; exact hj)] at h2
            have h3 := st10.at_ j p' l' a h1 h2
            rw [upd_ne (fun e => by rw [e, st10.fd] at h3; cases h3)]
            exact h3
          · have hj2 := (List.getElem?_eq_some_iff.mp h1).1
            rw [List.length_append, st10.ll] at hj2
            have hj3 : j = i := by simp at hj2; omega
            subst hj3
            rw [List.getElem?_append_right (by rw [st10.ll]; exact Nat.le_refl _), st10.ll, Nat.sub_self] at h1
            rw [List.getElem?_append_right (by rw [st10.al]; exact Nat.le_refl _), st10.al, Nat.sub_self] at h2
            cases h1
            cases h2
            rw [upd_ne t3F]
            exact upd_same
        · by_cases hj : j < i
          · rw [List.getElem?_append_left (by rw [st10.ll]; exact hj)] at h1
            exact st10.ok j p' l' h1
          · have hj2 := (List.getElem?_eq_some_iff.mp h1).1
            rw [List.length_append, st10.ll] at hj2
            have hj3 : j = i := by simp at hj2; omega
            subst hj3
            rw [List.getElem?_append_right (by rw [st10.ll]; exact Nat.le_refl _), st10.ll, Nat.sub_self] at h1
            cases h1
            exact ⟨hpin, hlabs _ l1⟩
        · exact List.nodup_append.mpr ⟨st10.nd, by simp, fun a ha b hb e => l2 (by rw [List.mem_singleton.mp hb] at e; rw [← e]; exact ha)⟩
    · rintro σ H2 ⟨vk, vn, vp, vf, vl, ls, as, rfl, st⟩
      have eN : (names.map V.str).length = names.length := List.length_map ..
      rw [eN] at st
      refine ⟨_, rfl, _, rfl, r, L, names.map V.str, rfl, st.rs.rg, Ne.symm hLr, st.nm, by rw [eN]; omega, fun p5 ys H5 hp5 s8 hys pm => ?_⟩
      obtain ⟨ns, rfl, pm2⟩ := perm_strs pm
      obtain ⟨fz, hfz⟩ := tab_of names ls hnd st.ll
      obtain ⟨ad, ead, had⟩ := zip_tab names as hnd st.al
      have st2 := st.rs_ s8 hFr hLr hBr
      have hnN : ∀ n, n ∈ ns → n ∈ names := fun n hn => pm2.mem_iff.mp hn
      have hnsN : ns.Nodup := pm2.nodup_iff.mpr hnd
      have hnl : ns.length ≤ 40 := by rw [pm2.length_eq]; omega
      have hfd : H5 F = some (.dK (names.map fun n => ((Sum.inr n : Key), V.ref (ad n)))) := by
        have := st2.fd
        rw [List.take_of_length_le (Nat.le_refl _), ead] at this
        exact this
      refine ⟨p5, rfl, ⟨_, SqL.of hys⟩, fun D hD => lc_fresh (walk_list (xs := ns.map V.str)) hD (fun i a H' => ∃ n, ns[i]? = some n ∧ H' a = some (.tup [.str n, .ref (ad n)])) (fun i a H1 H2 na s ⟨n, hn, h⟩ => ⟨n, hn, s a _ na h⟩) (fun i a H1 ⟨n, _, h⟩ e => by rw [h] at e; cases e) (by rw [List.length_map, sz]; omega) (fun H' s => SqL.of (s _ _ hys)) ?_ ?_⟩
      · rintro i x Ha Hb Kt hi sab ⟨rfl, hv⟩ k
        rw [List.getElem?_map] at hv
        obtain ⟨n, hn, rfl⟩ := Option.map_eq_some_iff.mp hv
        have hg := dget_rd (Sum.inr n : Key) (.inl (sab _ _ hfd))
        rw [val_ns, if_pos (hnN n (List.mem_of_getElem? hn))] at hg
        exact ⟨rfl, _, rfl, _, rfl, _, rfl, F, _, rfl, hg, by show 2 ≤ sizeLine; decide, fun a ha => k a _ (Same.new ha) ha ⟨n, hn, upd_same⟩⟩
      · intro H6 bs s9 hD6 hlen2 hand2 hat2
        rw [List.length_map] at hlen2
        obtain ⟨tb, _, htb⟩ := zip_tab ns bs hnsN hlen2
        have eb : bs = ns.map tb := list_tab hlen2 htb
        have tbl : ∀ n, n ∈ ns → H6 (tb n) = some (.tup [.str n, .ref (ad n)]) := fun n hn => by
          obtain ⟨i, hi, e⟩ := List.mem_iff_getElem.mp hn
          obtain ⟨⟨m, hm, h1⟩, h2, _⟩ := hat2 i _ (htb i n (by rw [List.getElem?_eq_getElem hi, e]))
          rw [List.getElem?_eq_getElem hi, e] at hm
          cases hm
          exact h1
        refine ⟨D, bs, ns.map fun n => ((Sum.inr n : Key), V.ref (ad n)), rfl, SqL.of hD6, by rw [eb]; exact paired_map ns fun n hn => SqT.of (tbl n hn), fun p hp => ?_⟩
        have s10 := st2.rs.trans (RS.of s9 st2.rs.rg)
        have s11 := s10.trans (RS.new (o := .dK (mergeK [] (ns.map fun n => ((Sum.inr n : Key), V.ref (ad n))))) s10.rg hp)
        have emk : mergeK [] (ns.map fun n => ((Sum.inr n : Key), V.ref (ad n))) = ns.map fun n => ((Sum.inr n : Key), V.ref (ad n)) := mergeK_nd (by
          rw [List.map_map]
          exact List.Pairwise.map _ (fun a b h e => h (Sum.inr.inj e)) hnsN)
        refine q p ns (fun n => (fz n).1) (fun n => (fz n).2) ad _ (s10.free hp) s11 ?_ (drawn_TD hnd st.ll (by omega) hns st.ok st.nd (fun j n hj => hfz j n hj) pm2) (by rw [pm2.length_eq, hlen])
        have hpp : upd H6 p (.dK (mergeK [] (ns.map fun n => ((Sum.inr n : Key), V.ref (ad n))))) p = some (.dK (ns.map fun n => ((Sum.inr n : Key), V.ref (ad n)))) := by rw [upd_same, emk]
        refine ⟨⟨.inl hpp, fun n hn => ?_⟩, hpp⟩
        obtain ⟨j, hj, e⟩ := List.mem_iff_getElem.mp (hnN n hn)
        have hj' : names[j]? = some n := by rw [List.getElem?_eq_getElem hj, e]
        exact Same.new hp _ _ (s9 _ _ (st2.at_ j _ _ _ (hfz j n hj') (had j n hj')))
end
end MG
/-! text LG -/
set_option Elab.async false
set_option linter.all false
set_option maxRecDepth 100000
set_option maxHeartbeats 4200000
/-! the law's ways and paths -/
namespace MG
open PySem PySem.Spec PyProof.Rows L2
def spWayL : Sp := fun vs H Q _ => ∃ (p : Addr) (n : Str) (ns : List Str) (par lab : Str → Str) (ad : Str → Addr), vs = [.ref p, .str n] ∧ Pl H p ns par lab ad ∧ TD ns par lab ∧ (n = Rt ∨ n ∈ ns) ∧ ∀ (l : Addr) (H' : Hp), H l = none → Same H H' → H' l = some (.lst ((W par Rt n).map V.str)) → Q (.ref l) H'
def spPathL : Sp := fun vs H Q _ => ∃ (p : Addr) (n : Str) (ns : List Str) (par lab : Str → Str) (ad : Str → Addr), vs = [.ref p, .str n] ∧ Pl H p ns par lab ad ∧ TD ns par lab ∧ (n = Rt ∨ n ∈ ns) ∧ ∀ (l : Addr) (H' : Hp), H l = none → Same H H' → H' l = some (.tup ((path par lab Rt n).map V.str)) → Q (.ref l) H'
theorem cut_last (xs : List V) : cutV xs none (some (-1)) = xs.dropLast := by
  unfold cutV
  have e1 : HT.sIx xs.length 0 none = 0 := rfl
  have e2 : HT.sIx xs.length xs.length (some (-1)) = xs.length - 1 := by
    show (if (-1 : Int) < 0 then ((-1 : Int) + (xs.length : Int)).toNat else min (-1 : Int).toNat xs.length) = _
    rw [if_pos (by decide)]
    omega
  rw [e1, e2, List.drop_zero, Nat.sub_zero, List.dropLast_eq_take]
section
variable {P : Program} {w : World} {K : PySem.W.Frag} {mg : Str → Option Value} {base : Heap} {C U : Addr}
theorem sc_s_law_way_up : FnScope ["_law_places_here", "_law_node", "_law_found"] ["_law_places_here", "_law_node"] (defScope s_law_way_up) := ⟨rfl, rfl, rfl, by decide +kernel, rfl, by decide +kernel, by decide +kernel⟩
theorem ok_law_way_up {f : Addr} {fd : FuncData} (T : Txt K mg C) (F : Fun K "_law_way_up" "_law_way_up" s_law_way_up f fd) (hm : mg "_law_way_up" = some (.ref f)) : Cal P w K mg base 1 "_law_way_up" spWayL := by
  refine ⟨f, fd, ["_law_places_here", "_law_node"], ?_, hm, F.kp, F.binds (ps := ["_law_places_here", "_law_node"]) fun _ _ _ _ _ _ us hl => match us, hl with | [_, _], _ => rfl⟩
  refine F.okX sc_s_law_way_up (fun vs H Q E h => ?_) (fun cdv A outer s H vs Q E hr h => ?_)
  · obtain ⟨p, n, ns, par, lab, ad, rfl, _⟩ := h
    rfl
  · obtain ⟨p, n, ns, par, lab, ad, rfl, hp, D, hn, q⟩ := h
    have T0 := D.T
    have hle := T0.W_le hn
    refine ⟨_, PSs.nox (pss_cons (ps_set (i := 2) sc_s_law_way_up.nd rfl (Or.inl rfl) (pe_lst (pa_cons (pv 1) pa_nil)))
    (pss_cons (ps_while PassesOwn.never (pt_cmpR op_ne (pe_ix ix_list (pv 2) (pe_un un_neg pe_int) (fun _ _ => rfl)) pe_str (nomark _)) (pss_one (ps_expr (pe_bm PySem.F.plainAttrs_list PySem.F.slot_list_append PySem.F.type_list_append mt_append (pv 2) (pa_cons (pe_ix ix_tup (pe_dget (hu_of hr) (pv 0) (pe_ix ix_list (pv 2) (pe_un un_neg pe_int) (fun _ _ => rfl)) (fun _ _ => rfl)) pe_int (fun _ _ => rfl)) pa_nil)))))
    (pss_one (ps_ret (pv 2))))), ?_⟩
    refine ⟨_, rfl, (by show 1 ≤ sizeLine; decide), fun l hl => ?_⟩
    refine ⟨fun m σ H1 => ∃ k, σ = [some (.ref p), some (.str n), some (.ref l)] ∧ Same H H1 ∧ H1 l = some (.lst (((W par Rt n).take (k + 1)).map V.str)) ∧ k < (W par Rt n).length ∧ m = (W par Rt n).length - k, ⟨_, 0, rfl, Same.new hl, ?_, T0.W_pos n, rfl⟩, ?_⟩
    · obtain ⟨t, e⟩ := up_head (par := par) (r := Rt) 41 n
      rw [upd_same]
      show _ = some (HO.lst ((List.take 1 (up par Rt 41 n)).map V.str))
      rw [e]; rfl
    · rintro m σ H1 ⟨k, rfl, s1, hL, hk, rfl⟩
      obtain ⟨x, hx⟩ : ∃ x, (W par Rt n)[k]? = some x := ⟨_, List.getElem?_eq_getElem hk⟩
      refine ⟨_, rfl, _, rfl, l, _, _, .str x, rfl, rfl, SqL.of hL, at_take hx, rfl, _, rfl, ?_⟩
      refine iteND (fun h1 => ?_) (fun h1 => ?_)
      · have hxr : x ≠ Rt := fun e => h1 (by rw [e])
        obtain ⟨hy, hxn⟩ := T0.W_next n hn k x hx hxr
        have hpx := (hp.same s1).t x hxn
        refine ⟨_, fun σ' H' h => h, ?_⟩
        refine ⟨_, rfl, .inl ⟨rfl, _, SqL.of hL⟩, _, rfl, _, rfl, _, rfl, l, _, _, .str x, rfl, rfl, SqL.of hL, at_take hx, p, _, rfl, (hp.same s1).get hxn, ad x, _, 0, .str (par x), rfl, rfl, SqT.of hpx, rfl, l, _, _, rfl, rfl, hL, ?_, ?_⟩
        · rw [List.length_map, List.length_take, sz]; omega
        · refine ⟨_, ?_, k + 1, rfl, Same.mut s1 hl, ?_, (List.getElem?_eq_some_iff.mp hy).1, rfl⟩
          · have := (List.getElem?_eq_some_iff.mp hy).1
            omega
          · rw [upd_same, take_map _ _ _ hy]
      · have hxr : x = Rt := V.str.inj h1
        subst hxr
        have e1 := T0.W_end n hn k hx
        refine ⟨_, rfl, q l H1 hl s1 ?_⟩
        rw [hL, List.take_of_length_le (by omega)]
theorem sc_s_law_path : FnScope ["_law_places_here", "_law_node", "_law_one"] ["_law_places_here", "_law_node"] (defScope s_law_path) := ⟨rfl, rfl, rfl, by decide +kernel, rfl, by decide +kernel, by decide +kernel⟩
theorem ok_law_path {f : Addr} {fd : FuncData} (T : Txt K mg C) (F : Fun K "_law_path" "_law_path" s_law_path f fd) (hm : mg "_law_path" = some (.ref f)) (c__law_way_up : Cal P w K mg base 1 "_law_way_up" spWayL) : Cal P w K mg base 2 "_law_path" spPathL := by
  refine ⟨f, fd, ["_law_places_here", "_law_node"], ?_, hm, F.kp, F.binds (ps := ["_law_places_here", "_law_node"]) fun _ _ _ _ _ _ us hl => match us, hl with | [_, _], _ => rfl⟩
  refine F.okX sc_s_law_path (fun vs H Q E h => ?_) (fun cdv A outer s H vs Q E hr h => ?_)
  · obtain ⟨p, n, ns, par, lab, ad, rfl, _⟩ := h
    rfl
  · obtain ⟨p, n, ns, par, lab, ad, rfl, hp, D, hn, q⟩ := h
    have T0 := D.T
    have hle := T0.W_le hn
    refine ⟨_, PSs.nox (pss_one (ps_ret (pe_callTy call_tuple_of (by rfl) T.g_tuple bt_tuple (pa_cons (pe_revL (pe_lc (own := [("_law_one", 2)]) (g := gName 2) (tt := tYes) rfl sc_s_law_path.nd (pi_list (pe_slice sl_list (pe_cl c__law_way_up hr (by decide) (by rfl) (pa_cons (pv 0) (pa_cons (pv 1) pa_nil))) po_none (po_some (pe_un un_neg pe_int)))) (blkOk_by (own := [("_law_one", 2)]) (N := ["_law_places_here", "_law_node", "_law_one"]) (sc := defScope s_law_path) (by decide +kernel)) (fun _ _ _ _ _ => pg_name (i := 2) sc_s_law_path.nd rfl (Or.inl rfl)) (fun _ _ _ _ _ => pts_nil) (fun _ _ _ _ _ => (pe_ix (ix_tupK (K := K) rfl) (pe_dget (hu_of hr) (pv 0) (pv 2) (fun _ _ => rfl)) pe_int (fun _ _ => rfl))))) pa_nil)))), ?_⟩
    refine ⟨_, rfl, _, rfl, p, n, ns, par, lab, ad, rfl, hp, D, hn, fun l1 H1 hl1 s1 hL => ?_⟩
    have hlen : (W par Rt n).dropLast.length ≤ 41 := by
      rw [List.length_dropLast]; omega
    refine ⟨_, rfl, _, rfl, l1, _, rfl, SqL.of hL, fun l2 hl2 => ?_⟩
    rw [cut_last, ← List.map_dropLast]
    have s2 := s1.trans (Same.new (o := .lst ((W par Rt n).dropLast.map V.str)) hl2)
    refine ⟨l2, rfl, ⟨_, SqL.of upd_same⟩, fun D0 hD => lc_each (walk_list (xs := (W par Rt n).dropLast.map V.str)) hD (fun i => ((W par Rt n).dropLast.take i).map fun x => V.str (lab x)) rfl (fun i hi => take_lt (Nat.le_trans hlen (by rw [sz]; decide)) (by rw [List.length_map] at hi; exact hi)) (fun H' s => SqL.of (s _ _ upd_same)) ?_ ?_⟩
    · rintro i v H2 H3 Kt hi s3 ⟨rfl, hv⟩ k
      rw [List.getElem?_map] at hv
      obtain ⟨x, hx', rfl⟩ := Option.map_eq_some_iff.mp hv
      have hxn : x ∈ ns := T0.W_drop n hn x (List.mem_of_getElem? hx')
      have hp3 := hp.same (s2.trans s3)
      exact ⟨rfl, _, rfl, _, rfl, p, _, rfl, hp3.get hxn, ad x, _, 1, .str (lab x), rfl, rfl, SqT.of (hp3.t x hxn), rfl, k _ _ (Same.refl _) (take_map _ _ _ hx')⟩
    · intro H2 s3 h3
      rw [List.length_map, List.take_of_length_le (Nat.le_refl _)] at h3
      have s4 := s2.trans s3
      refine ⟨D0, _, rfl, SqL.of h3, fun l3 hl3 => ?_⟩
      have s5 := s4.trans (Same.new (o := .lst ((W par Rt n).dropLast.map fun x => V.str (lab x)).reverse) hl3)
      refine ⟨l3, _, rfl, .inl ⟨SqL.of upd_same, fun t ht1 => q t _ (s5.free ht1) (s5.trans (Same.new ht1)) ?_⟩⟩
      rw [upd_same]
      unfold path
      rw [List.map_reverse, List.map_map]
      rfl
end
end MG
/-! text LH -/
set_option Elab.async false
set_option linter.all false
set_option maxRecDepth 100000
set_option maxHeartbeats 4200000
/-! the law's walk -/
namespace MG
open PySem PySem.Spec PyProof.Rows L2
theorem cut_from (xs : List V) (k : Nat) (h : k ≤ xs.length) : cutV xs (some (k : Int)) none = xs.drop k := by
  unfold cutV
  rw [HT.sIx_nat, HT.sIx_none, Nat.min_eq_left h]
  exact List.take_of_length_le (by rw [List.length_drop]; exact Nat.le_refl _)
theorem dps_strs {K : PySem.W.Frag} {H : Hp} : ∀ l : List Str, DpAll K H (l.map V.str) (l.map PyData.str)
  | [] => .nil
  | x :: l => .cons (.str x) (dps_strs l)
theorem strs_lay : ∀ l : List Str, (∀ x ∈ l, PyData.strOk x = true) → PyData.canLayAll0 (l.map PyData.str) = true
  | [], _ => by simp [PyData.canLayAll0]
  | x :: l, h => by
    have h1 := h x List.mem_cons_self
    simp [PyData.canLayAll0, PyData.canLay0, h1, strs_lay l fun y hy => h y (List.mem_cons_of_mem _ hy)]
theorem strs_depth : ∀ l : List Str, PyData.depthAll (l.map PyData.str) = 0
  | [] => by simp [PyData.depthAll]
  | x :: l => by simp [PyData.depthAll, PyData.depth, strs_depth l]
theorem strs_shaped (l : List Str) (h : ∀ x ∈ l, PyData.strOk x = true) : SeqAt.shaped (.list (l.map PyData.str)) = true := by
  show (PyData.canLay0 (.list (l.map PyData.str)) && decide (PyData.depth (.list (l.map PyData.str)) ≤ 64)) = true
  rw [Bool.and_eq_true]
  exact ⟨by simp only [PyData.canLay0]; exact strs_lay l h, decide_eq_true (by simp only [PyData.depth, strs_depth]; decide)⟩
theorem strs_tshaped (l : List Str) (h : ∀ x ∈ l, PyData.strOk x = true) : SeqAt.shaped (.tuple (l.map PyData.str)) = true := by
  show (PyData.canLay0 (.tuple (l.map PyData.str)) && decide (PyData.depth (.tuple (l.map PyData.str)) ≤ 64)) = true
  rw [Bool.and_eq_true]
  exact ⟨by simp only [PyData.canLay0]; exact strs_lay l h, decide_eq_true (by simp only [PyData.depth, strs_depth]; decide)⟩
theorem strs_eqvAll : ∀ l m : List Str, PyData.eqvAll (l.map PyData.str) (m.map PyData.str) = decide (l = m)
  | [], [] => by simp [PyData.eqvAll]
  | [], _ :: _ => by simp [PyData.eqvAll]
  | _ :: _, [] => by simp [PyData.eqvAll]
  | x :: l, y :: m => by
    rw [List.map_cons, List.map_cons, PyData.eqvAll, eqv_str, strs_eqvAll l m, ← Bool.decide_and]
    exact decide_eq_decide.mpr (by simp)
theorem strs_eqv (l m : List Str) : PyData.eqv (.list (l.map PyData.str)) (.list (m.map PyData.str)) = decide (l = m) := by rw [PyData.eqv, strs_eqvAll]
theorem idx_of {found : List Str} {x : Str} (h : x ∈ found) : ∃ a b, found = a ++ x :: b ∧ x ∉ a := by
  induction found with
  | nil => cases h
  | cons y l ih =>
    by_cases e : y = x
    · exact ⟨[], l, by rw [e]; rfl, by simp⟩
    · have h2 : x ∈ l := (List.mem_cons.mp h).resolve_left fun q => e q.symm
      obtain ⟨a, b, e1, e2⟩ := ih h2
      exact ⟨y :: a, b, by rw [e1]; rfl, fun q => (List.mem_cons.mp q).elim (fun z => e z.symm) e2⟩
def spWalkedL : Sp := fun vs H Q _ => ∃ (p : Addr) (ns : List Str) (par lab : Str → Str) (ad : Str → Addr), vs = [.ref p] ∧ PlX H p ns par lab ad ∧ TD ns par lab ∧ ∀ (l : Addr) (H' : Hp), H l = none → Same H H' → H' l = some (.lst ((pre (chS ns par lab) Rt).map V.str)) → Q (.ref l) H'
section
variable {P : Program} {w : World} {K : PySem.W.Frag} {mg : Str → Option Value} {base : Heap} {C U : Addr}
theorem sc_s_walked : FnScope ["_law_places_here", "_law_found", "_law_ahead", "_law_here", "_law_below", "_law_label", "_law_name_here", "_law_one", "_law_at_here"] ["_law_places_here"] (defScope s_walked) := ⟨rfl, rfl, rfl, by decide +kernel, rfl, by decide +kernel, by decide +kernel⟩
theorem ok_walkedL {f : Addr} {fd : FuncData} (T : Txt K mg C) (F : Fun K "_law_walked" "_law_walked" s_walked f fd) (hm : mg "_law_walked" = some (.ref f)) : Cal P w K mg base 1 "_law_walked" spWalkedL := by
  refine ⟨f, fd, ["_law_places_here"], ?_, hm, F.kp, F.binds (ps := ["_law_places_here"]) fun _ _ _ _ _ _ us hl => match us, hl with | [_], _ => rfl⟩
  refine F.okX sc_s_walked (fun vs H Q E h => ?_) (fun cdv A outer s H vs Q E hr h => ?_)
  · obtain ⟨p, ns, par, lab, ad, rfl, _⟩ := h
    rfl
  · obtain ⟨p, ns, par, lab, ad, rfl, hp, D, q⟩ := h
    have T0 := D.T
    have Kd := chS_kids T0.nd par lab
    have few := D.few
    refine ⟨_, PSs.nox (pss_cons (ps_par (i := 1) (j := 2) (by rfl) sc_s_walked.nd rfl rfl (by decide) rfl rfl (pa_cons (pe_lst (pa_cons pe_str pa_nil)) (pa_cons (pe_lst (pa_cons pe_str pa_nil)) pa_nil)) (by rfl))
    (pss_cons (ps_while PassesOwn.never (pt_cmpR (op_neD hr.units) (pv 2) (pe_lst pa_nil) (nomark _)) (pss_cons (ps_set (i := 3) sc_s_walked.nd rfl (Or.inr rfl) (pe_bm PySem.F.plainAttrs_list PySem.F.slot_list_pop PySem.F.type_list_pop mt_popAt (pv 2) (pa_cons pe_int pa_nil)))
    (pss_cons (ps_setLc (i := 4) (own := [("_law_label", 5), ("_law_name_here", 6)]) (tt := tYes) rfl sc_s_walked.nd rfl rfl (sw_true rfl rfl rfl (by decide +kernel)) (pi_list (pe_callB (cr_sortedX hr.units) (by rfl) T.g_sorted bt_sorted (pa_cons (pe_lock (pe_lc (own := [("_law_one", 7)]) (g := gName 7) (tt := _) rfl sc_s_walked.nd (pi_keys (pv 0)) (blkOk_by (own := [("_law_one", 7)]) (N := ["_law_places_here", "_law_found", "_law_ahead", "_law_here", "_law_below", "_law_label", "_law_name_here", "_law_one", "_law_at_here"]) (sc := defScope s_walked) (by decide +kernel)) (fun _ _ _ _ _ => pg_name (i := 7) sc_s_walked.nd rfl (Or.inl rfl)) (fun _ _ _ _ _ => (pts_one (pt_cmpR op_eq (pe_ix (ix_tupK (K := K) rfl) (pe_dget (hu_of hr) (pv 0) (pv 7) (fun _ _ => rfl)) pe_int (fun _ _ => rfl)) (pv 3) (nomark _)))) (fun _ _ _ _ _ => (pe_tup (pa_cons (pe_ix (ix_tupK (K := K) rfl) (pe_dget (hu_of hr) (pv 0) (pv 7) (fun _ _ => rfl)) pe_int (fun _ _ => rfl)) (pa_cons (pv 7) pa_nil)))))) pa_nil))) (blkOk_by (own := [("_law_label", 5), ("_law_name_here", 6)]) (N := ["_law_places_here", "_law_found", "_law_ahead", "_law_here", "_law_below", "_law_label", "_law_name_here", "_law_one", "_law_at_here"]) (sc := defScope s_walked) (by decide +kernel)) (fun _ _ _ _ _ => pg_tupK (n := 2) (K := K) rfl rfl (pgs_cons (pg_name (i := 5) sc_s_walked.nd rfl (Or.inl rfl)) (pgs_cons (pg_name (i := 6) sc_s_walked.nd rfl (Or.inl rfl)) pgs_nil))) (fun _ _ _ _ _ => pts_nil) (fun _ _ _ _ _ => (pv 6)))
    (pss_cons (ps_set (i := 8) sc_s_walked.nd rfl (Or.inl rfl) (pe_op op_add (pe_bm PySem.F.plainAttrs_list PySem.F.slot_list_index PySem.F.type_list_index mt_index (pv 1) (pa_cons (pv 3) pa_nil)) pe_int))
    (pss_cons (ps_set (i := 1) sc_s_walked.nd rfl (Or.inl rfl) (pe_op op_cat (pe_op op_cat (pe_slice sl_list (pv 1) po_none (po_some (pv 8))) (pv 4)) (pe_slice sl_list (pv 1) (po_some (pv 8)) po_none)))
    (pss_one (ps_set (i := 2) sc_s_walked.nd rfl (Or.inl rfl) (pe_op op_cat (pv 2) (pv 4)))))))))
    (pss_one (ps_ret (pv 1))))), ?_⟩
    refine ⟨by show 1 ≤ sizeLine; decide, fun l1 hl1 => ⟨by show 1 ≤ sizeLine; decide, fun l2 hl2 => ⟨_, _, rfl, ?_⟩⟩⟩
    have l12 : l1 ≠ l2 := fun e => by rw [← e, upd_same] at hl2; cases hl2
    have s0 : Same H (upd (upd H l1 (.lst [.str Rt])) l2 (.lst [.str Rt])) := (Same.new hl1).trans (Same.new hl2)
    refine ⟨fun m σ H1 => ∃ (fl al : Addr) (found ahead : List Str) (v3 v4 v5 v6 v7 v8 : Option V), σ = [some (.ref p), some (.ref fl), some (.ref al), v3, v4, v5, v6, v7, v8] ∧ Same H H1 ∧ H fl = none ∧ H al = none ∧ H1 fl = some (.lst (found.map V.str)) ∧ H1 al = some (.lst (ahead.map V.str)) ∧ fl ≠ al ∧
      Queue Rt (chS ns par lab) found ahead ∧ ahead.Nodup ∧ m = (ahead.flatMap (pre (chS ns par lab))).length, ⟨_, l1, l2, [Rt], [Rt], none, none, none, none, none, none, rfl, s0, hl1, (Same.new hl1).free hl2, by rw [upd_ne l12]; exact upd_same, upd_same, l12, Queue.start, by simp, rfl⟩, ?_⟩
    rintro m σ H1 ⟨fl, al, found, ahead, v3, v4, v5, v6, v7, v8, rfl, s1, hfl, hal, hF, hA, fa, qu, and_, rfl⟩
    have hstr : ∀ x, x ∈ found → PyData.strOk x = true := fun x hx => by
      rcases qu.mem T0 Kd hx with e | h
      · rw [e]; decide +kernel
      · exact nameB_ok (D.nm x h)
    refine ⟨_, rfl, by show 0 ≤ sizeLine; decide, fun e1 he1 => ?_⟩
    refine ⟨.list (ahead.map PyData.str), .list (([] : List Str).map PyData.str), .lst (SqL.of (Same.new he1 _ _ hA)) (dps_strs _), .lst (SqL.of upd_same) (dps_strs []), strs_shaped _ fun x hx => hstr x (qu.sub x hx), strs_shaped _ (by simp), _, rfl, ?_⟩
    rw [strs_eqv]
    refine iteND (fun hne => ?_) (fun heq => ?_)
    · obtain ⟨here, rest, rfl⟩ : ∃ here rest, ahead = here :: rest := by
        cases ahead with
        | nil => exact absurd rfl hne
        | cons a b => exact ⟨a, b, rfl⟩
      refine ⟨_, fun σ' H' h => h, ?_⟩
      have hA1 := Same.new (o := .lst []) he1 _ _ hA
      have hF1 := Same.new (o := .lst []) he1 _ _ hF
      have s2 := s1.trans (Same.new (o := .lst []) he1)
      have hhere := qu.sub here List.mem_cons_self
      obtain ⟨fa1, fb1, ef, hnf⟩ := idx_of hhere
      refine ⟨_, rfl, .inl ⟨rfl, _, SqL.of hA1⟩, al, _, 0, 0, .str here, rfl, rfl, hA1, by decide, by decide, by rw [seqIndex_at (by decide) (by rw [List.map_cons, List.length_cons]; omega)]; rfl, rfl, ?_⟩
      have s3 : Same H (upd (upd H1 e1 (.lst [])) al (.lst (((here :: rest).map V.str).eraseIdx 0))) := Same.mut s2 hal
      have hA3 : (upd (upd H1 e1 (.lst [])) al (.lst (((here :: rest).map V.str).eraseIdx 0))) al = some (.lst (rest.map V.str)) := upd_same
      have hF3 : (upd (upd H1 e1 (.lst [])) al (.lst (((here :: rest).map V.str).eraseIdx 0))) fl = some (.lst (found.map V.str)) := by rw [upd_ne fa]; exact hF1
      generalize (upd (upd H1 e1 (.lst [])) al (.lst (((here :: rest).map V.str).eraseIdx 0))) = H3 at s3 hA3 hF3
      clear s1 s2 hA hF hA1 hF1 he1
      have hp3 := hp.same s3
      have hk3 := hp3.2
      refine ⟨p, _, hk3, trivial, fun od => ?_⟩
      obtain ⟨_, hp4⟩ := hp3.1.lock hk3 od
      refine ⟨_, rfl, p, od, rfl, .inl ⟨_, upd_same, fun D0 hD0 => lc_it walk_keys (fun i H' => ∃ as : List Addr, H' D0 = some (.lst (as.map V.ref)) ∧ Same (upd H3 p (.frz od (.dK (ns.map fun n => ((Sum.inr n : Key), V.ref (ad n)))))) H' ∧ as.length = ((ns.take i).filter fun q => decide (par q = here)).length ∧
        ∀ (j : Nat) (n : Str) (a : Addr), ((ns.take i).filter fun q => decide (par q = here))[j]? = some n → as[j]? = some a → H' a = some (.tup [.str (lab n), .str n])) ⟨[], upd_same, Same.new hD0, rfl, fun j n a h => by simp at h⟩ (fun i H' _ ⟨_, _, s, _⟩ => s _ _ upd_same) ?_ ?_⟩⟩
      · rintro i x Ha Hb hi ⟨as, hDa, sa, hla, hat⟩ ⟨rfl, k, v2, hkv, rfl⟩
        obtain ⟨n, hn, rfl, rfl⟩ := key_ns hkv
        have hnn := List.mem_of_getElem? hn
        have hpa := hp4.same sa
        have e1 : ns.take (i + 1) = ns.take i ++ [n] := by rw [List.take_add_one, hn]; rfl
        have hile : i < ns.length := (List.getElem?_eq_some_iff.mp hn).1
        refine ⟨rfl, _, rfl, _, rfl, p, _, rfl, hpa.get hnn, ad n, _, 0, .str (par n), rfl, rfl, SqT.of (hpa.t n hnn), rfl, _, rfl, rfl, _, rfl, ?_⟩
        refine iteD (fun h1 => ?_) (fun h1 => ?_)
        · have h1 : par n = here := V.str.inj h1
          have e2 : ((ns.take i ++ [n]).filter fun q => decide (par q = here)) = ((ns.take i).filter fun q => decide (par q = here)) ++ [n] := by rw [List.filter_append]; simp [h1]
          refine ⟨_, rfl, _, rfl, p, _, rfl, hpa.get hnn, ad n, _, 1, .str (lab n), rfl, rfl, SqT.of (hpa.t n hnn), rfl, _, rfl, by show 2 ≤ sizeLine; decide, fun a ha => ?_⟩
          have sn := Same.new (o := .tup [.str (lab n), .str n]) ha
          refine ⟨_, sn _ _ hDa, ?_, as ++ [a], by rw [upd_same, List.map_append]; rfl, Same.mut (sa.trans sn) hD0, by rw [e1, e2, List.length_append, List.length_append, hla]; rfl, fun j m b h2 h3 => ?_⟩
          · have := List.length_filter_le (fun q => decide (par q = here)) (ns.take i)
            rw [List.length_take] at this
            rw [List.length_map, hla, sz]; omega
          · have hval : (upd Hb a (.tup [.str (lab n), .str n])) b = some (.tup [.str (lab m), .str m]) := by
              rw [e1, e2] at h2
              by_cases hj : j < as.length
              · rw [List.getElem?_append_left (by rw [← hla]; exact hj)] at h2
                rw [List.getElem?_append_left hj] at h3
                exact sn _ _ (hat j m b h2 h3)
              · have hj2 := (List.getElem?_eq_some_iff.mp h3).1
                rw [List.length_append] at hj2
                have hj3 : j = as.length := by simp at hj2; omega
                subst hj3
                rw [hla, List.getElem?_append_right (Nat.le_refl _), Nat.sub_self] at h2
                rw [List.getElem?_append_right (Nat.le_refl _), Nat.sub_self] at h3
                cases h2
                cases h3
                exact upd_same
            rw [upd_ne (fun e => by rw [e, sn _ _ hDa] at hval; cases hval)]
            exact hval
        · have h1 : par n ≠ here := fun e => h1 (by rw [e])
          have e2 : ((ns.take i ++ [n]).filter fun q => decide (par q = here)) = ((ns.take i).filter fun q => decide (par q = here)) := by rw [List.filter_append]; simp [h1]
          exact ⟨as, hDa, sa, by rw [e1, e2]; exact hla, fun j m b h2 h3 => by rw [e1, e2] at h2; exact hat j m b h2 h3⟩
      · rintro H4 ⟨as, hDa, sa, hla, hat⟩
        rw [List.length_map, List.take_of_length_le (Nat.le_refl _)] at hla hat
        have hfz : H4 p = some (.frz od (.dK (ns.map fun n => ((Sum.inr n : Key), V.ref (ad n))))) := sa _ _ upd_same
        refine ⟨hfz, ?_⟩
        have s5 := s3.trans (Same.unlock hk3 sa)
        have u5 : Same H3 (upd H4 p (.dK (ns.map fun n => ((Sum.inr n : Key), V.ref (ad n))))) := Same.unlock hk3 sa
        obtain ⟨tb, _, htb⟩ := zip_tab (ns.filter fun q => decide (par q = here)) as (T0.nd.filter _) hla
        have eas : as = (ns.filter fun q => decide (par q = here)).map tb := list_tab hla htb
        have tbl : ∀ n, n ∈ (ns.filter fun q => decide (par q = here)) → (upd H4 p (.dK (ns.map fun n => ((Sum.inr n : Key), V.ref (ad n))))) (tb n) = some (.tup [.str (lab n), .str n]) := fun n hn => by
          obtain ⟨i, hi, e⟩ := List.mem_iff_getElem.mp hn
          have h1 := hat i n (tb n) (by rw [List.getElem?_eq_getElem hi, e]) (htb i n (by rw [List.getElem?_eq_getElem hi, e]))
          rw [upd_ne (fun e => by rw [e, hfz] at h1; cases h1)]
          exact h1
        have hD5 : (upd H4 p (.dK (ns.map fun n => ((Sum.inr n : Key), V.ref (ad n))))) D0 = some (.lst ((ns.filter fun q => decide (par q = here)).map fun n => V.ref (tb n))) := by
          rw [upd_ne (fun e => by rw [e, hfz] at hDa; cases hDa), hDa, eas, List.map_map]; rfl
        have hA5 := u5 _ _ hA3
        have hF5 := u5 _ _ hF3
        generalize (upd H4 p (.dK (ns.map fun n => ((Sum.inr n : Key), V.ref (ad n))))) = H5 at s5 tbl hD5 hA5 hF5 u5
        have hfl5 : ((ns.filter fun q => decide (par q = here))).length ≤ 40 := Nat.le_trans (List.length_filter_le _ _) few
        refine ⟨Str, D0, (ns.filter fun q => decide (par q = here)), fun n => V.ref (tb n), encL lab, rfl, SqL.of hD5, fun n hn => .tup (SqT.of (tbl n hn)) (.cons (.str _) (.cons (.str _) .nil)), alike_encL _ _, sortable_encL _ _, by rw [sz]; omega, fun n _ => depth_encL _ _, fun q2 hq2 => ?_⟩
        rw [chS_law]
        have hch : ∀ n, n ∈ chS ns par lab here → n ∈ ns.filter fun q => decide (par q = here) := fun n hn => by
          rw [← chS_law] at hn
          exact (List.mergeSort_perm _ _).mem_iff.mp hn
        have hchl : (chS ns par lab here).length ≤ 40 := by
          rw [← chS_law, (List.mergeSort_perm _ _).length_eq]; exact hfl5
        refine ⟨q2, rfl, ⟨_, SqL.of upd_same⟩, fun D1 hD1 => lc_each (walk_list (xs := (chS ns par lab here).map fun n => V.ref (tb n))) hD1 (fun i => ((chS ns par lab here).take i).map V.str) rfl (fun i hi => ?_) (fun H' s => SqL.of (s _ _ upd_same)) ?_ ?_⟩
        · rw [List.length_map, List.length_take, sz]; omega
        · rintro i v Ha Hb Kt hi sab ⟨rfl, hv⟩ k
          rw [List.getElem?_map] at hv
          obtain ⟨n, hn, rfl⟩ := Option.map_eq_some_iff.mp hv
          exact ⟨tb n, _, rfl, SqT.of (sab _ _ (Same.new hq2 _ _ (tbl n (hch n (List.mem_of_getElem? hn))))), rfl, _, _, rfl, _, _, rfl, rfl, rfl, _, rfl, k _ _ (Same.refl _) (take_map _ _ _ hn)⟩
        · intro H6 s6 hB
          rw [List.length_map, List.take_of_length_le (Nat.le_refl _)] at hB
          have u6 := (Same.new (o := .lst ((chS ns par lab here).map fun n => V.ref (tb n))) hq2).trans s6
          have s7 := s5.trans u6
          have hA6 := u6 _ _ hA5
          have hF6 := u6 _ _ hF5
          clear hat tbl hD5 hA5 hF5 s5 s3 hA3 hF3 hp3 hp4 hk3
          subst ef
          have hfl41 : (fa1 ++ here :: fb1).length ≤ 41 := by
            have h1 := nodup_le _ (Rt :: ns) (qu.nd T0 Kd) fun x hx => (qu.mem T0 Kd hx).elim (fun e => e ▸ List.mem_cons_self) fun h => List.mem_cons_of_mem _ h
            rw [List.length_cons] at h1
            omega
          have hal1 : fa1.length + 1 ≤ (fa1 ++ here :: fb1).length := by rw [List.length_append, List.length_cons]; omega
          refine ⟨_, rfl, .inl ⟨rfl, _, SqL.of hF6⟩, _, rfl, fl, _, .str here, fa1.length, .str here, rfl, rfl, SqL.of hF6, rfl, flat_strs _, by rw [List.getElem?_map, List.getElem?_append_right (Nat.le_refl _), Nat.sub_self]; rfl, by simp [eqV], fun k z' hk hz => ?_, _, _, rfl, rfl, ?_⟩
          · rw [List.getElem?_map, List.getElem?_append_left hk] at hz
            obtain ⟨x, hx, rfl⟩ := Option.map_eq_some_iff.mp hz
            have : x ≠ here := fun e => hnf (e ▸ List.mem_of_getElem? hx)
            simp [eqV, this]
          have eidx : ((fa1.length : Nat) : Int) + 1 = ((fa1.length + 1 : Nat) : Int) := by omega
          refine ⟨_, rfl, _, rfl, _, rfl, fl, _, rfl, SqL.of hF6, fun x1 hx1 => ?_⟩
          have n1 := Same.new (o := .lst (cutV ((fa1 ++ here :: fb1).map V.str) none (some (((fa1.length : Nat) : Int) + 1)))) hx1
          have ex1 : cutV ((fa1 ++ here :: fb1).map V.str) none (some (((fa1.length : Nat) : Int) + 1)) = (fa1 ++ [here]).map V.str := by
            rw [eidx, cut_to _ _ (by rw [List.length_map]; exact hal1), ← List.map_take]
            congr 1
            rw [List.take_append, List.take_of_length_le (by omega)]
            have : fa1.length + 1 - fa1.length = 1 := by omega
            rw [this]; rfl
          rw [ex1] at n1 ⊢
          refine ⟨_, rfl, x1, D1, _, _, rfl, rfl, upd_same, n1 _ _ hB, ?_, fun x2 hx2 => ?_⟩
          · rw [List.length_map, List.length_map, sz]; rw [List.length_append] at *; simp at *; omega
          have n2 := n1.trans (Same.new (o := .lst ((fa1 ++ [here]).map V.str ++ (chS ns par lab here).map V.str)) hx2)
          refine ⟨_, rfl, _, rfl, _, rfl, fl, _, rfl, SqL.of (n2 _ _ hF6), fun x3 hx3 => ?_⟩
          have n3 := n2.trans (Same.new (o := .lst (cutV ((fa1 ++ here :: fb1).map V.str) (some (((fa1.length : Nat) : Int) + 1)) none)) hx3)
          have ex3 : cutV ((fa1 ++ here :: fb1).map V.str) (some (((fa1.length : Nat) : Int) + 1)) none = fb1.map V.str := by
            rw [eidx, cut_from _ _ (by rw [List.length_map]; exact hal1), ← List.map_drop]
            congr 1
            rw [List.drop_append, List.drop_of_length_le (by omega)]
            have : fa1.length + 1 - fa1.length = 1 := by omega
            rw [this]; rfl
          have x23 : x2 ≠ x3 := fun e => by rw [← e, upd_same] at hx3; cases hx3
          rw [ex3] at n3 ⊢
          refine ⟨x2, x3, _, _, rfl, rfl, by rw [upd_ne x23]; exact upd_same, upd_same, ?_, fun x4 hx4 => ?_⟩
          · rw [List.length_append, List.length_map, List.length_map, List.length_map, sz]; rw [List.length_append] at *; simp at *; omega
          have n4 := n3.trans (Same.new (o := .lst (((fa1 ++ [here]).map V.str ++ (chS ns par lab here).map V.str) ++ fb1.map V.str)) hx4)
          obtain ⟨qu2, nd2⟩ := qu.turn T0 Kd and_
          have hq := queue_less (ahead := rest) (here := here) T0 Kd
          refine ⟨_, rfl, _, rfl, al, D1, _, _, rfl, rfl, n4 _ _ hA6, n4 _ _ hB, ?_, fun x5 hx5 => ?_⟩
          · have h1 := nodup_le _ (Rt :: ns) (List.nodup_cons.mp and_).2 fun x hx => (qu.mem T0 Kd (qu.sub x (List.mem_cons_of_mem _ hx))).elim (fun e => e ▸ List.mem_cons_self) fun h => List.mem_cons_of_mem _ h
            rw [List.length_cons] at h1
            rw [List.length_map, List.length_map, sz]; omega
          have n5 := n4.trans (Same.new (o := .lst (rest.map V.str ++ (chS ns par lab here).map V.str)) hx5)
          have x45 : x4 ≠ x5 := fun e => by rw [← e, upd_same] at hx5; cases hx5
          refine ⟨_, by rw [← hq]; exact Nat.lt_succ_self _, x4, x5, fa1 ++ here :: (chS ns par lab here ++ fb1), rest ++ chS ns par lab here, _, _, _, _, _, _, rfl, s7.trans n5, (s7.trans n3).free hx4, (s7.trans n4).free hx5, ?_, by rw [upd_same, List.map_append], x45, qu2, nd2, rfl⟩
          rw [upd_ne x45, upd_same]
          congr 2
          simp
    · subst heq
      have s2 := s1.trans (Same.new (o := .lst []) he1)
      have hd := qu.done
      subst hd
      exact ⟨_, rfl, q fl _ hfl s2 (Same.new he1 _ _ hF)⟩
end
end MG
/-! text D6 -/
set_option Elab.async false
set_option linter.all false
set_option maxRecDepth 100000
set_option maxHeartbeats 4200000
/-! the making of a tree: __init__ -/
namespace MG
open PySem PySem.Spec PyProof.Rows L2
theorem join_le (sep : Str) (ts : List Str) (m : Nat) (h : ∀ t, t ∈ ts → t.length ≤ m) : (Txt.join sep ts).length ≤ ts.length * (m + sep.length) := by
  rw [TL.join_eq]
  have e1 := StrLaws.join_length_le sep ts
  have e2 : (ts.map (·.length)).sum ≤ ts.length * m := by
    clear e1
    induction ts with
    | nil => simp
    | cons t ts ih =>
      have h1 := h t List.mem_cons_self
      have h2 := ih fun u hu => h u (List.mem_cons_of_mem _ hu)
      rw [List.map_cons, List.sum_cons, List.length_cons, Nat.succ_mul]
      omega
  rw [Nat.mul_add]
  omega
theorem sum_le' (ts : List Str) (m : Nat) (h : ∀ t, t ∈ ts → t.length ≤ m) : (ts.map (·.length)).sum ≤ ts.length * m := by
  induction ts with
  | nil => simp
  | cons t ts ih =>
    have h1 := h t List.mem_cons_self
    have h2 := ih fun u hu => h u (List.mem_cons_of_mem _ hu)
    rw [List.map_cons, List.sum_cons, List.length_cons, Nat.succ_mul]
    omega
def lineS (par lab : Str → Str) (n : Str) : Str := Txt.join "/" (path par lab Rt n) ++ " " ++ n ++ "\n"
theorem TD.path_lab {ns : List Str} {par lab : Str → Str} (D : TD ns par lab) {n : Str} (hn : n = Rt ∨ n ∈ ns) : ∀ x, x ∈ path par lab Rt n → nameB x = true := fun x hx => by
  unfold path at hx
  obtain ⟨m, hm, rfl⟩ := List.mem_map.mp (List.mem_reverse.mp hx)
  exact D.lm m (D.T.W_drop n hn m hm)
theorem TD.path_le {ns : List Str} {par lab : Str → Str} (D : TD ns par lab) {n : Str} (hn : n = Rt ∨ n ∈ ns) : (path par lab Rt n).length ≤ 40 := by
  rw [path_len D.T]
  have := D.T.W_le hn
  omega
theorem lineS_le {ns : List Str} {par lab : Str → Str} (D : TD ns par lab) {n : Str} (hn : n ∈ ns) : (lineS par lab n).length ≤ 400 := by
  have hlab := D.path_lab (.inr hn)
  have hplen := D.path_le (.inr hn)
  have hj := join_le "/" (path par lab Rt n) 8 fun x hx => (nameB_len (hlab x hx)).2
  have l3 : ("/" : Str).length = 1 := by decide
  have hj1 : (Txt.join "/" (path par lab Rt n)).length ≤ 360 := by
    rw [l3] at hj
    omega
  have hnl := nameB_len (D.nm n hn)
  have l1 : (" " : Str).length = 1 := by decide
  have l2 : ("\n" : Str).length = 1 := by decide
  unfold lineS
  rw [Str.length_append, Str.length_append, Str.length_append, l1, l2]
  omega
def spLine (C : Addr) : Sp := fun vs H Q _ => ∃ (a : Addr) (n : Str) (ns : List Str) (par lab : Str → Str), vs = [.ref a, .str n] ∧ TP C H a ns par lab ∧ TD ns par lab ∧ n ∈ ns ∧ ∀ H', Same H H' → (lineS par lab n).length ≤ 400 → Q (.str (lineS par lab n)) H'
section
variable {P : Program} {w : World} {K : PySem.W.Frag} {mg : Str → Option Value} {base : Heap} {C U : Addr}
theorem sc_s_line_of : FnScope ["self", "node"] ["self", "node"] (defScope s_line_of) := ⟨rfl, rfl, rfl, by decide +kernel, rfl, by decide +kernel, by decide +kernel⟩
theorem ok_line_of {f : Addr} {fd : FuncData} (T : Txt K mg C) (F : Fun K "line_of" "Tree.line_of" s_line_of f fd) (hm : Meth K C "line_of" f) (c_path_of : Met P w K mg base 5 C "path_of" (spOf U C rPath)) : Met P w K mg base 6 C "line_of" (spLine C) := by
  refine ⟨f, fd, ["self", "node"], ?_, T.cl, hm, F.binds (ps := ["self", "node"]) fun _ _ _ _ _ _ us hl => match us, hl with | [_, _], _ => rfl⟩
  refine F.okX sc_s_line_of (fun vs H Q E h => ?_) (fun cdv A outer s H vs Q E hr h => ?_)
  · obtain ⟨a, n, ns, par, lab, rfl, _⟩ := h
    rfl
  · obtain ⟨a, n, ns, par, lab, rfl, hp, D, hn, q⟩ := h
    obtain ⟨fs, p, ad, ho, hl, hpl, hk⟩ := hp.ex
    obtain ⟨dx, hx⟩ := ho.at_
    have hlab := D.path_lab (.inr hn)
    have hplen := D.path_le (.inr hn)
    have hj := join_le "/" (path par lab Rt n) 8 fun x hx => (nameB_len (hlab x hx)).2
    have l3 : ("/" : Str).length = 1 := by decide
    have hj1 : (Txt.join "/" (path par lab Rt n)).length ≤ 360 := by
      rw [l3] at hj
      omega
    have hsum := sum_le' (path par lab Rt n) 8 fun x hx => (nameB_len (hlab x hx)).2
    have hnl := nameB_len (D.nm n hn)
    have l1 : (" " : Str).length = 1 := by decide
    have l2 : ("\n" : Str).length = 1 := by decide
    refine ⟨_, PSs.nox (pss_one (ps_ret (pe_op op_add_str (pe_op op_add_str (pe_op op_add_str (pe_join pe_str (pe_ml c_path_of hr (by decide) (pv 0) (pa_cons (pv 1) pa_nil))) pe_str) (pv 1)) pe_str))), ?_⟩
    refine ⟨⟨_, rfl⟩, _, rfl, a, dx, fs, rfl, hx, ho.no _ (by decide), _, rfl, a, .str n, ns, par, lab, rfl, hp, D, True.intro, fun n' en hn' t H1 ht1 s1 hT => ?_, fun e => ?_⟩
    · cases en
      refine ⟨_, t, _, rfl, rfl, .inr (SqT.of hT), by rw [l3]; omega, ?_⟩
      refine ⟨_, _, rfl, rfl, by rw [l1, sz]; omega, ?_⟩
      refine ⟨_, rfl, _, _, rfl, rfl, by rw [Str.length_append, l1, sz]; omega, ?_⟩
      refine ⟨_, _, rfl, rfl, by rw [Str.length_append, Str.length_append, l1, l2, sz]; omega, ?_⟩
      exact q H1 s1 (by unfold lineS; rw [Str.length_append, Str.length_append, Str.length_append, l1, l2]; omega)
    · rw [knownB_yes (.inr hn)] at e
      cases e
end
end MG
/-! text D7 -/
set_option Elab.async false
set_option linter.all false
set_option maxRecDepth 100000
set_option maxHeartbeats 4200000
/-! the making of a tree: __init__ -/
namespace MG
open PySem PySem.Spec PyProof.Rows L2
/-- it holds the height -/
structure TH (C : Addr) (H : Hp) (a : Addr) (ns : List Str) (par : Str → Str) : Prop where
  ex : ∃ (fs : List (Str × V)) (h : Int), Ob C H a fs ∧ fs.lookup ("own_height" : Str) = some (.int h) ∧ (∀ n, n ∈ ns → ((W par Rt n).length : Int) - 1 ≤ h) ∧ (h = 0 ∨ ∃ n, n ∈ ns ∧ h = ((W par Rt n).length : Int) - 1)
theorem TH.same {C : Addr} {H H' : Hp} {a : Addr} {ns : List Str} {par : Str → Str} (h : TH C H a ns par) (e : Same H H') : TH C H' a ns par := by
  obtain ⟨fs, k, h1, h2, h3, h4⟩ := h.ex
  exact ⟨fs, k, h1.same e, h2, h3, h4⟩
/-- a tree, made -/
structure TreeOk (C : Addr) (H : Hp) (a : Addr) (ns : List Str) (par lab : Str → Str) : Prop where
  tp : TP C H a ns par lab
  tc : TC C H a ns (chS ns par lab)
  tn : TN C H a ns par lab
  th : TH C H a ns par
theorem TreeOk.same {C : Addr} {H H' : Hp} {a : Addr} {ns : List Str} {par lab : Str → Str} (h : TreeOk C H a ns par lab) (e : Same H H') : TreeOk C H' a ns par lab := ⟨h.tp.same e, h.tc.same e, h.tn.same e, h.th.same e⟩
theorem cut_from1 (x : V) (xs : List V) : cutV (x :: xs) (some 1) none = xs := by
  unfold cutV
  have e1 : HT.sIx (x :: xs).length 0 (some 1) = 1 := by
    rw [show (some (1 : Int)) = some ((1 : Nat) : Int) from rfl, HT.sIx_nat, List.length_cons]
    omega
  rw [e1, HT.sIx_none, List.length_cons, Nat.add_sub_cancel]
  show List.take xs.length xs = xs
  exact List.take_of_length_le (Nat.le_refl _)
theorem pre_tail {ns : List Str} {par lab : Str → Str} (D : TD ns par lab) : ∃ r, pre (chS ns par lab) Rt = Rt :: r ∧ r.length = ns.length ∧ ∀ x, x ∈ r → x ∈ ns := by
  have Kd := chS_kids D.T.nd par lab
  obtain ⟨r, e⟩ := preK_head (ch := chS ns par lab) 41 Rt
  have e : pre (chS ns par lab) Rt = Rt :: r := e
  have h1 := pre_len D.T Kd
  have h2 := pre_nd D.T Kd Rt (.inl rfl)
  rw [e] at h1 h2
  refine ⟨r, e, by simpa using h1, fun x hx => ?_⟩
  have h3 := pre_in D.T Kd (.inl rfl) (x := x) (by rw [e]; exact List.mem_cons_of_mem _ hx)
  rcases h3 with h | h
  · subst h
    exact absurd hx (List.nodup_cons.mp h2).1
  · exact h
def spInit (C : Addr) : Sp := fun vs H Q _ => ∃ (x p dx : Addr) (ns : List Str) (par lab : Str → Str) (ad : Str → Addr), vs = [.ref x, .ref p] ∧ H x = some (.ins C dx []) ∧ PlX H p ns par lab ad ∧ TD ns par lab ∧ ∀ H', Sav x H H' → TreeOk C H' x ns par lab → Q .non H'
section
variable {C x p dx : Addr} {H H' : Hp} {fs fs' : List (Str × V)} {ns : List Str} {par lab : Str → Str} {ad : Str → Addr} {f : Str} {v : V}
theorem PlX.sav (h : PlX H p ns par lab ad) (hx : H x = some (.ins C dx fs)) (s : Sav x H H') : PlX H' p ns par lab ad := by
  have hp : p ≠ x := fun e => by have := h.2; rw [e, hx] at this; cases this
  have k := s _ _ hp h.2
  exact ⟨⟨.inl k, fun n hn => s _ _ (fun e => by have := h.1.t n hn; rw [e, hx] at this; cases this) (h.1.t n hn)⟩, k⟩
theorem put_same : (putF f v fs).lookup f = some v := by rw [lookup_putF, if_pos rfl]
theorem put_ne {g : Str} (h : g ≠ f) : (putF f v fs).lookup g = fs.lookup g := by rw [lookup_putF, if_neg h]
theorem Ob.put (hno : ∀ m, m ∉ atts → fs.lookup m = none) (hl : fs.length < 5) (hf : f ∈ atts) : Ob C (upd H x (.ins C dx (putF f v fs))) x (putF f v fs) := by
  refine ⟨⟨dx, upd_same⟩, fun m hm => ?_, Nat.le_trans (length_putF f v fs) hl⟩
  have e : m ≠ f := fun e => hm (by rw [e]; exact hf)
  rw [put_ne e]
  exact hno m hm
theorem TP.put (h : TP C H x ns par lab) (hx : H x = some (.ins C dx fs)) (hl : fs.length < 5) (hf : f ∈ atts) (hne : ("own_places" : Str) ≠ f) : TP C (upd H x (.ins C dx (putF f v fs))) x ns par lab := by
  obtain ⟨fs1, p, ad, h1, h2, h3, h4⟩ := h.ex
  obtain ⟨dx1, e⟩ := h1.at_
  rw [hx] at e
  obtain ⟨-, -, rfl⟩ : C = C ∧ dx = dx1 ∧ fs = fs1 := by injection e with e; injection e with e1 e2 e3; exact ⟨rfl, e2, e3⟩
  have z := PlX.sav (C := C) ⟨h3, h4⟩ hx (Sav.upd (o := .ins C dx (putF f v fs)))
  exact ⟨_, p, ad, Ob.put h1.no hl hf, by rw [put_ne hne]; exact h2, z.1, z.2⟩
theorem TC.put {ch : Str → List Str} (h : TC C H x ns ch) (hx : H x = some (.ins C dx fs)) (hl : fs.length < 5) (hf : f ∈ atts) (hne : ("own_children" : Str) ≠ f) : TC C (upd H x (.ins C dx (putF f v fs))) x ns ch := by
  obtain ⟨fs1, q, ca, h1, h2, h3, h4⟩ := h.ex
  obtain ⟨dx1, e⟩ := h1.at_
  rw [hx] at e
  obtain ⟨-, -, rfl⟩ : C = C ∧ dx = dx1 ∧ fs = fs1 := by injection e with e; injection e with e1 e2 e3; exact ⟨rfl, e2, e3⟩
  exact ⟨_, q, ca, Ob.put h1.no hl hf, by rw [put_ne hne]; exact h2, by rw [upd_ne (fun e => by rw [e, hx] at h3; cases h3)]; exact h3, fun n hn => by rw [upd_ne (fun e => by have := h4 n hn; rw [e, hx] at this; cases this)]; exact h4 n hn⟩
theorem TN.put (h : TN C H x ns par lab) (hx : H x = some (.ins C dx fs)) (hl : fs.length < 5) (hf : f ∈ atts) (hne : ("own_nodes" : Str) ≠ f) : TN C (upd H x (.ins C dx (putF f v fs))) x ns par lab := by
  obtain ⟨fs1, r, h1, h2, h3⟩ := h.ex
  obtain ⟨dx1, e⟩ := h1.at_
  rw [hx] at e
  obtain ⟨-, -, rfl⟩ : C = C ∧ dx = dx1 ∧ fs = fs1 := by injection e with e; injection e with e1 e2 e3; exact ⟨rfl, e2, e3⟩
  exact ⟨_, r, Ob.put h1.no hl hf, by rw [put_ne hne]; exact h2, by rw [upd_ne (fun e => by rw [e, hx] at h3; cases h3)]; exact h3⟩
theorem TH.put (h : TH C H x ns par) (hx : H x = some (.ins C dx fs)) (hl : fs.length < 5) (hf : f ∈ atts) (hne : ("own_height" : Str) ≠ f) : TH C (upd H x (.ins C dx (putF f v fs))) x ns par := by
  obtain ⟨fs1, r, h1, h2, h3⟩ := h.ex
  obtain ⟨dx1, e⟩ := h1.at_
  rw [hx] at e
  obtain ⟨-, -, rfl⟩ : C = C ∧ dx = dx1 ∧ fs = fs1 := by injection e with e; injection e with e1 e2 e3; exact ⟨rfl, e2, e3⟩
  exact ⟨_, r, Ob.put h1.no hl hf, by rw [put_ne hne]; exact h2, h3⟩
end
section
variable {P : Program} {w : World} {K : PySem.W.Frag} {mg : Str → Option Value} {base : Heap} {C U : Addr}
theorem sc_s_init : FnScope ["self", "places", "node", "place"] ["self", "places"] (defScope s_init) := ⟨rfl, rfl, rfl, by decide +kernel, rfl, by decide +kernel, by decide +kernel⟩
theorem ok_init {f : Addr} {fd : FuncData} (T : Txt K mg C) (F : Fun K "__init__" "Tree.__init__" s_init f fd) (c_require_places : Cal P w K mg base 3 "require_places" spCheck) (c_children_within : Cal P w K mg base 1 "children_within" spChildren) (c_way_within : Cal P w K mg base 1 "way_within" spWithin)
    (c_nodes_under : Met P w K mg base 4 C "nodes_under" (spBelow U C)) (c_line_of : Met P w K mg base 6 C "line_of" (spLine C)) : FnOk P w K mg base (L2.CX P w) 7 f fd ["self", "places"] (spInit C) := by
  refine F.okX sc_s_init (fun vs H Q E h => ?_) (fun cdv A outer s H vs Q E hr h => ?_)
  · obtain ⟨x, p, dx, ns, par, lab, ad, rfl, _⟩ := h
    rfl
  · obtain ⟨x, p, dx, ns, par, lab, ad, rfl, hx, hp, D, q⟩ := h
    have T0 := D.T
    have few := D.few
    have Kd := chS_kids T0.nd par lab
    refine ⟨_, PSs.nox (pss_cons (ps_expr (pe_cl c_require_places hr (by decide) (by rfl) (pa_cons (pv 1) pa_nil)))
    (pss_cons (ps_fld (pv 0) (pe_callTy call_dictD (by rfl) T.g_dict bt_dict (pa_cons (pv 1) pa_nil)) rfl)
    (pss_cons (ps_fld (pv 0) (pe_cl c_children_within hr (by decide) (by rfl) (pa_cons (pv 1) pa_nil)) rfl)
    (pss_cons (ps_fld (pv 0) (pe_lock (pe_dcT (own := [("node", 2), ("place", 3)]) (g := _) (tt := tYes) (hu_of hr) rfl sc_s_init.nd (pi_items (pv 1)) (blkOk_by (own := [("node", 2), ("place", 3)]) (N := ["self", "places", "node", "place"]) (sc := defScope s_init) (by decide +kernel)) (fun _ _ _ _ _ => pg_tupK (n := 2) (K := K) rfl rfl (pgs_cons (pg_name (i := 2) sc_s_init.nd rfl (Or.inl rfl)) (pgs_cons (pg_name (i := 3) sc_s_init.nd rfl (Or.inl rfl)) pgs_nil))) (fun _ _ _ _ _ => pts_nil) (fun _ _ _ _ _ => (pv 3)) (fun _ _ _ _ _ => (pv 2)))) rfl)
    (pss_cons (ps_fld (pv 0) (pe_callB (cr_max rfl) (by rfl) T.g_max bt_max (pa_cons (pe_lst (pa_cons pe_int (StX.pa_star (pe_lock (pe_lc (own := [("node", 2)]) (g := gName 2) (tt := tYes) rfl sc_s_init.nd (pi_keys (pv 1)) (blkOk_by (own := [("node", 2)]) (N := ["self", "places", "node", "place"]) (sc := defScope s_init) (by decide +kernel)) (fun _ _ _ _ _ => pg_name (i := 2) sc_s_init.nd rfl (Or.inl rfl)) (fun _ _ _ _ _ => pts_nil) (fun _ _ _ _ _ => (pe_op op_sub (pe_callB (call_len_seqK (K := K) rfl) (by rfl) T.g_len bt_len (pa_cons (pe_cl c_way_within hr (by decide) (by rfl) (pa_cons (pv 1) (pa_cons (pv 2) pa_nil))) pa_nil)) pe_int)))) pa_nil))) pa_nil)) rfl)
    (pss_one (ps_fld (pv 0) (pe_join pe_str (pe_lc (own := [("node", 2)]) (g := gName 2) (tt := tYes) rfl sc_s_init.nd (pi_list (pe_slice sl_list (pe_ml c_nodes_under hr (by decide) (pv 0) (pa_cons (C8.pe_gc (by rfl) T.c_ROOT) pa_nil)) (po_some pe_int) po_none)) (blkOk_by (own := [("node", 2)]) (N := ["self", "places", "node", "place"]) (sc := defScope s_init) (by decide +kernel)) (fun _ _ _ _ _ => pg_name (i := 2) sc_s_init.nd rfl (Or.inl rfl)) (fun _ _ _ _ _ => pts_nil) (fun _ _ _ _ _ => (pe_ml c_line_of hr (by decide) (pv 0) (pa_cons (pv 2) pa_nil))))) rfl))))))), ?_⟩
    refine ⟨_, rfl, p, ns, par, lab, ad, rfl, hp, D, fun H1 s1 => ?_⟩
    have hp1 := hp.same s1
    have hx1 := s1 _ _ hx
    refine ⟨_, rfl, p, _, rfl, .inl hp1.2, fun p2 hp2 => ⟨_, rfl, x, C, dx, [], rfl, Same.new hp2 _ _ hx1, T.cl, T.n_places, by decide, ?_⟩⟩
    have o2 : Ob C (upd (upd H1 p2 (.dK (ns.map fun n => ((Sum.inr n : Key), V.ref (ad n))))) x (.ins C dx (putF "own_places" (.ref p2) []))) x (putF "own_places" (.ref p2) []) := Ob.put (fun m _ => rfl) (by decide) (by decide)
    have v2 : Sav x H1 (upd (upd H1 p2 (.dK (ns.map fun n => ((Sum.inr n : Key), V.ref (ad n))))) x (.ins C dx (putF "own_places" (.ref p2) []))) := (Sav.of (Same.new hp2)).trans Sav.upd
    have hpx : p2 ≠ x := fun e => by rw [e, hx1] at hp2; cases hp2
    have hp2' := hp1.sav hx1 v2
    have tp2 : TP C (upd (upd H1 p2 (.dK (ns.map fun n => ((Sum.inr n : Key), V.ref (ad n))))) x (.ins C dx (putF "own_places" (.ref p2) []))) x ns par lab :=
      ⟨_, p2, ad, o2, put_same, ⟨.inl (by rw [upd_ne hpx, upd_same]), hp2'.1.t⟩, by rw [upd_ne hpx, upd_same]⟩
    generalize (upd (upd H1 p2 (.dK (ns.map fun n => ((Sum.inr n : Key), V.ref (ad n))))) x (.ins C dx (putF "own_places" (.ref p2) []))) = H2 at o2 v2 hp2' tp2 ⊢
    obtain ⟨dx2, hx2⟩ := o2.at_
    refine ⟨_, rfl, p, ns, par, lab, ad, rfl, hp2'.1, hp2'.2, D, fun q0 ca H3 hq0 s3 hq3 hch => ?_⟩
    refine ⟨_, rfl, x, C, dx2, _, rfl, s3 _ _ hx2, T.cl, T.n_children, Nat.lt_of_le_of_lt o2.few (by decide), ?_⟩
    have hx3 := s3 _ _ hx2
    have l2 : (putF "own_places" (V.ref p2) []).length ≤ 1 := length_putF _ _ _
    have v3 := ((Sav.of s1).trans v2).trans ((Sav.of s3).trans (Sav.upd (r := x) (o := .ins C dx2 (putF "own_children" (.ref q0) (putF "own_places" (.ref p2) [])))))
    have tp3 := (tp2.same s3).put (f := "own_children") (v := .ref q0) hx3 (by omega) (by decide) (by decide)
    have hq0x : q0 ≠ x := fun e => by rw [e, hx2] at hq0; cases hq0
    have tc3 : TC C (upd H3 x (.ins C dx2 (putF "own_children" (.ref q0) (putF "own_places" (.ref p2) [])))) x ns (chS ns par lab) :=
      ⟨_, q0, ca, Ob.put o2.no (by omega) (by decide), put_same, by rw [upd_ne hq0x]; exact hq3, fun n hn => by rw [upd_ne (fun e => by have := hch n hn; rw [e, hx3] at this; cases this)]; exact hch n hn⟩
    have hp3 := hp.sav hx v3
    have l3 : (putF "own_children" (V.ref q0) (putF "own_places" (V.ref p2) [])).length ≤ 2 := Nat.le_trans (length_putF _ _ _) (by omega)
    have hx3' : (upd H3 x (.ins C dx2 (putF "own_children" (.ref q0) (putF "own_places" (.ref p2) [])))) x = some (.ins C dx2 (putF "own_children" (.ref q0) (putF "own_places" (.ref p2) []))) := upd_same
    generalize (upd H3 x (.ins C dx2 (putF "own_children" (.ref q0) (putF "own_places" (.ref p2) [])))) = H4 at v3 tp3 tc3 hp3 hx3' ⊢
    generalize putF "own_children" (.ref q0) (putF "own_places" (.ref p2) []) = fs3 at l3 hx3' ⊢
    refine ⟨p, _, hp3.2, trivial, fun od => ?_⟩
    obtain ⟨_, hp3'⟩ := hp3.1.lock hp3.2 od
    refine ⟨_, rfl, p, od, _, rfl, upd_same, fun D0 hD0 => dcT_pure walk_items hD0 (byPl ns par lab) (by unfold byPl; rw [List.length_map, List.length_map]) (byPl_nd T0.nd D.ap) (by rw [List.length_map, sz]; omega) (fun H' s => s _ _ upd_same) ?_ ?_⟩
    · rintro i y0 H5 H6 Kt hi s5 ⟨T1, y, z, rfl, hT1, rfl, hy, hz⟩ k
      obtain ⟨n, hn, rfl, rfl⟩ := item_ns hy hz
      have hnn : n ∈ ns := List.mem_of_getElem? hn
      refine ⟨T1, _, rfl, SqT.of upd_same, rfl, _, _, rfl, _, _, rfl, rfl, rfl, _, rfl, _, rfl, k [(Sum.inr (par n) : Key), Sum.inr (lab n)] _ (ad n) _ ?_ (Same.new hT1) (Same.new hT1 _ _ (s5 _ _ (hp3'.t n hnn)))⟩
      unfold byPl
      rw [List.getElem?_map, hn]; rfl
    · intro H5 s5 hD5
      have hp5 : H5 p = some (.frz od (.dK (ns.map fun n => ((Sum.inr n : Key), V.ref (ad n))))) := s5 _ _ upd_same
      have s6 : Same H4 (upd H5 p (.dK (ns.map fun n => ((Sum.inr n : Key), V.ref (ad n))))) := Same.unlock hp3.2 s5
      have hDp : D0 ≠ p := fun e => by rw [e, hp5] at hD5; cases hD5
      have hD6 : (upd H5 p (.dK (ns.map fun n => ((Sum.inr n : Key), V.ref (ad n))))) D0 = some (.dT (byPl ns par lab)) := by rw [upd_ne hDp]; exact hD5
      refine ⟨hp5, ?_⟩
      generalize (upd H5 p (.dK (ns.map fun n => ((Sum.inr n : Key), V.ref (ad n))))) = H6 at s6 hD6 ⊢
      have hx6 := s6 _ _ hx3'
      refine ⟨_, rfl, x, C, dx2, fs3, rfl, hx6, T.cl, T.n_nodes, Nat.lt_of_le_of_lt l3 (by decide), ?_⟩
      have hDx : D0 ≠ x := fun e => by rw [e, hx6] at hD6; cases hD6
      have v6 := (v3.trans (Sav.of s6)).trans (Sav.upd (r := x) (o := .ins C dx2 (putF "own_nodes" (.ref D0) fs3)))
      have tp6 := (tp3.same s6).put (f := "own_nodes") (v := .ref D0) hx6 (by omega) (by decide) (by decide)
      have tc6 := (tc3.same s6).put (f := "own_nodes") (v := .ref D0) hx6 (by omega) (by decide) (by decide)
      have no3 : ∀ m, m ∉ atts → fs3.lookup m = none := by
        obtain ⟨fs', p', ad', o', _⟩ := tp3.ex
        obtain ⟨dx', e'⟩ := o'.at_
        rw [hx3'] at e'
        injection e' with e'
        injection e' with _ _ e3
        rw [e3]
        exact o'.no
      have tn6 : TN C (upd H6 x (.ins C dx2 (putF "own_nodes" (.ref D0) fs3))) x ns par lab := ⟨_, D0, Ob.put no3 (by omega) (by decide), put_same, by rw [upd_ne hDx]; exact hD6⟩
      have hp6 := hp.sav hx v6
      have l6 : (putF "own_nodes" (V.ref D0) fs3).length ≤ 3 := Nat.le_trans (length_putF _ _ _) (by omega)
      have no6 : ∀ m, m ∉ atts → (putF "own_nodes" (V.ref D0) fs3).lookup m = none := fun m hm => by
        have e : m ≠ "own_nodes" := fun e => hm (by rw [e]; decide)
        rw [put_ne e]
        exact no3 m hm
      have hx6' : (upd H6 x (.ins C dx2 (putF "own_nodes" (.ref D0) fs3))) x = some (.ins C dx2 (putF "own_nodes" (.ref D0) fs3)) := upd_same
      generalize (upd H6 x (.ins C dx2 (putF "own_nodes" (.ref D0) fs3))) = H7 at v6 tp6 tc6 tn6 hp6 hx6' ⊢
      generalize putF "own_nodes" (.ref D0) fs3 = fs6 at l6 no6 hx6' ⊢
      refine ⟨p, _, hp6.2, trivial, fun od2 => ?_⟩
      obtain ⟨_, hp6'⟩ := hp6.1.lock hp6.2 od2
      refine ⟨_, rfl, p, od2, rfl, .inl ⟨_, upd_same, fun D1 hD1 => lc_each walk_keys hD1 (fun i => (ns.take i).map fun n => V.int (((W par Rt n).length : Int) - 1)) rfl (fun i hi => take_lt (by rw [sz]; omega) (by rw [List.length_map] at hi; exact hi)) (fun H' s => s _ _ upd_same) ?_ ?_⟩⟩
      · rintro i y0 H8 H9 Kt hi s8 ⟨rfl, k0, v0, hkv, rfl⟩ k
        obtain ⟨n, hn, rfl, rfl⟩ := key_ns hkv
        have hnn : n ∈ ns := List.mem_of_getElem? hn
        refine ⟨rfl, _, rfl, _, rfl, p, n, ns, par, lab, ad, rfl, hp6'.same s8, D, .inr hnn, fun l1 H10 hl1 s10 hL1 => ?_⟩
        exact ⟨l1, _, rfl, .inl (SqL.of hL1), _, _, rfl, rfl, by rw [List.length_map]; exact k _ _ s10 (take_map _ _ _ hn)⟩
      · intro H8 s8 hD8
        have hp8 : H8 p = some (.frz od2 (.dK (ns.map fun n => ((Sum.inr n : Key), V.ref (ad n))))) := s8 _ _ upd_same
        have s9 : Same H7 (upd H8 p (.dK (ns.map fun n => ((Sum.inr n : Key), V.ref (ad n))))) := Same.unlock hp6.2 s8
        have hD1p : D1 ≠ p := fun e => by rw [e, hp8] at hD8; cases hD8
        rw [List.length_map, List.take_of_length_le (Nat.le_refl _)] at hD8
        have hD9 : (upd H8 p (.dK (ns.map fun n => ((Sum.inr n : Key), V.ref (ad n))))) D1 = some (.lst (ns.map fun n => V.int (((W par Rt n).length : Int) - 1))) := by rw [upd_ne hD1p]; exact hD8
        refine ⟨hp8, ?_⟩
        generalize (upd H8 p (.dK (ns.map fun n => ((Sum.inr n : Key), V.ref (ad n))))) = H9 at s9 hD9 ⊢
        refine ⟨D1, _, rfl, .inr (SqL.of hD9), ?_, fun l9 hl9 => ?_⟩
        · simp only [List.length_cons, List.length_append, List.length_map, List.length_nil]
          rw [sz]; omega
        have e9 : (V.int 0 :: ((ns.map fun n => V.int (((W par Rt n).length : Int) - 1)) ++ [])) = ((0 : Int) :: ns.map fun n => ((W par Rt n).length : Int) - 1).map V.int := by rw [List.append_nil, List.map_cons, List.map_map]; rfl
        rw [e9]
        refine ⟨l9, (0 : Int) :: ns.map fun n => ((W par Rt n).length : Int) - 1, rfl, SqL.of upd_same, by simp, fun hh hmem hmax => ?_⟩
        have s10 := s9.trans (Same.new (o := .lst (((0 : Int) :: ns.map fun n => ((W par Rt n).length : Int) - 1).map V.int)) hl9)
        generalize (upd H9 l9 (.lst (((0 : Int) :: ns.map fun n => ((W par Rt n).length : Int) - 1).map V.int))) = H10 at s10 ⊢
        have hx10 := s10 _ _ hx6'
        refine ⟨_, rfl, x, C, dx2, fs6, rfl, hx10, T.cl, T.n_height, Nat.lt_of_le_of_lt l6 (by decide), ?_⟩
        have v10 := (v6.trans (Sav.of s10)).trans (Sav.upd (r := x) (o := .ins C dx2 (putF "own_height" (.int hh) fs6)))
        have tp10 := (tp6.same s10).put (f := "own_height") (v := .int hh) hx10 (by omega) (by decide) (by decide)
        have tc10 := (tc6.same s10).put (f := "own_height") (v := .int hh) hx10 (by omega) (by decide) (by decide)
        have tn10 := (tn6.same s10).put (f := "own_height") (v := .int hh) hx10 (by omega) (by decide) (by decide)
        have th10 : TH C (upd H10 x (.ins C dx2 (putF "own_height" (.int hh) fs6))) x ns par := ⟨_, hh, Ob.put no6 (by omega) (by decide), put_same, fun n hn => hmax _ (List.mem_cons_of_mem _ (List.mem_map_of_mem hn)), by
          rcases List.mem_cons.mp hmem with e | e
          · exact .inl e
          · obtain ⟨n, hn, e⟩ := List.mem_map.mp e
            exact .inr ⟨n, hn, e.symm⟩⟩
        have no10 : ∀ m, m ∉ atts → (putF "own_height" (V.int hh) fs6).lookup m = none := fun m hm => by
          have e : m ≠ "own_height" := fun e => hm (by rw [e]; decide)
          rw [put_ne e]
          exact no6 m hm
        have l10 : (putF "own_height" (V.int hh) fs6).length ≤ 4 := Nat.le_trans (length_putF _ _ _) (by omega)
        have hx10' : (upd H10 x (.ins C dx2 (putF "own_height" (.int hh) fs6))) x = some (.ins C dx2 (putF "own_height" (.int hh) fs6)) := upd_same
        generalize (upd H10 x (.ins C dx2 (putF "own_height" (.int hh) fs6))) = H11 at v10 tp10 tc10 tn10 th10 hx10' ⊢
        generalize putF "own_height" (.int hh) fs6 = fs10 at l10 no10 hx10' ⊢
        refine ⟨⟨_, rfl⟩, _, rfl, x, dx2, fs10, rfl, hx10', no10 _ (by decide), x, .str Rt, ns, par, lab, _, rfl, tp10, tc10, D, Kd, True.intro, fun n' en hn' l12 H12 hl12 s12 hL12 => ?_, fun e => ?_⟩
        · cases en
          obtain ⟨r, er, hrl, hrn⟩ := pre_tail D
          rw [er, List.map_cons] at hL12
          refine ⟨1, rfl, l12, _, rfl, SqL.of hL12, fun r1 hr1 => ⟨r1, rfl, ⟨_, SqL.of upd_same⟩, ?_⟩⟩
          rw [cut_from1]
          have s13 := s12.trans (Same.new (o := .lst (r.map V.str)) hr1)
          have hr2 : (upd H12 r1 (.lst (r.map V.str))) r1 = some (.lst (r.map V.str)) := upd_same
          generalize (upd H12 r1 (.lst (r.map V.str))) = H13 at s13 hr2 ⊢
          refine fun D2 hD2 => lc_each (walk_list (xs := r.map V.str)) hD2 (fun i => (r.take i).map fun n => V.str (lineS par lab n)) rfl (fun i hi => take_lt (by rw [sz]; omega) (by rw [List.length_map] at hi; exact hi)) (fun H' s => SqL.of (s _ _ hr2)) ?_ ?_
          · rintro i y0 H14 H15 Kt hi s14 ⟨rfl, hv⟩ k
            rw [List.getElem?_map] at hv
            obtain ⟨n, hn, rfl⟩ := Option.map_eq_some_iff.mp hv
            have hnn := hrn n (List.mem_of_getElem? hn)
            exact ⟨rfl, _, rfl, x, dx2, fs10, rfl, (s13.trans s14) _ _ hx10', no10 _ (by decide), _, rfl, x, n, ns, par, lab, rfl, tp10.same (s13.trans s14), D, hnn, fun H16 s16 _ => k _ _ s16 (take_map _ _ _ hn)⟩
          · intro H14 s14 hD14
            rw [List.length_map, List.take_of_length_le (Nat.le_refl _)] at hD14
            have s15 := s13.trans s14
            refine ⟨_, D2, r.map fun n => lineS par lab n, rfl, rfl, .inl (SqL.of (by rw [hD14, List.map_map]; rfl)), ?_, _, rfl, x, C, dx2, fs10, rfl, s15 _ _ hx10', T.cl, T.n_text, Nat.lt_of_le_of_lt l10 (by decide), ?_⟩
            · have h1 := sum_le' (r.map fun n => lineS par lab n) 400 fun t ht => by
                obtain ⟨n, hn, rfl⟩ := List.mem_map.mp ht
                exact lineS_le D (hrn n hn)
              have l0 : ("" : Str).length = 0 := by decide
              rw [List.length_map] at h1 ⊢
              rw [l0]
              omega
            · refine q _ ((v10.trans (Sav.of s15)).trans Sav.upd) ⟨(tp10.same s15).put (s15 _ _ hx10') (by omega) (by decide) (by decide), (tc10.same s15).put (s15 _ _ hx10') (by omega) (by decide) (by decide), (tn10.same s15).put (s15 _ _ hx10') (by omega) (by decide) (by decide), (th10.same s15).put (s15 _ _ hx10') (by omega) (by decide) (by decide)⟩
        · rw [knownB_yes (.inl rfl)] at e
          cases e
end
end MG
/-! text D8 -/
set_option Elab.async false
set_option linter.all false
set_option maxRecDepth 100000
set_option maxHeartbeats 4200000
/-! node_at, height, the class called -/
namespace MG
open PySem PySem.Spec PyProof.Rows L2
def lblOf : V → Option Str
  | .str x => some x
  | _ => none
def optV : Option Str → V
  | none => .non
  | some n => .str n
theorem own_val {ns : List Str} {par lab : Str → Str} (p l : Str) : valV (byPl ns par lab) [(Sum.inr p : Key), Sum.inr l] = (own ns par lab p l).map V.str := by
  unfold byPl own
  induction ns with
  | nil => rfl
  | cons n ns ih =>
    rw [List.map_cons, List.find?_cons]
    by_cases h : par n = p ∧ lab n = l
    · rw [decide_eq_true h]
      exact valV_pos (p := ([(Sum.inr (par n) : Key), Sum.inr (lab n)], V.str n)) (by rw [h.1, h.2])
    · rw [decide_eq_false h]
      rw [← ih]
      exact valV_neg (p := ([(Sum.inr (par n) : Key), Sum.inr (lab n)], V.str n)) fun e => h ⟨Sum.inr.inj (List.cons.inj e).1, Sum.inr.inj (List.cons.inj (List.cons.inj e).2).1⟩
def spAt (C : Addr) : Sp := fun vs H Q _ => ∃ (a : Addr) (ls : List V) (ns : List Str) (par lab : Str → Str), vs = .ref a :: ls ∧ ls.length ≤ 10 ∧ TN C H a ns par lab ∧ ns.length ≤ 40 ∧ (∀ l, l ∈ ls → Told H l) ∧
  ∀ H', Same H H' → Q (optV (nodeAt ns par lab Rt (ls.map lblOf))) H'
theorem strV_lbl {v : V} (h : strV v = false) : lblOf v = none := by
  cases v with
  | str x => cases h
  | _ => rfl
theorem optV_non {o : Option Str} : decide (optV o = .non) = o.isNone := by
  cases o with
  | none => rfl
  | some n => rfl
section
variable {P : Program} {w : World} {K : PySem.W.Frag} {mg : Str → Option Value} {base : Heap} {C U : Addr}
theorem sc_s_node_at : FnScope ["self", "labels", "here", "label"] ["self", "labels"] (defScope s_node_at) := ⟨rfl, rfl, rfl, by decide +kernel, rfl, by decide +kernel, by decide +kernel⟩
theorem ok_node_at {f : Addr} {fd : FuncData} (T : Txt K mg C) (F : Fun K "node_at" "Tree.node_at" s_node_at f fd) : FnR P w K mg base (L2.CX P w) 1 f (spAt C) := by
  obtain ⟨oc, od, kV, doc, pm, an, cdv, ct, slots, rfl, lk, hcd⟩ := F.ex
  refine FnR.imp (StX.fn_star (ps := ["self"]) (pv := "labels") lk hcd sc_s_node_at StX.cxUp (StX.bind_star1 (B := fun us => bindArgs (PySem.W.fnOf "node_at" "Tree.node_at" (defArgs s_node_at) (defBody s_node_at) (defScope s_node_at) .none kV doc pm an cdv ct) ⟨us, []⟩) (p1 := "self") (pv := "labels") (fun a => by rfl) fun a r rs => by rfl)
    (sp := fun vs H Q _ => ∃ (a t : Addr) (ls : List V) (ns : List Str) (par lab : Str → Str), vs = [.ref a, .ref t] ∧ H t = some (.tup ls) ∧ TN C H a ns par lab ∧ ns.length ≤ 40 ∧ (∀ l, l ∈ ls → Told H l) ∧ ∀ H', Same H H' → Q (optV (nodeAt ns par lab Rt (ls.map lblOf))) H') (fun A outer s H vs Q E hr h => ?_)) fun vs H Q E h => ?_
  · obtain ⟨a, t, ls, ns, par, lab, rfl, ht, hn, few, hl, q⟩ := h
    obtain ⟨fs, r, ho, hlk, hr1⟩ := hn.ex
    obtain ⟨dx, hx⟩ := ho.at_
    refine ⟨_, PSs.nox (pss_cons (ps_set (i := 2) sc_s_node_at.nd rfl (Or.inl rfl) (C8.pe_gc (by rfl) T.c_ROOT))
    (pss_cons (ps_for PassesOwn.never rfl (pi_tup (pv 1)) (pg_name (i := 3) sc_s_node_at.nd rfl (Or.inl rfl))
    (pss_one (ps_if (pt_cmpR op_notN (pv 2) pe_non (nomark _)) (pss_one (ps_set (i := 2) sc_s_node_at.nd rfl (Or.inl rfl) (pe_ifExp (pt_val (pe_callB call_isi (by rfl) T.g_isinstance bt_isinstance (pa_cons (pv 3) (pa_cons (pe_bltn (v := .ty "str") (by rfl) T.g_str bt_str rfl) pa_nil)))) (pe_dget1 (hu_of hr) (pe_fld (pv 0) rfl) (pe_tup (pa_cons (pv 2) (pa_cons (pv 3) pa_nil))) ⟨rfl, rfl, rfl, rfl⟩) pe_non))) pss_nil)))
    (pss_one (ps_ret (pv 2))))), ?_⟩
    refine ⟨_, rfl, t, rfl, ⟨ls, SqT.of ht⟩, for_it (walk_tup (xs := ls)) (fun i σ H' => ∃ vl, σ = [some (.ref a), some (.ref t), some (optV (nodeAt ns par lab Rt ((ls.take i).map lblOf))), vl] ∧ Same H H') ⟨none, rfl, Same.refl _⟩ (fun i σ H' _ ⟨_, _, s1⟩ => SqT.of (s1 _ _ ht)) ?_ ?_⟩
    · rintro i v σ H1 H2 hi ⟨vl, rfl, s1⟩ ⟨rfl, hv⟩
      have hvt : Told H2 v := (hl v (List.mem_of_getElem? hv)).same s1
      have hlt : nodeAt ns par lab Rt ((ls.take (i + 1)).map lblOf) = step ns par lab (nodeAt ns par lab Rt ((ls.take i).map lblOf)) (lblOf v) := by
        rw [List.take_add_one, hv, List.map_append]
        exact nodeAt_snoc _ _
      cases e0 : nodeAt ns par lab Rt ((ls.take i).map lblOf) with
      | none =>
        rw [e0] at hlt
        refine ⟨_, rfl, rfl, _, rfl, iteF ?_⟩
        exact ⟨_, by rw [hlt]; rfl, s1⟩
      | some here =>
        rw [e0] at hlt
        refine ⟨_, rfl, rfl, _, rfl, iteT ?_⟩
        obtain ⟨n, hk, hb⟩ := hvt.kind (K := K)
        refine ⟨_, rfl, _, _, _, _, _, rfl, .ty _, hk, kit_ty hb, _, rfl, iteB (fun e => ?_) fun e => ?_⟩
        · obtain ⟨l, rfl⟩ := strV_yes e
          refine ⟨_, rfl, a, C, dx, fs, _, rfl, s1 _ _ hx, T.cl, T.n_nodes, hlk, r, rfl, .inr ⟨_, .inl (s1 _ _ hr1)⟩, _, rfl, _, rfl, by show 2 ≤ sizeLine; decide, fun q0 hq0 => ?_⟩
          have s2 := s1.trans (Same.new (o := .tup [.str here, .str l]) hq0)
          refine ⟨_, DGet.t (k := [(Sum.inr here : Key), Sum.inr l]) (s2 _ _ hr1) upd_same, ?_⟩
          refine ⟨some (.str l), ?_, s2⟩
          rw [hlt]
          have e1 := own_val (ns := ns) (par := par) (lab := lab) here l
          unfold byPl at e1
          rw [e1]
          show _ = [some (V.ref a), some (V.ref t), some (optV (own ns par lab here l)), some (V.str l)]
          cases own ns par lab here l <;> rfl
        · refine ⟨some v, ?_, s1⟩
          rw [hlt, strV_lbl e]
          rfl
    · rintro σ H1 ⟨vl, rfl, s1⟩
      rw [List.take_of_length_le (Nat.le_refl _)]
      exact ⟨_, rfl, q H1 s1⟩
  · obtain ⟨a, ls, ns, par, lab, rfl, hz, hn, few, hl, q⟩ := h
    refine ⟨[.ref a], ls, rfl, rfl, by rw [sz]; omega, fun p hp => ⟨a, p, ls, ns, par, lab, rfl, upd_same, hn.same (Same.new hp), few, fun l h => (hl l h).same (Same.new hp), fun H' s => q H' ((Same.new hp).trans s)⟩⟩
end
/-! ### what the law's text leans on: the class, its node_at, its height -/
section
variable (P : Program) (w : World) (K : PySem.W.Frag) (mg : Str → Option Value) (base : Heap) (C : Addr)
structure MkT (k : Nat) : Prop where
  ex : ∃ (f : Addr) (fd : FuncData) (ps : List Str), FnOk P w K mg base (L2.CX P w) k f fd ps (spInit C) ∧ Mk K C f ∧ mg "Tree" = some (.ref C) ∧ Binds K fd ps []
structure AtT (k : Nat) : Prop where
  ex : ∃ f : Addr, FnR P w K mg base (L2.CX P w) k f (spAt C) ∧ Cls K C ∧ Meth K C "node_at" f
structure HtT (k : Nat) : Prop where
  ex : ∃ (p g : Addr) (fd : FuncData) (ps : List Str), FnOk P w K mg base (L2.CX P w) k g fd ps (getSp C "own_height") ∧ Cls K C ∧ PropOf K C "height" p g ∧ Binds K fd ps []
end
section
variable {X : Cx} {C : Addr} {k j : Nat} {o e : Expr} {es : List Expr} {ta : TE} {t : TA} {p pos apos : Pos}
theorem pe_mkl (c : MkT X.prog X.w X.K X.mg X.base C k) (hr : Room j X.A) (hk : k + 1 ≤ j) (hg : Gl X "Tree") (ha : PA X (e :: es) t)
    (he : Row1 X e es := by rfl) (hpl : Flat X es pos := by rfl) :
    PE X (.Call (.Name "Tree" p) (e :: es) [] pos) (tMake C (spInit C) [] E0 t) := by
  obtain ⟨f, fd, ps, F, m, hm, b⟩ := c.ex
  exact pe_make m F (hr.mono hk) hg hm b .nil passL ha (by decide) he hpl
def tAt (C : Addr) (ta : TE) (t : TA) : TE := fun σ H Q => ta σ H fun x H1 => ∃ a dx fs, x = .ref a ∧ H1 a = some (.ins C dx fs) ∧ fs.lookup ("node_at" : Str) = none ∧ t σ H1 fun vs H2 => spAt C (x :: vs) H2 Q E0
theorem at_run {f a : Addr} {pins : List (Addr × Obj)} {σ : L2.St} {H : Hp} {s : Shared} {us : List Value} {vs : List V} {Q : VK} (F : FnR X.prog X.w X.K X.mg X.base (L2.CX X.prog X.w) k f (spAt C)) (hr : Room j X.A) (hk : k ≤ j) (I : Inv X pins σ H s) (rv : Vals vs us) (q : spAt C (.ref a :: vs) H Q E0) :
    wpAny (model X.prog X.w) X.A (call (.ref f) (.ref a :: us)) (EP X pins σ Q) X.xe s := wpAny_call (run_fnR (us := .ref a :: us) (vs := .ref a :: vs) (F.mono hk) hr passL I (.cons rfl rv) q)
theorem pe_at {pl : Sem Bool} (c : AtT X.prog X.w X.K X.mg X.base C k) (hr : Room j X.A) (hk : k ≤ j) (he : PE X o ta) (ha : PA X (e :: es) t) (row : Row1 X e es := by rfl) (flat : Flat X es pos := by rfl) (form : IsMeth X o "node_at" (e :: es) apos pos pl := by rfl) :
    PE X (.Call (.Attribute o "node_at" apos) (e :: es) [] pos) (tAt C ta t) := by
  obtain ⟨f, F, cl, mt⟩ := c.ex
  constructor
  intro pins s σ H Q I h
  refine PySem.W.methodCall_KW (pl := pl) (thn (he.run pins s σ H _ I h) fun u s1 z => ?_) form
  obtain ⟨x, H1, I1, rx, a, dx, fs, rfl, ea, no, q⟩ := z
  cases rx
  exact getmeth_ok I1 ea cl mt no (PySem.W.callWith_K (first := [.ref a]) (h₀ := X.base) I.ok.mod.kin mt.kp (thn (ha.run pos pins s1 σ H1 _ I1 q) fun us s2 z => z.elim fun vs z => z.elim fun H2 z => ⟨z.1.kIn, at_run F hr hk z.1 z.2.1 z.2.2⟩) row flat)
theorem pe_at0 {pl : Sem Bool} (c : AtT X.prog X.w X.K X.mg X.base C k) (hr : Room j X.A) (hk : k ≤ j) (he : PE X o ta) (form : IsMeth X o "node_at" [] apos pos pl := by rfl) : PE X (.Call (.Attribute o "node_at" apos) [] [] pos) (tAt C ta tNil) := by
  obtain ⟨f, F, cl, mt⟩ := c.ex
  constructor
  intro pins s σ H Q I h
  refine PySem.W.methodCall_KW (pl := pl) (thn (he.run pins s σ H _ I h) fun u s1 z => ?_) form
  obtain ⟨x, H1, I1, rx, a, dx, fs, rfl, ea, no, q⟩ := z
  cases rx
  exact getmeth_ok I1 ea cl mt no (PySem.W.callWith_K0 (first := [.ref a]) I1.kIn mt.kp (at_run F hr hk I1 .nil q))
theorem pe_ht (c : HtT X.prog X.w X.K X.mg X.base C k) (hr : Room j X.A) (hk : k + 1 ≤ j) (he : PE X o ta) (hab : attributeBase o "height" X.env (eval o X.env) = eval o X.env) : PE X (.Attribute o "height" pos) (tProp C (getSp C "own_height") [] E0 ta) := by
  obtain ⟨p, g, fd, ps, F, c1, hp, b⟩ := c.ex
  exact pe_prop he c1 hp F (hr.mono hk) b .nil passL hab
end
end MG
/-! text LI -/
set_option Elab.async false
set_option linter.all false
set_option maxRecDepth 100000
set_option maxHeartbeats 4200000
/-! the law's node_at -/
namespace MG
open PySem PySem.Spec PyProof.Rows L2
def spAtL (C : Addr) : Sp := fun vs H Q _ => ∃ (a l : Addr) (ls : List V) (ns : List Str) (par lab : Str → Str), vs = [.ref a, .ref l] ∧ H l = some (.lst ls) ∧ ls.length ≤ 5 ∧ TN C H a ns par lab ∧ ns.length ≤ 40 ∧ (∀ x, x ∈ ls → Told H x) ∧
  ∀ H', Same H H' → Q (optV (nodeAt ns par lab Rt (ls.map lblOf))) H'
section
variable {P : Program} {w : World} {K : PySem.W.Frag} {mg : Str → Option Value} {base : Heap} {C U : Addr}
theorem sc_s_at : FnScope ["_law_tree", "_law_some"] ["_law_tree", "_law_some"] (defScope s_at) := ⟨rfl, rfl, rfl, by decide +kernel, rfl, by decide +kernel, by decide +kernel⟩
theorem ok_at {f : Addr} {fd : FuncData} (T : Txt K mg C) (F : Fun K "_law_at" "_law_at" s_at f fd) (hm : mg "_law_at" = some (.ref f)) (c_at : AtT P w K mg base C 1) : Cal P w K mg base 2 "_law_at" (spAtL C) := by
  refine ⟨f, fd, ["_law_tree", "_law_some"], ?_, hm, F.kp, F.binds (ps := ["_law_tree", "_law_some"]) fun _ _ _ _ _ _ us hl => match us, hl with | [_, _], _ => rfl⟩
  refine F.okX sc_s_at (fun vs H Q E h => ?_) (fun cdv A outer s H vs Q E hr h => ?_)
  · obtain ⟨a, l, ls, ns, par, lab, rfl, _⟩ := h
    rfl
  · obtain ⟨a, l, ls, ns, par, lab, rfl, hl, hz, hn, few, hT, q⟩ := h
    obtain ⟨fs, r, ho, hlk, hr1⟩ := id hn.ex
    obtain ⟨dx, hx⟩ := ho.at_
    refine ⟨_, PSs.nox (pss_cons (ps_if (pt_cmpR op_eq (pe_callB call_len_seq (by rfl) T.g_len bt_len (pa_cons (pv 1) pa_nil)) pe_int (nomark _)) (pss_one (ps_ret (pe_at0 c_at hr (by decide) (pv 0)))) pss_nil)
    (pss_cons (ps_if (pt_cmpR op_eq (pe_callB call_len_seq (by rfl) T.g_len bt_len (pa_cons (pv 1) pa_nil)) pe_int (nomark _)) (pss_one (ps_ret (pe_at c_at hr (by decide) (pv 0) (pa_cons (pe_ix ix_list (pv 1) pe_int (fun _ _ => rfl)) pa_nil)))) pss_nil)
    (pss_cons (ps_if (pt_cmpR op_eq (pe_callB call_len_seq (by rfl) T.g_len bt_len (pa_cons (pv 1) pa_nil)) pe_int (nomark _)) (pss_one (ps_ret (pe_at c_at hr (by decide) (pv 0) (pa_cons (pe_ix ix_list (pv 1) pe_int (fun _ _ => rfl)) (pa_cons (pe_ix ix_list (pv 1) pe_int (fun _ _ => rfl)) pa_nil))))) pss_nil)
    (pss_cons (ps_if (pt_cmpR op_eq (pe_callB call_len_seq (by rfl) T.g_len bt_len (pa_cons (pv 1) pa_nil)) pe_int (nomark _)) (pss_one (ps_ret (pe_at c_at hr (by decide) (pv 0) (pa_cons (pe_ix ix_list (pv 1) pe_int (fun _ _ => rfl)) (pa_cons (pe_ix ix_list (pv 1) pe_int (fun _ _ => rfl)) (pa_cons (pe_ix ix_list (pv 1) pe_int (fun _ _ => rfl)) pa_nil)))))) pss_nil)
    (pss_cons (ps_if (pt_cmpR op_eq (pe_callB call_len_seq (by rfl) T.g_len bt_len (pa_cons (pv 1) pa_nil)) pe_int (nomark _)) (pss_one (ps_ret (pe_at c_at hr (by decide) (pv 0) (pa_cons (pe_ix ix_list (pv 1) pe_int (fun _ _ => rfl)) (pa_cons (pe_ix ix_list (pv 1) pe_int (fun _ _ => rfl)) (pa_cons (pe_ix ix_list (pv 1) pe_int (fun _ _ => rfl)) (pa_cons (pe_ix ix_list (pv 1) pe_int (fun _ _ => rfl)) pa_nil))))))) pss_nil)
    (pss_one (ps_ret (pe_at c_at hr (by decide) (pv 0) (pa_cons (pe_ix ix_list (pv 1) pe_int (fun _ _ => rfl)) (pa_cons (pe_ix ix_list (pv 1) pe_int (fun _ _ => rfl)) (pa_cons (pe_ix ix_list (pv 1) pe_int (fun _ _ => rfl)) (pa_cons (pe_ix ix_list (pv 1) pe_int (fun _ _ => rfl)) (pa_cons (pe_ix ix_list (pv 1) pe_int (fun _ _ => rfl)) pa_nil))))))))))))), ?_⟩
    revert q
    exact match ls, hz, hl, hT with
    | [], hz, hl, hT => fun q => by
      have ne : ∀ k : Nat, 0 ≠ k → V.int ((([] : List V).length : Nat) : Int) ≠ V.int (k : Int) := fun k h e => h (by have := V.int.inj e; exact Int.ofNat.inj this)
      exact ⟨_, rfl, l, _, rfl, .inl (SqL.of hl), rfl, _, rfl, ifT rfl ⟨_, rfl, a, dx, fs, rfl, hx, ho.no _ (by decide), a, [], ns, par, lab, rfl, by simp, hn, few, hT, fun H1 s1 => q H1 s1⟩⟩
    | [x0], hz, hl, hT => fun q => by
      have ne : ∀ k : Nat, 1 ≠ k → V.int ((([x0] : List V).length : Nat) : Int) ≠ V.int (k : Int) := fun k h e => h (by have := V.int.inj e; exact Int.ofNat.inj this)
      exact ⟨_, rfl, l, _, rfl, .inl (SqL.of hl), rfl, _, rfl, ifF (ne 0 (by decide)) ⟨_, rfl, l, _, rfl, .inl (SqL.of hl), rfl, _, rfl, ifT rfl ⟨_, rfl, a, dx, fs, rfl, hx, ho.no _ (by decide), _, rfl, l, _, 0, x0, rfl, rfl, SqL.of hl, rfl, a, [x0], ns, par, lab, rfl, by simp, hn, few, hT, fun H1 s1 => q H1 s1⟩⟩⟩
    | [x0, x1], hz, hl, hT => fun q => by
      have ne : ∀ k : Nat, 2 ≠ k → V.int ((([x0, x1] : List V).length : Nat) : Int) ≠ V.int (k : Int) := fun k h e => h (by have := V.int.inj e; exact Int.ofNat.inj this)
      exact ⟨_, rfl, l, _, rfl, .inl (SqL.of hl), rfl, _, rfl, ifF (ne 0 (by decide)) ⟨_, rfl, l, _, rfl, .inl (SqL.of hl), rfl, _, rfl, ifF (ne 1 (by decide)) ⟨_, rfl, l, _, rfl, .inl (SqL.of hl), rfl, _, rfl, ifT rfl ⟨_, rfl, a, dx, fs, rfl, hx, ho.no _ (by decide), _, rfl, l, _, 0, x0, rfl, rfl, SqL.of hl, rfl, _, rfl, l, _, 1, x1, rfl, rfl, SqL.of hl, rfl, a, [x0, x1], ns, par, lab, rfl, by simp, hn, few, hT, fun H1 s1 => q H1 s1⟩⟩⟩⟩
    | [x0, x1, x2], hz, hl, hT => fun q => by
      have ne : ∀ k : Nat, 3 ≠ k → V.int ((([x0, x1, x2] : List V).length : Nat) : Int) ≠ V.int (k : Int) := fun k h e => h (by have := V.int.inj e; exact Int.ofNat.inj this)
      exact ⟨_, rfl, l, _, rfl, .inl (SqL.of hl), rfl, _, rfl, ifF (ne 0 (by decide)) ⟨_, rfl, l, _, rfl, .inl (SqL.of hl), rfl, _, rfl, ifF (ne 1 (by decide)) ⟨_, rfl, l, _, rfl, .inl (SqL.of hl), rfl, _, rfl, ifF (ne 2 (by decide)) ⟨_, rfl, l, _, rfl, .inl (SqL.of hl), rfl, _, rfl, ifT rfl ⟨_, rfl, a, dx, fs, rfl, hx, ho.no _ (by decide), _, rfl, l, _, 0, x0, rfl, rfl, SqL.of hl, rfl, _, rfl, l, _, 1, x1, rfl, rfl, SqL.of hl, rfl, _, rfl, l, _, 2, x2, rfl, rfl, SqL.of hl, rfl, a, [x0, x1, x2], ns, par, lab, rfl, by simp, hn, few, hT, fun H1 s1 => q H1 s1⟩⟩⟩⟩⟩
    | [x0, x1, x2, x3], hz, hl, hT => fun q => by
      have ne : ∀ k : Nat, 4 ≠ k → V.int ((([x0, x1, x2, x3] : List V).length : Nat) : Int) ≠ V.int (k : Int) := fun k h e => h (by have := V.int.inj e; exact Int.ofNat.inj this)
      exact ⟨_, rfl, l, _, rfl, .inl (SqL.of hl), rfl, _, rfl, ifF (ne 0 (by decide)) ⟨_, rfl, l, _, rfl, .inl (SqL.of hl), rfl, _, rfl, ifF (ne 1 (by decide)) ⟨_, rfl, l, _, rfl, .inl (SqL.of hl), rfl, _, rfl, ifF (ne 2 (by decide)) ⟨_, rfl, l, _, rfl, .inl (SqL.of hl), rfl, _, rfl, ifF (ne 3 (by decide)) ⟨_, rfl, l, _, rfl, .inl (SqL.of hl), rfl, _, rfl, ifT rfl ⟨_, rfl, a, dx, fs, rfl, hx, ho.no _ (by decide), _, rfl, l, _, 0, x0, rfl, rfl, SqL.of hl, rfl, _, rfl, l, _, 1, x1, rfl, rfl, SqL.of hl, rfl, _, rfl, l, _, 2, x2, rfl, rfl, SqL.of hl, rfl, _, rfl, l, _, 3, x3, rfl, rfl, SqL.of hl, rfl, a, [x0, x1, x2, x3], ns, par, lab, rfl, by simp, hn, few, hT, fun H1 s1 => q H1 s1⟩⟩⟩⟩⟩⟩
    | [x0, x1, x2, x3, x4], hz, hl, hT => fun q => by
      have ne : ∀ k : Nat, 5 ≠ k → V.int ((([x0, x1, x2, x3, x4] : List V).length : Nat) : Int) ≠ V.int (k : Int) := fun k h e => h (by have := V.int.inj e; exact Int.ofNat.inj this)
      exact ⟨_, rfl, l, _, rfl, .inl (SqL.of hl), rfl, _, rfl, ifF (ne 0 (by decide)) ⟨_, rfl, l, _, rfl, .inl (SqL.of hl), rfl, _, rfl, ifF (ne 1 (by decide)) ⟨_, rfl, l, _, rfl, .inl (SqL.of hl), rfl, _, rfl, ifF (ne 2 (by decide)) ⟨_, rfl, l, _, rfl, .inl (SqL.of hl), rfl, _, rfl, ifF (ne 3 (by decide)) ⟨_, rfl, l, _, rfl, .inl (SqL.of hl), rfl, _, rfl, ifF (ne 4 (by decide)) ⟨_, rfl, a, dx, fs, rfl, hx, ho.no _ (by decide), _, rfl, l, _, 0, x0, rfl, rfl, SqL.of hl, rfl, _, rfl, l, _, 1, x1, rfl, rfl, SqL.of hl, rfl, _, rfl, l, _, 2, x2, rfl, rfl, SqL.of hl, rfl, _, rfl, l, _, 3, x3, rfl, rfl, SqL.of hl, rfl, _, rfl, l, _, 4, x4, rfl, rfl, SqL.of hl, rfl, a, [x0, x1, x2, x3, x4], ns, par, lab, rfl, by simp, hn, few, hT, fun H1 s1 => q H1 s1⟩⟩⟩⟩⟩⟩
    | _ :: _ :: _ :: _ :: _ :: _ :: _, hz, _, _ => absurd hz (by simp)
end
end MG
/-! text LJ -/
set_option Elab.async false
set_option linter.all false
set_option maxRecDepth 100000
set_option maxHeartbeats 4200000
/-! a tree in one line -/
namespace MG
open PySem PySem.Spec PyProof.Rows L2
section
variable {J : It} {n : Nat} {G : Hp → Prop} {Y : Nat → Hp → V → Hp → Prop}
theorem lc_freshD (w : Walk J n G Y) {g : TG} {te : TE} {vs : List Nat} {σ : L2.St} {H1 : Hp} {D : Addr} {Qd : Hp → Prop} (hD : H1 D = none) (P : Nat → Addr → Hp → Prop) (hP : ∀ i a H H', a ≠ D → Sav D H H' → P i a H → P i a H') (hPn : ∀ i a H, P i a H → H a ≠ none)
    (hn : n ≤ sizeLine) (hG : ∀ H', Same H1 H' → G H')
    (hs : ∀ (i : Nat) (x : V) (H H' : Hp) (Kt : V → Hp → Prop), i < n → Same H1 H → H D ≠ none → Y i H x H' → (∀ a H4, Same H H4 → H a = none → P i a H4 → Kt (.ref a) H4) → g x (wipe σ vs) H' fun σ2 H2 => wipe σ2 vs = wipe σ vs ∧ te σ2 H2 Kt)
    (hd : ∀ H' (as : List Addr), Same H1 H' → H' D = some (.lst (as.map V.ref)) → as.length = n → as.Nodup → (∀ j a, as[j]? = some a → P j a H' ∧ H1 a = none ∧ a ≠ D) → Qd H') :
    LcWalk J g tYes te vs σ H1 D Qd :=
  lc_it w (fun i H => ∃ as : List Addr, H D = some (.lst (as.map V.ref)) ∧ Fresh H1 H D P i as) ⟨[], upd_same, Same.new hD, rfl, List.nodup_nil, fun j a h => by simp at h⟩ (fun i H _ ⟨_, _, f⟩ => hG H f.s)
    (fun i x H H' hi ⟨as, hl, f⟩ y => hs i x H H' _ hi f.s (by rw [hl]; simp) y fun a H4 s na p => ⟨as.map V.ref, s _ _ hl, by rw [List.length_map, f.len]; omega, as ++ [a], by rw [upd_same, List.map_append]; rfl, Fresh.step hP hPn hD f (by rw [hl]; simp) s na p⟩)
    fun H ⟨as, hl, f⟩ => hd H as f.s hl f.len f.nd f.at_
end
/-- the parent of the i-th of a line -/
def lp (names : List Str) (i : Nat) : Str := if i = 0 then Rt else names.getD (i - 1) Rt
/-- what a turn lays -/
def LineP (names : List Str) (D : Addr) (i : Nat) (a : Addr) (H : Hp) : Prop := ∃ (n : Str) (b : Addr), names[i]? = some n ∧ H a = some (.tup [.str n, .ref b]) ∧ H b = some (.tup [.str (lp names i), .str "x"]) ∧ b ≠ D
theorem LineP.keep {names : List Str} {D : Addr} (i : Nat) (a : Addr) (H H' : Hp) (na : a ≠ D) (s : Sav D H H') (h : LineP names D i a H) : LineP names D i a H' := by
  obtain ⟨n, b, h1, h2, h3, h4⟩ := h
  exact ⟨n, b, h1, s a _ na h2, s b _ h4 h3, h4⟩
theorem LineP.there {names : List Str} {D : Addr} (i : Nat) (a : Addr) (H : Hp) (h : LineP names D i a H) : H a ≠ none := by
  obtain ⟨n, b, h1, h2, h3, h4⟩ := h
  rw [h2]; simp
theorem line_end {K : PySem.W.Frag} {names : List Str} {D : Addr} {H : Hp} {as : List Addr} (hnd : names.Nodup) (h40 : names.length ≤ 40) (hns : ∀ x ∈ names, nameB x = true ∧ x ≠ Rt) (hl : as.length = names.length) (hat : ∀ j a, as[j]? = some a → LineP names D j a H) :
    ∃ (par lab : Str → Str) (ad : Str → Addr), Paired (fun p kv => SqT K H p [kV kv.1, kv.2]) as (names.map fun n => ((Sum.inr n : Key), V.ref (ad n))) ∧ Line Rt names par ∧ (∀ n, lab n = "x") ∧ TD names par lab ∧ ∀ n, n ∈ names → H (ad n) = some (.tup [.str (par n), .str (lab n)]) := by
  obtain ⟨par, hpar⟩ := tab_of (α := Str) names ((List.range names.length).map (lp names)) hnd (by rw [List.length_map, List.length_range])
  have hpar : ∀ (i : Nat) (n : Str), names[i]? = some n → par n = lp names i := fun i n h => by
    have h1 := hpar i n h
    rw [List.getElem?_map, List.getElem?_range (List.getElem?_eq_some_iff.mp h).1] at h1
    exact (Option.some.inj h1).symm
  obtain ⟨tb, _, htb⟩ := zip_tab names as hnd hl
  have eb : as = names.map tb := list_tab hl htb
  have all : ∀ n, n ∈ names → ∃ b, H (tb n) = some (.tup [.str n, .ref b]) ∧ H b = some (.tup [.str (par n), .str "x"]) := fun n hn => by
    obtain ⟨i, hi, e⟩ := List.mem_iff_getElem.mp hn
    have hi' : names[i]? = some n := by rw [List.getElem?_eq_getElem hi, e]
    obtain ⟨m, b, h1, h2, h3, _⟩ := hat i _ (htb i n hi')
    rw [hi'] at h1
    cases h1
    exact ⟨b, h2, by rw [hpar i n hi']; exact h3⟩
  obtain ⟨ad, had⟩ : ∃ ad : Str → Addr, ∀ n, n ∈ names → H (tb n) = some (.tup [.str n, .ref (ad n)]) ∧ H (ad n) = some (.tup [.str (par n), .str "x"]) :=
    ⟨fun n => if h : n ∈ names then (all n h).choose else 0, fun n hn => by
      have := (all n hn).choose_spec
      simp only [dif_pos hn]
      exact this⟩
  have line : Line Rt names par := ⟨hnd, fun h => (hns _ h).2 rfl, h40, fun n h => by rw [hpar 0 n h]; rfl, fun i n m h1 h2 => by
    rw [hpar (i + 1) m h2]
    show (if i + 1 = 0 then Rt else names.getD i Rt) = n
    rw [if_neg (by omega), List.getD_eq_getElem?_getD, h1]; rfl⟩
  refine ⟨par, fun _ => "x", ad, ?_, line, fun _ => rfl, ⟨line.tree, h40, line.apart, fun n hn => (hns n hn).1, fun n _ => labs_name _ (by decide +kernel)⟩, fun n hn => (had n hn).2⟩
  rw [eb]
  exact paired_map names fun n hn => SqT.of (had n hn).1
theorem line_keys {names : List Str} (hnd : names.Nodup) (ad : Str → Addr) : mergeK [] (names.map fun n => ((Sum.inr n : Key), V.ref (ad n))) = names.map fun n => ((Sum.inr n : Key), V.ref (ad n)) := mergeK_nd (by
  rw [List.map_map]
  exact List.Pairwise.map _ (fun a b h e => h (Sum.inr.inj e)) hnd)
/-- names[k - 1] -/
theorem at_prev {names : List Str} {i : Nat} (hi : i < names.length) : atI (names.map V.str) ((i : Nat) - 1 : Int) = some (.str (if i = 0 then names.getD (names.length - 1) Rt else lp names i)) := by
  cases i with
  | zero =>
    have e : names = names.dropLast ++ [names.getLast (List.ne_nil_of_length_pos hi)] := (List.dropLast_concat_getLast _).symm
    have e2 : names.getD (names.length - 1) Rt = names.getLast (List.ne_nil_of_length_pos hi) := by
      rw [List.getD_eq_getElem?_getD, ← List.getLast?_eq_getElem?, List.getLast?_eq_some_getLast (List.ne_nil_of_length_pos hi)]; rfl
    rw [if_pos rfl, e2]
    have e3 : ((0 : Nat) - 1 : Int) = -1 := rfl
    have e4 : names.map V.str = names.dropLast.map V.str ++ [V.str (names.getLast (List.ne_nil_of_length_pos hi))] := by
      conv => lhs; rw [e]
      rw [List.map_append]; rfl
    rw [e4]
    exact atI_last _ _
  | succ i =>
    have e : (((i + 1 : Nat) : Int) - 1) = ((i : Nat) : Int) := by omega
    rw [e, if_neg (by omega)]
    refine atI_nat ?_
    unfold lp
    rw [if_neg (by omega), List.getElem?_map, List.getD_eq_getElem?_getD]
    show Option.map V.str names[i]? = _
    rw [Nat.add_sub_cancel, List.getElem?_eq_getElem (by omega)]
    rfl
def spDeep : Sp := fun vs H Q _ => ∃ r : Addr, vs = [.ref r] ∧ Rng r H ∧ ∀ H', RS r H H' → Q (.bl true) H'
section
variable {P : Program} {w : World} {K : PySem.W.Frag} {mg : Str → Option Value} {base : Heap} {C U : Addr}
theorem sc_s_deep_right : FnScope ["_law_rng_here", "_law_names_here", "_law_deep", "_law_k", "_law_name_here"] ["_law_rng_here"] (defScope s_deep_right) := ⟨rfl, rfl, rfl, by decide +kernel, rfl, by decide +kernel, by decide +kernel⟩
theorem ok_deep_right {f : Addr} {fd : FuncData} (T : Txt K mg C) (F : Fun K "_law_deep_right" "_law_deep_right" s_deep_right f fd) (hm : mg "_law_deep_right" = some (.ref f)) (c__law_names : Cal P w K mg base 3 "_law_names" spNames) (c_Tree : MkT P w K mg base C 7) (c_at : AtT P w K mg base C 1) (c_ht : HtT P w K mg base C 1) : Cal P w K mg base 10 "_law_deep_right" spDeep := by
  refine ⟨f, fd, ["_law_rng_here"], ?_, hm, F.kp, F.binds (ps := ["_law_rng_here"]) fun _ _ _ _ _ _ us hl => match us, hl with | [_], _ => rfl⟩
  refine F.okX sc_s_deep_right (fun vs H Q E h => ?_) (fun cdv A outer s H vs Q E hr h => ?_)
  · obtain ⟨r, rfl, _⟩ := h
    rfl
  · obtain ⟨r, rfl, hR, q⟩ := h
    refine ⟨_, PSs.nox (pss_cons (ps_set (i := 1) sc_s_deep_right.nd rfl (Or.inr rfl) (pe_cl c__law_names hr (by decide) (by rfl) (pa_cons (pv 0) (pa_cons pe_int (pa_cons (pe_lst pa_nil) pa_nil)))))
    (pss_cons (ps_set (i := 2) sc_s_deep_right.nd rfl (Or.inl rfl) (pe_mkl c_Tree hr (by decide) (by rfl) (pa_cons (pe_callTy (call_dictP rfl) (by rfl) T.g_dict bt_dict (pa_cons (pe_lc (own := [("_law_k", 3), ("_law_name_here", 4)]) (tt := tYes) rfl sc_s_deep_right.nd (pi_enum (by rfl) T.g_enumerate (pa_cons (pv 1) pa_nil)) (blkOk_by (own := [("_law_k", 3), ("_law_name_here", 4)]) (N := ["_law_rng_here", "_law_names_here", "_law_deep", "_law_k", "_law_name_here"]) (sc := defScope s_deep_right) (by decide +kernel)) (fun _ _ _ _ _ => pg_tupK (n := 2) (K := K) rfl rfl (pgs_cons (pg_name (i := 3) sc_s_deep_right.nd rfl (Or.inl rfl)) (pgs_cons (pg_name (i := 4) sc_s_deep_right.nd rfl (Or.inl rfl)) pgs_nil))) (fun _ _ _ _ _ => pts_nil) (fun _ _ _ _ _ => (pe_tup (pa_cons (pv 4) (pa_cons (pe_tup (pa_cons (pe_ix (ix_tupK (K := K) rfl) (pe_tup (pa_cons pe_str (pa_cons (pe_ix (ix_listK (K := K) rfl) (pv 1) (pe_op op_sub (pv 3) pe_int) (fun _ _ => rfl)) pa_nil))) (pe_callTy call_int1 (by rfl) T.g_int bt_int (pa_cons (pe_cmpR op_gt (pv 3) pe_int (nomark _)) pa_nil)) (fun _ _ => rfl)) (pa_cons pe_str pa_nil))) pa_nil))))) pa_nil)) pa_nil)))
    (pss_cons (ps_if (PW.pt (pw_or (pt_cmpR op_ne (pe_at c_at hr (by decide) (pv 2) (pa_cons pe_str (pa_cons pe_str (pa_cons pe_str (pa_cons pe_str (pa_cons pe_str (pa_cons pe_str pa_nil))))))) (pe_ix ix_list (pv 1) pe_int (fun _ _ => rfl)) (nomark _)) (pw_or1 (pt_cmpR op_notN (pe_at c_at hr (by decide) (pv 2) (pa_cons pe_str (pa_cons pe_str (pa_cons pe_str (pa_cons pe_str (pa_cons pe_str (pa_cons pe_str pa_nil))))))) pe_non (nomark _))))) (pss_one (ps_ret pe_bl)) pss_nil)
    (pss_one (ps_ret (pe_and (pe_cmpR op_eq (pe_at c_at hr (by decide) (pv 2) (pa_cons pe_str (pa_cons pe_str (pa_cons pe_str (pa_cons pe_str (pa_cons pe_str (pa_cons pe_str (pa_cons pe_str pa_nil)))))))) (pe_ix ix_list (pv 1) pe_int (fun _ _ => rfl)) (nomark _)) (pe_one (pe_cmpR op_eq (pe_ht c_ht hr (by decide) (pv 2) (by rfl)) pe_int (nomark _))))))))), ?_⟩
    refine ⟨_, rfl, by show 0 ≤ sizeLine; decide, fun u hu => ⟨r, u, 8, rfl, (RS.new hR hu).rg, fun e => hR.ne (e ▸ hu), upd_same, by decide, fun L names H1 hL0 s2 hL hlen hnd hns => ?_⟩⟩
    refine ⟨_, rfl, L, names.map V.str, rfl, SqL.of hL, fun D hD => lc_freshD (walk_enum (xs := names.map V.str)) hD (LineP names D) LineP.keep LineP.there (by rw [List.length_map, hlen, sz]; decide) (fun H' s => SqL.of (s _ _ hL)) ?_ ?_⟩
    · rintro i x H2 H3 Kt hi s3 hDn ⟨T1, y, z, rfl, hT1, rfl, hy, hz⟩ k
      cases hy
      have hz : (names.map V.str)[i]? = some z := hz
      rw [List.getElem?_map] at hz
      obtain ⟨n, hn, rfl⟩ := Option.map_eq_some_iff.mp hz
      have hi : i < names.length := (List.getElem?_eq_some_iff.mp hn).1
      have s4 := s3.trans (Same.new (o := .tup [.int (i : Nat), .str n]) hT1)
      refine ⟨T1, _, rfl, SqT.of upd_same, rfl, _, _, rfl, _, _, rfl, rfl, rfl, ?_⟩
      refine ⟨_, rfl, _, rfl, _, rfl, _, _, rfl, rfl, L, _, _, _, rfl, rfl, SqL.of (s4 _ _ hL), at_prev hi, by show 2 ≤ sizeLine; decide, fun t1 ht1 => ?_⟩
      have s5 := s4.trans (Same.new (o := .tup [.str Rt, .str (if i = 0 then names.getD (names.length - 1) Rt else lp names i)]) ht1)
      refine ⟨_, rfl, _, _, rfl, rfl, .inr ⟨_, rfl, t1, _, _, .str (lp names i), rfl, rfl, SqT.of upd_same, ?_, by show 2 ≤ sizeLine; decide, fun b hb => ⟨by show 2 ≤ sizeLine; decide, fun a ha => ?_⟩⟩⟩
      · by_cases h0 : i = 0
        · subst h0; rfl
        · have e1 : decide (((i : Nat) : Int) > 0) = true := decide_eq_true (by omega)
          rw [e1, if_neg h0]; rfl
      · have n1 := (Same.new (o := .tup [.int (i : Nat), .str n]) hT1).trans (Same.new (o := .tup [.str Rt, .str (if i = 0 then names.getD (names.length - 1) Rt else lp names i)]) ht1)
        have n2 := n1.trans (Same.new (o := .tup [.str (lp names i), .str "x"]) hb)
        have bD : b ≠ D := fun e => hDn (e ▸ n1.free hb)
        exact k a _ (n2.trans (Same.new ha)) (n2.free ha) ⟨n, b, hn, upd_same, Same.new ha _ _ upd_same, bD⟩
    · intro H2 as s3 hD2 hla hand hat
      rw [List.length_map] at hla
      obtain ⟨par, lab, ad, hpa, line, hx, TDn, had⟩ := line_end (K := K) hnd (by rw [hlen]; decide) hns hla fun j a h => (hat j a h).1
      refine ⟨D, as, _, rfl, SqL.of hD2, hpa, fun p hp => ?_⟩
      rw [line_keys hnd]
      have m1 := Same.new (o := .dK (names.map fun n => ((Sum.inr n : Key), V.ref (ad n)))) hp
      have hpl : PlX (upd H2 p (.dK (names.map fun n => ((Sum.inr n : Key), V.ref (ad n))))) p names par lab ad := ⟨⟨.inl upd_same, fun n hn => m1 _ _ (had n hn)⟩, upd_same⟩
      have hL3 := m1 _ _ (s3 _ _ hL)
      have r1 := (RS.new (o := .lst []) hR hu).trans s2
      have r3 := r1.trans (RS.of (s3.trans m1) r1.rg)
      generalize (upd H2 p (.dK (names.map fun n => ((Sum.inr n : Key), V.ref (ad n))))) = H3 at hpl hL3 r3
      refine fun x dx hx0 hdx0 hne => ?_
      have m3 : Same H3 (upd (upd H3 dx (.own x)) x (.ins C dx [])) := (Same.new hdx0).trans (Same.new (by rw [upd_ne (Ne.symm hne)]; exact hx0))
      have Lx : L ≠ x := ne_of_none hL3 hx0
      refine ⟨x, p, dx, names, par, lab, ad, rfl, upd_same, hpl.same m3, TDn, fun H5 sv tr => ⟨rfl, ?_⟩⟩
      have hL5 := sv _ _ Lx (m3 _ _ hL3)
      have r5 : RS r H H5 := r3.trans ⟨fun b ob _ e => sv b ob (ne_of_none e hx0) (m3 _ _ e), by
        obtain ⟨a1, b1, e1, h1⟩ := r3.rg
        exact ⟨a1, b1, sv r _ (ne_of_none e1 hx0) (m3 _ _ e1), h1⟩⟩
      obtain ⟨fs, rr, ho, _, _⟩ := id tr.tn.ex
      obtain ⟨dx2, hx5⟩ := ho.at_
      have few := TDn.few
      have n5 : names[5]? = some names[5] := List.getElem?_eq_getElem (by rw [hlen]; decide)
      have n6 : names[6]? = some names[6] := List.getElem?_eq_getElem (by rw [hlen]; decide)
      have n7 : names[7]? = some names[7] := List.getElem?_eq_getElem (by rw [hlen]; decide)
      have e5 : optV (nodeAt names par lab Rt ([V.str "x", V.str "x", V.str "x", V.str "x", V.str "x", V.str "x"].map lblOf)) = .str names[5] := congrArg optV ((nodeAt_iff line.tree line.apart (List.replicate 6 "x") _).mpr ⟨.inr (List.mem_of_getElem? n5), line.path (fun n _ => hx n) 5 _ n5⟩)
      have e6 : optV (nodeAt names par lab Rt ([V.str "x", V.str "x", V.str "x", V.str "x", V.str "x", V.str "x", V.str "x"].map lblOf)) = .str names[6] := congrArg optV ((nodeAt_iff line.tree line.apart (List.replicate 7 "x") _).mpr ⟨.inr (List.mem_of_getElem? n6), line.path (fun n _ => hx n) 6 _ n6⟩)
      have ey : optV (nodeAt names par lab Rt ([V.str "x", V.str "x", V.str "x", V.str "x", V.str "x", V.str "y"].map lblOf)) = .non := by
        have e0 : nodeAt names par lab Rt (([("x" : Str), "x", "x", "x", "x", "y"]).map some) = none := by
          cases e : nodeAt names par lab Rt (([("x" : Str), "x", "x", "x", "x", "y"]).map some) with
          | none => rfl
          | some n =>
            obtain ⟨h1, h2⟩ := (nodeAt_iff line.tree line.apart _ n).mp e
            rcases h1 with h1 | h1
            · rw [h1, path_root line.tree] at h2; cases h2
            · obtain ⟨i, hi, ei⟩ := List.mem_iff_getElem.mp h1
              rw [line.path (fun n _ => hx n) i n (by rw [List.getElem?_eq_getElem hi, ei])] at h2
              have hm : ("y" : Str) ∈ List.replicate (i + 1) ("x" : Str) := by rw [h2]; simp
              exact absurd (List.eq_of_mem_replicate hm) (by decide +kernel)
        exact congrArg optV e0
      refine ⟨_, rfl, x, dx2, fs, rfl, hx5, ho.no _ (by decide), x, [V.str "x", V.str "x", V.str "x", V.str "x", V.str "x", V.str "x"], names, par, lab, rfl, by simp, tr.tn, few, fun l hl => ?t1, fun H6 s6 => ?_⟩
      case t1 => simp only [List.mem_cons, List.not_mem_nil, or_false, or_self] at hl; rw [hl]; trivial
      rw [e5]
      refine ⟨_, rfl, L, _, (5 : Nat), .str names[5], rfl, rfl, SqL.of (s6 _ _ hL5), atI_nat (by rw [List.getElem?_map, n5]; rfl), rfl, _, rfl, iteND (fun h => absurd rfl h) fun _ => ?_⟩
      refine ⟨_, rfl, x, dx2, fs, rfl, s6 _ _ hx5, ho.no _ (by decide), x, [V.str "x", V.str "x", V.str "x", V.str "x", V.str "x", V.str "y"], names, par, lab, rfl, by simp, tr.tn.same s6, few, fun l hl => ?t2, fun H7 s7 => ?_⟩
      case t2 =>
        simp only [List.mem_cons, List.not_mem_nil, or_false] at hl
        rcases hl with h | h | h | h | h | h <;> (rw [h]; trivial)
      rw [ey]
      refine ⟨rfl, _, rfl, iteF ?_⟩
      have s67 := s6.trans s7
      refine ⟨_, rfl, x, dx2, fs, rfl, s67 _ _ hx5, ho.no _ (by decide), x, [V.str "x", V.str "x", V.str "x", V.str "x", V.str "x", V.str "x", V.str "x"], names, par, lab, rfl, by simp, tr.tn.same s67, few, fun l hl => ?t3, fun H8 s8 => ?_⟩
      case t3 => simp only [List.mem_cons, List.not_mem_nil, or_false, or_self] at hl; rw [hl]; trivial
      rw [e6]
      have s68 := s67.trans s8
      refine ⟨_, rfl, L, _, (6 : Nat), .str names[6], rfl, rfl, SqL.of (s68 _ _ hL5), atI_nat (by rw [List.getElem?_map, n6]; rfl), rfl, _, rfl, iteD (fun _ => ?_) fun h => absurd rfl h⟩
      obtain ⟨fs2, hh, ho2, hlk, hup, hlow⟩ := tr.th.ex
      obtain rfl := ho.uniq ho2
      have hx8 := s68 _ _ hx5
      have h8 : hh = 8 := by
        have h1 := hup names[7] (List.mem_of_getElem? n7)
        rw [line.len 7 _ n7] at h1
        rcases hlow with h | ⟨n, hn, h⟩
        · subst h; exact absurd h1 (by decide)
        · obtain ⟨i, hi, ei⟩ := List.mem_iff_getElem.mp hn
          rw [line.len i n (by rw [List.getElem?_eq_getElem hi, ei])] at h
          rw [hlen] at hi
          omega
      subst h8
      exact ⟨_, rfl, x, dx2, fs, rfl, hx8, x, dx2, fs, .int 8, rfl, hx8, hlk, rfl, q H8 (r5.trans (RS.of s68 r5.rg))⟩
end
end MG
/-! text LK -/
set_option Elab.async false
set_option linter.all false
set_option maxRecDepth 100000
set_option maxHeartbeats 4200000
/-! repr of data -/
namespace MG
open PySem PySem.Spec PyProof.Rows L2
/-- small enough to be shown -/
structure RP (d : PyData) (k b : Nat) : Prop where
  sh : d.showable = true
  nd : d.hasDict = false
  ls : d.leavesShort 13 = true
  dp : d.depth ≤ k
  bk : d.bulk ≤ b
structure RPA (ds : List PyData) (k b : Nat) : Prop where
  sh : PyData.showableAll ds = true
  nd : PyData.hasDictAll ds = false
  ls : PyData.leavesShortAll 13 ds = true
  dp : PyData.depthAll ds ≤ k
  bk : PyData.bulkAll ds ≤ b
theorem RPA.nil {k : Nat} : RPA [] k 0 := ⟨by simp [PyData.showableAll], by simp [PyData.hasDictAll], by simp [PyData.leavesShortAll], by simp [PyData.depthAll], by simp [PyData.bulkAll]⟩
theorem RPA.cons {d : PyData} {ds : List PyData} {k b c : Nat} (h : RP d k b) (t : RPA ds k c) : RPA (d :: ds) k (b + 1 + c) := by
  have h1 := h.dp
  have h2 := t.dp
  have h3 := h.bk
  have h4 := t.bk
  refine ⟨by simp [PyData.showableAll, h.sh, t.sh], by simp [PyData.hasDictAll, h.nd, t.nd], by simp [PyData.leavesShortAll, h.ls, t.ls], by simp only [PyData.depthAll]; omega, by simp only [PyData.bulkAll]; omega⟩
theorem RPA.map {α : Type} {f : α → PyData} {k b : Nat} : ∀ l : List α, (∀ x, x ∈ l → RP (f x) k b) → RPA (l.map f) k (l.length * (b + 1))
  | [], _ => by rw [List.length_nil, Nat.zero_mul]; exact RPA.nil
  | x :: l, h => by
    have h1 := RPA.cons (h x List.mem_cons_self) (RPA.map l fun y hy => h y (List.mem_cons_of_mem _ hy))
    have e : (x :: l).length * (b + 1) = b + 1 + l.length * (b + 1) := by rw [List.length_cons, Nat.succ_mul, Nat.add_comm]
    rw [e]; exact h1
theorem RP.lst {ds : List PyData} {k b : Nat} (h : RPA ds k b) : RP (.list ds) (k + 1) b := by
  have h2 := h.dp
  exact ⟨by simp only [PyData.showable]; exact h.sh, by simp only [PyData.hasDict]; exact h.nd, by simp only [PyData.leavesShort]; exact h.ls, by simp only [PyData.depth]; omega, by simp only [PyData.bulk]; exact h.bk⟩
theorem RP.tup {ds : List PyData} {k b : Nat} (h : RPA ds k b) : RP (.tuple ds) (k + 1) b := by
  have h2 := h.dp
  exact ⟨by simp only [PyData.showable]; exact h.sh, by simp only [PyData.hasDict]; exact h.nd, by simp only [PyData.leavesShort]; exact h.ls, by simp only [PyData.depth]; omega, by simp only [PyData.bulk]; exact h.bk⟩
theorem RP.mono {d : PyData} {k j b c : Nat} (h : RP d k b) (hk : k ≤ j) (hb : b ≤ c) : RP d j c := ⟨h.sh, h.nd, h.ls, Nat.le_trans h.dp hk, Nat.le_trans h.bk hb⟩
theorem rp_bool (b : Bool) : RP (.bool b) 0 0 := ⟨by simp [PyData.showable], by simp [PyData.hasDict], by simp [PyData.leavesShort], by simp [PyData.depth], by simp [PyData.bulk]⟩
theorem rp_non : RP .none 0 0 := ⟨by simp [PyData.showable], by simp [PyData.hasDict], by simp [PyData.leavesShort], by simp [PyData.depth], by simp [PyData.bulk]⟩
theorem rp_str {x : Str} (h : ∀ c ∈ x.cps.toList, c < 1000) (hl : x.length ≤ 100) : RP (.str x) 0 100 := by
  have e : (16 : Nat) ^ 8 = 4294967296 := by decide +kernel
  refine ⟨by simp [PyData.showable], by simp [PyData.hasDict], ?_, by simp [PyData.depth], by simp only [PyData.bulk]; exact hl⟩
  simp only [PyData.leavesShort, List.all_eq_true, decide_eq_true_eq]
  intro c hc
  have := h c hc
  omega
theorem rp_name {x : Str} (h : nameB x = true) : RP (.str x) 0 100 := rp_str (fun c hc => by
  have := let_le c (((nameB_iff x).mp h).2 c hc)
  omega) (by have := nameB_len h; omega)
theorem rp_ints : ∀ i : Nat, i < 100 → ((PyData.shown (.int (i : Int))).length ≤ 13 ∧ ((i : Int)).natAbs.log2 < 1920) := by decide +kernel
theorem rp_int {i : Nat} (h : i < 100) : RP (.int (i : Int)) 0 0 := by
  obtain ⟨h1, h2⟩ := rp_ints i h
  exact ⟨by simp only [PyData.showable]; exact decide_eq_true h2, by simp [PyData.hasDict], by simp only [PyData.leavesShort]; exact decide_eq_true h1, by simp [PyData.depth], by simp [PyData.bulk]⟩
section
variable {X : Cx} {k j : Nat} {C : Addr} {x m : Str} {sp : Sp} {p pos apos : Pos} {e o : Expr} {es : List Expr} {ta : TE} {t : TA} {E : XK}
def rReprD (K : PySem.W.Frag) : List V → Hp → VK → Prop := fun xs H Q => ∃ a d, xs = [.ref a] ∧ Dp K H (.ref a) d ∧ RP d 8 1048576 ∧ Q (.str d.shown) H
theorem call_reprD (hg : X.A.guards = some []) (hr : Room j X.A) : CallR X (.builtin "repr") (rReprD X.K) := by
  rintro pins s σ H xs us Q I r ⟨a, d, rfl, hd, hp, q⟩
  rcases vals1 r with ⟨_, rfl, rfl⟩
  obtain ⟨as, r1⟩ := Dp.reads I d (.ref a) (.ref a) hd rfl
  have hdp := hp.dp
  have hun := hr.un
  refine repr_of_reads' r1 hp.sh (PyData.noDict_hsm hp.nd) hg (by omega) (fun _ _ e => e) (fun h' u tk hk => ⟨.str d.shown, H, I.kept (t' := tk) hk, ⟨_, rfl⟩, q⟩) (PyData.shown_fits_bulk (by decide) (by decide) hp.ls (by have few := hp.bk; have two : (2 : Nat) ^ 20 = 1048576 := (by decide); omega))
end
end MG
/-! text LL -/
set_option Elab.async false
set_option linter.all false
set_option maxRecDepth 100000
set_option maxHeartbeats 4200000
/-! defs that are called where nothing guards -/
namespace MG
open PySem PySem.Spec PyProof.Rows L2
section
variable (P : Program) (w : World) (K : PySem.W.Frag) (mg : Str → Option Value) (base : Heap)
structure FnOkG (k : Nat) (f : Addr) (fd : FuncData) (ps : List Str) (sp : Sp) : Prop where
  len : ∀ us H Q E, sp us H Q E → us.length = ps.length
  run : ∀ (A : Around) (outer : List Env) (s : Shared) (H : Hp) (args : Args) (us : List Value) (vs : List V) (Q : VK) (E : XK), Room k A → A.guards = some [] → Env0 P w K mg base A outer s H → BindsTo s fd args (ps.zip us) → Vals vs us → sp vs H Q E →
    codeAny (model P w) A (.call (.ref f) args) (CR (L2.CX P w) outer P w H s Q E) s
structure CalG (k : Nat) (x : Str) (sp : Sp) : Prop where
  ex : ∃ (f : Addr) (fd : FuncData) (ps : List Str), FnOkG P w K mg base k f fd ps sp ∧ mg x = some (.ref f) ∧ PySem.W.keepIn K (.ref f) = true ∧ Binds K fd ps []
end
section
variable {P : Program} {w : World} {K : PySem.W.Frag} {mg : Str → Option Value} {base : Heap}
theorem FnOkG.mono {j k : Nat} {f : Addr} {fd : FuncData} {ps : List Str} {sp : Sp} (F : FnOkG P w K mg base j f fd ps sp) (h : j ≤ k) : FnOkG P w K mg base k f fd ps sp :=
  ⟨F.len, fun A outer s H args us vs Q E hr => F.run A outer s H args us vs Q E (hr.mono h)⟩
theorem okG {x qual : Str} {st : Stmt} {f : Addr} {fd : FuncData} {N ps : List Str} {k : Nat} {sp : Sp} (F : Fun K x qual st f fd) (S : FnScope N ps (defScope st)) (len : ∀ vs H Q E, sp vs H Q E → vs.length = ps.length)
    (hbody : ∀ (cdv : Value) (A : Around) (outer : List Env) (s : Shared) (H : Hp) (vs : List V) (Q : VK) (E : XK), Room k (A.deeper (envOfC qual (defScope st) s.heap.objs.size f cdv)) → (A.deeper (envOfC qual (defScope st) s.heap.objs.size f cdv)).guards = some [] → sp vs H Q E →
      ∃ t, PSs (cxOf (L2.CX P w) P w K mg base N qual (defScope st) f cdv A outer s H E) (defBody st) t ∧ t { nx := fun _ H' => Q .non H', rt := Q } (L2.start N vs) H) : FnOkG P w K mg base (k + 1) f fd ps sp := by
  obtain ⟨oc, od, kV, doc, pm, an, cdv, ct, slots, rfl, lk, hcd⟩ := F.ex
  exact ⟨len, fun A outer s H args us vs Q E hr hg e0 hb r h => LamX.run_ofS lk hcd S hr e0 hb r (len _ _ _ _ h) fun hr' => hbody cdv A outer s H vs Q E hr' hg h⟩
end
section
variable {X : Cx} {k j : Nat} {x : Str} {sp : Sp} {p pos : Pos} {e : Expr} {es : List Expr} {t : TA} {E : XK}
theorem run_fnG {f : Addr} {fd : FuncData} {ps : List Str} {pins : List (Addr × Obj)} {σ : L2.St} {H : Hp} {s : Shared} {Q : VK} {us : List Value} {vs : List V} (F : FnOkG X.prog X.w X.K X.mg X.base k f fd ps sp) (hr : Room k X.A) (hgu : X.A.guards = some []) (hb : Binds X.K fd ps []) (hx : Passes (L2.CX X.prog X.w) X E)
    (I : L2.Inv X pins σ H s) (r : Vals vs us) (h : sp vs H Q E) : wpAny (model X.prog X.w) X.A (call (.ref f) us) (EP X pins σ Q) X.xe s := by
  have hl : (us ++ []).length = ps.length := by rw [List.append_nil, ← r.length]; exact F.len _ _ _ _ h
  have r2 : Vals vs (us ++ []) := by rw [List.append_nil]; exact r
  refine wpAny_call (codeAny_mono (F.run X.A X.stack s H ⟨us, []⟩ (us ++ []) vs Q E hr hgu I.env0 (hb s us I.kIn hl) r2 h) fun r s' hq => ?_)
  cases r with
  | error e => exact hx pins σ H s e s' I hq
  | ok fl =>
    cases fl with
    | ret u => exact I.after hq
    | next => exact False.elim hq
    | brk => exact False.elim hq
    | cont => exact False.elim hq
theorem pe_clG (c : CalG X.prog X.w X.K X.mg X.base k x sp) (hr : Room j X.A) (hk : k ≤ j) (hgu : X.A.guards = some []) (hg : Gl X x) (ha : PA X (e :: es) t)
    (hdb : (x == ("__debug__" : Str)) = false := by decide) (he : Row1 X e es := by rfl) (hpl : Flat X es pos := by rfl) :
    PE X (.Call (.Name x p) (e :: es) [] pos) (tCall sp [] E0 t) := by
  obtain ⟨f, fd, ps, F, hm, kp, b⟩ := c.ex
  constructor
  intro pins s σ H Q I h
  refine wpAny_Call_Name_kw (ld_glob I hg hm (PySem.W.callWith_K (h₀ := X.base) I.ok.mod.kin kp (thn (ha.run pos pins s σ H _ I h) fun us s1 ⟨vs, H1, I1, r, q⟩ => ⟨I1.kIn, ?_⟩) he hpl) hdb)
  have q : sp (vs ++ []) H1 Q E0 := q
  rw [List.append_nil] at q
  exact run_fnG F (hr.mono hk) hgu b passL I1 r q
end
end MG
/-! text LM -/
set_option Elab.async false
set_option linter.all false
set_option maxRecDepth 100000
set_option maxHeartbeats 4200000
/-! what is told of a node, what is due -/
namespace MG
open PySem PySem.Spec PyProof.Rows L2
/-- what both tell of the node n -/
def toldD (ns : List Str) (par lab : Str → Str) (n : Str) : PyData := .list [.list ((W par Rt n).map .str), .int (((W par Rt n).length : Int) - 1), .tuple ((path par lab Rt n).map .str), .list ((pre (chS ns par lab) n).map .str), .list ((Rt :: ns).map fun m => .bool (decide (m ∈ W par Rt n)))]
theorem rt_name : nameB Rt = true := by decide +kernel
theorem told_rp {ns : List Str} {par lab : Str → Str} (D : TD ns par lab) {n : Str} (hn : n = Rt ∨ n ∈ ns) : RP (toldD ns par lab n) 8 1048576 := by
  have T0 := D.T
  have few := D.few
  have Kd := chS_kids T0.nd par lab
  have nm : ∀ x, x = Rt ∨ x ∈ ns → nameB x = true := fun x hx => hx.elim (fun e => e ▸ rt_name) (D.nm x)
  have w1 := T0.W_le hn
  have wpos := T0.W_pos n
  have a1 := RPA.map (f := PyData.str) (W par Rt n) fun x hx => rp_name (nm x (by
    rcases T0.W_in n hn x hx with h | h
    · exact .inl h
    · exact .inr h))
  have a2 : RP (.int (((W par Rt n).length : Int) - 1)) 0 0 := by
    have e : ((W par Rt n).length : Int) - 1 = (((W par Rt n).length - 1 : Nat) : Int) := by omega
    rw [e]; exact rp_int (by omega)
  have a3 := RPA.map (f := PyData.str) (path par lab Rt n) fun x hx => rp_name (D.path_lab hn x hx)
  have l3 := D.path_le hn
  have a4 := RPA.map (f := PyData.str) (pre (chS ns par lab) n) fun x hx => rp_name (nm x (pre_in T0 Kd hn hx))
  have a5 := RPA.map (k := 0) (b := 0) (f := fun m => PyData.bool (decide (m ∈ W par Rt n))) (Rt :: ns) fun x _ => rp_bool _
  have l4 : (pre (chS ns par lab) n).length ≤ 41 := by
    rw [← pre_under T0 Kd hn]
    have h1 := List.length_filter_le (fun x => decide (n ∈ W par Rt x)) (pre (chS ns par lab) Rt)
    rw [pre_len T0 Kd] at h1
    omega
  have e := RP.lst (RPA.cons ((RP.lst a1).mono (Nat.le_refl 1) (Nat.le_refl _)) (RPA.cons (a2.mono (Nat.zero_le 1) (Nat.le_refl _)) (RPA.cons (RP.tup a3) (RPA.cons (RP.lst a4) (RPA.cons (RP.lst a5) RPA.nil)))))
  refine e.mono (by decide) ?_
  rw [List.length_cons]
  omega
def spTold (C : Addr) : Sp := fun vs H Q _ => ∃ (t : Addr) (n : Str) (ns : List Str) (par lab : Str → Str), vs = [.ref t, .str n] ∧ TreeOk C H t ns par lab ∧ TD ns par lab ∧ (n = Rt ∨ n ∈ ns) ∧ ∀ H', Same H H' → Q (.str (toldD ns par lab n).shown) H'
section
variable {P : Program} {w : World} {K : PySem.W.Frag} {mg : Str → Option Value} {base : Heap} {C U : Addr}
theorem sc_s_told : FnScope ["_law_tree", "_law_node", "_law_found", "_law_shown", "_law_other"] ["_law_tree", "_law_node"] (defScope s_told) := ⟨rfl, rfl, rfl, by decide +kernel, rfl, by decide +kernel, by decide +kernel⟩
theorem ok_told {f : Addr} {fd : FuncData} (T : Txt K mg C) (F : Fun K "_law_told" "_law_told" s_told f fd) (hm : mg "_law_told" = some (.ref f)) (c_way_up : Met P w K mg base 4 C "way_up" (spOf U C rWay)) (c_depth_of : Met P w K mg base 5 C "depth_of" (spOf U C rDepth)) (c_path_of : Met P w K mg base 5 C "path_of" (spOf U C rPath))
    (c_nodes_under : Met P w K mg base 4 C "nodes_under" (spBelow U C)) (c_nodes : Met P w K mg base 1 C "nodes" (spNodes C)) (c_is_under : Met P w K mg base 5 C "is_under" (spUnder U C)) : CalG P w K mg base 6 "_law_told" (spTold C) := by
  refine ⟨f, fd, ["_law_tree", "_law_node"], ?_, hm, F.kp, F.binds (ps := ["_law_tree", "_law_node"]) fun _ _ _ _ _ _ us hl => match us, hl with | [_, _], _ => rfl⟩
  refine okG F sc_s_told (fun vs H Q E h => ?_) (fun cdv A outer s H vs Q E hr hgu h => ?_)
  · obtain ⟨t, n, ns, par, lab, rfl, _⟩ := h
    rfl
  · obtain ⟨t, n, ns, par, lab, rfl, hT, D, hn, q⟩ := h
    have T0 := D.T
    have few := D.few
    have Kd := chS_kids T0.nd par lab
    obtain ⟨fs, r0, ho, _, _⟩ := id hT.tn.ex
    obtain ⟨dx, hx⟩ := ho.at_
    have kn := knownB_yes hn
    refine ⟨_, PSs.nox (pss_cons (ps_set (i := 2) sc_s_told.nd rfl (Or.inl rfl) (pe_lst (pa_cons (pe_ml c_way_up hr (by decide) (pv 0) (pa_cons (pv 1) pa_nil)) (pa_cons (pe_ml c_depth_of hr (by decide) (pv 0) (pa_cons (pv 1) pa_nil)) (pa_cons (pe_ml c_path_of hr (by decide) (pv 0) (pa_cons (pv 1) pa_nil)) (pa_cons (pe_ml c_nodes_under hr (by decide) (pv 0) (pa_cons (pv 1) pa_nil)) pa_nil))))))
    (pss_cons (ps_set (i := 3) sc_s_told.nd rfl (Or.inl rfl) (pe_callB (call_reprD hgu hr) (by rfl) T.g_repr bt_repr (pa_cons (pe_op op_cat (pv 2) (pe_lst (pa_cons (pe_lc (own := [("_law_other", 4)]) (g := gName 4) (tt := tYes) rfl sc_s_told.nd (pi_list (pe_op op_cat (pe_lst (pa_cons pe_str pa_nil)) (pe_ml0 c_nodes hr (by decide) (pv 0)))) (blkOk_by (own := [("_law_other", 4)]) (N := ["_law_tree", "_law_node", "_law_found", "_law_shown", "_law_other"]) (sc := defScope s_told) (by decide +kernel)) (fun _ _ _ _ _ => pg_name (i := 4) sc_s_told.nd rfl (Or.inl rfl)) (fun _ _ _ _ _ => pts_nil) (fun _ _ _ _ _ => (pe_ml c_is_under hr (by decide) (pv 0) (pa_cons (pv 1) (pa_cons (pv 4) pa_nil))))) pa_nil))) pa_nil)))
    (pss_cons (ps_expr (pe_bm PySem.F.plainAttrs_list PySem.F.slot_list_append PySem.F.type_list_append mt_append (pe_ix ix_list (pv 2) pe_int (fun _ _ => rfl)) (pa_cons pe_str pa_nil)))
    (pss_cons (ps_expr (pe_bm0 PySem.F.plainAttrs_list PySem.F.slot_list_clear PySem.F.type_list_clear mt_clear (pe_ix ix_list (pv 2) pe_int (fun _ _ => rfl))))
    (pss_one (ps_ret (pv 3))))))), ?_⟩
    refine ⟨_, rfl, t, dx, fs, rfl, hx, ho.no _ (by decide), _, rfl, t, .str n, ns, par, lab, rfl, hT.tp, D, True.intro, fun n' en hn' l1 H1 hl1 s1 hL1 => ?_, fun e => by rw [kn] at e; cases e⟩
    cases en
    refine ⟨_, rfl, t, dx, fs, rfl, s1 _ _ hx, ho.no _ (by decide), _, rfl, t, .str n, ns, par, lab, rfl, hT.tp.same s1, D, True.intro, fun n' en hn' H2 s2 => ?_, fun e => by rw [kn] at e; cases e⟩
    cases en
    have s12 := s1.trans s2
    refine ⟨_, rfl, t, dx, fs, rfl, s12 _ _ hx, ho.no _ (by decide), _, rfl, t, .str n, ns, par, lab, rfl, hT.tp.same s12, D, True.intro, fun n' en hn' l3 H3 hl3 s3 hL3 => ?_, fun e => by rw [kn] at e; cases e⟩
    cases en
    have s13 := s12.trans s3
    refine ⟨_, rfl, t, dx, fs, rfl, s13 _ _ hx, ho.no _ (by decide), _, rfl, t, .str n, ns, par, lab, chS ns par lab, rfl, hT.tp.same s13, hT.tc.same s13, D, Kd, True.intro, fun n' en hn' l4 H4 hl4 s4 hL4 => ?_, fun e => by rw [kn] at e; cases e⟩
    cases en
    have s14 := s13.trans s4
    refine ⟨by show 4 ≤ sizeLine; decide, fun lf hlf => ?_⟩
    have s15 := s14.trans (Same.new (o := .lst [.ref l1, .int (((W par Rt n).length : Int) - 1), .ref l3, .ref l4]) hlf)
    have hlf4 : lf ≠ l4 := fun e => by rw [e, hL4] at hlf; cases hlf
    have hlf1 : lf ≠ l1 := fun e => by rw [e, s4 _ _ (s3 _ _ (s2 _ _ hL1))] at hlf; cases hlf
    have a1 := (Same.new (o := .lst [.ref l1, .int (((W par Rt n).length : Int) - 1), .ref l3, .ref l4]) hlf) _ _ (s4 _ _ (s3 _ _ (s2 _ _ hL1)))
    have a3 := (Same.new (o := .lst [.ref l1, .int (((W par Rt n).length : Int) - 1), .ref l3, .ref l4]) hlf) _ _ (s4 _ _ hL3)
    have a4 := (Same.new (o := .lst [.ref l1, .int (((W par Rt n).length : Int) - 1), .ref l3, .ref l4]) hlf) _ _ hL4
    have af : (upd H4 lf (.lst [.ref l1, .int (((W par Rt n).length : Int) - 1), .ref l3, .ref l4])) lf = some (.lst [.ref l1, .int (((W par Rt n).length : Int) - 1), .ref l3, .ref l4]) := upd_same
    have n1 : H l1 = none := hl1
    have n4 : H l4 = none := s13.free hl4
    clear s1 s2 s3 s4 s12 s13 s14 hL1 hL3 hL4 hl1 hl3 hl4 hlf
    generalize (upd H4 lf (.lst [.ref l1, .int (((W par Rt n).length : Int) - 1), .ref l3, .ref l4])) = H5 at s15 a1 a3 a4 af
    refine ⟨_, rfl, by show 1 ≤ sizeLine; decide, fun q1 hq1 => ?_⟩
    have m1 := Same.new (o := .lst [.str Rt]) hq1
    refine ⟨_, rfl, t, dx, fs, rfl, m1 _ _ (s15 _ _ hx), ho.no _ (by decide), t, ns, par, lab, rfl, (hT.tp.same s15).same m1, few, fun q2 H6 hq2 s6 hq2v => ?_⟩
    have m2 := m1.trans s6
    refine ⟨q1, q2, [.str Rt], ns.map V.str, rfl, rfl, s6 _ _ upd_same, hq2v, by rw [List.length_map, sz]; show 1 + _ ≤ _; omega, fun q3 hq3 => ?_⟩
    have m3 := m2.trans (Same.new (o := .lst ([.str Rt] ++ ns.map V.str)) hq3)
    refine ⟨q3, rfl, ⟨_, SqL.of upd_same⟩, fun D0 hD0 => lc_each (walk_list (xs := (Rt :: ns).map V.str)) hD0 (fun i => ((Rt :: ns).take i).map fun m => V.bl (decide (m ∈ W par Rt n))) rfl (fun i hi => ?_) (fun H' s => SqL.of (s _ _ upd_same)) ?_ ?_⟩
    · rw [List.length_map, List.length_take, List.length_cons, sz]; omega
    · rintro i v Ha Hb Kt hi sab ⟨rfl, hv⟩ k
      rw [List.getElem?_map] at hv
      obtain ⟨m, hm, rfl⟩ := Option.map_eq_some_iff.mp hv
      have hmm : m = Rt ∨ m ∈ ns := List.mem_cons.mp (List.mem_of_getElem? hm)
      have sx := (s15.trans m3).trans sab
      exact ⟨rfl, _, rfl, t, dx, fs, rfl, sx _ _ hx, ho.no _ (by decide), _, rfl, _, rfl, t, .str n, .str m, ns, par, lab, rfl, hT.tp.same sx, D, True.intro, True.intro, fun n' m' en em _ _ H' s' => by
        cases en
        cases em
        exact k _ _ s' (take_map _ _ _ hm), (fun e => by rw [kn] at e; cases e), (fun _ e => by rw [knownB_yes hmm] at e; cases e)⟩
    · intro H7 s7 hD7
      rw [List.length_map, List.take_of_length_le (Nat.le_refl _)] at hD7
      have m4 := m3.trans s7
      refine ⟨by show 1 ≤ sizeLine; decide, fun q4 hq4 => ?_⟩
      have m5 := m4.trans (Same.new (o := .lst [.ref D0]) hq4)
      refine ⟨lf, q4, _, _, rfl, rfl, m5 _ _ af, upd_same, by show 4 + 1 ≤ sizeLine; decide, fun q5 hq5 => ?_⟩
      have m6 := m5.trans (Same.new (o := .lst ([.ref l1, .int (((W par Rt n).length : Int) - 1), .ref l3, .ref l4] ++ [.ref D0])) hq5)
      have hD8 := (Same.new (o := .lst ([.ref l1, .int (((W par Rt n).length : Int) - 1), .ref l3, .ref l4] ++ [.ref D0])) hq5) _ _ (Same.new (o := .lst [.ref D0]) hq4 _ _ hD7)
      have bls : ∀ l : List Str, DpAll K (upd (upd H7 q4 (.lst [.ref D0])) q5 (.lst ([.ref l1, .int (((W par Rt n).length : Int) - 1), .ref l3, .ref l4] ++ [.ref D0]))) (l.map fun m => V.bl (decide (m ∈ W par Rt n))) (l.map fun m => PyData.bool (decide (m ∈ W par Rt n))) := fun l => by
        induction l with
        | nil => exact .nil
        | cons x l ih => exact .cons (.bl _) ih
      refine ⟨q5, toldD ns par lab n, rfl, .lst (SqL.of upd_same) (.cons (.lst (SqL.of (m6 _ _ a1)) (dps_strs _)) (.cons (.int _) (.cons (.tup (SqT.of (m6 _ _ a3)) (dps_strs _)) (.cons (.lst (SqL.of (m6 _ _ a4)) (dps_strs _)) (.cons (.lst (SqL.of hD8) (bls (Rt :: ns))) .nil))))), told_rp D hn, ?_⟩
      have b1 := m6 _ _ a1
      have b4 := m6 _ _ a4
      have bf := m6 _ _ af
      have s16 := s15.trans m6
      have w1 := T0.W_le hn
      have l14 : l1 ≠ l4 ∨ True := .inr trivial
      refine ⟨_, rfl, lf, _, (0 : Nat), .ref l1, rfl, rfl, SqL.of bf, atI_nat rfl, .inl ⟨rfl, _, SqL.of b1⟩, l1, _, _, rfl, rfl, b1, by rw [List.length_map, sz]; omega, ?_⟩
      have bf2 : (upd (upd (upd H7 q4 (.lst [.ref D0])) q5 (.lst ([.ref l1, .int (((W par Rt n).length : Int) - 1), .ref l3, .ref l4] ++ [.ref D0]))) l1 (.lst ((W par Rt n).map V.str ++ [.str "more"]))) lf = _ := (upd_ne hlf1).trans bf
      obtain ⟨xs4, b42⟩ : ∃ xs, (upd (upd (upd H7 q4 (.lst [.ref D0])) q5 (.lst ([.ref l1, .int (((W par Rt n).length : Int) - 1), .ref l3, .ref l4] ++ [.ref D0]))) l1 (.lst ((W par Rt n).map V.str ++ [.str "more"]))) l4 = some (.lst xs) := by
        by_cases e : l4 = l1
        · rw [e]; exact ⟨_, upd_same⟩
        · exact ⟨_, (upd_ne e).trans b4⟩
      refine ⟨_, rfl, lf, _, (3 : Nat), .ref l4, rfl, rfl, SqL.of bf2, atI_nat rfl, .inl ⟨rfl, _, SqL.of b42⟩, ?_⟩
      exact ⟨l4, xs4, rfl, rfl, b42, _, rfl, q _ (Same.mut (Same.mut s16 n1) n4)⟩
end
end MG
/-! text LO -/
set_option Elab.async false
set_option linter.all false
set_option maxRecDepth 100000
set_option maxHeartbeats 4200000
/-! what is due of a node -/
namespace MG
open PySem PySem.Spec PyProof.Rows L2
def spDue : Sp := fun vs H Q _ => ∃ (p o : Addr) (n : Str) (ns : List Str) (par lab : Str → Str) (ad : Str → Addr), vs = [.ref p, .ref o, .str n] ∧ PlX H p ns par lab ad ∧ TD ns par lab ∧ (n = Rt ∨ n ∈ ns) ∧ H o = some (.lst ((pre (chS ns par lab) Rt).map V.str)) ∧ ∀ H', Same H H' → Q (.str (toldD ns par lab n).shown) H'
section
variable {P : Program} {w : World} {K : PySem.W.Frag} {mg : Str → Option Value} {base : Heap} {C U : Addr}
theorem sc_s_due : FnScope ["_law_places_here", "_law_order", "_law_node", "_law_way", "_law_found", "_law_one", "_law_other"] ["_law_places_here", "_law_order", "_law_node"] (defScope s_due) := ⟨rfl, rfl, rfl, by decide +kernel, rfl, by decide +kernel, by decide +kernel⟩
theorem ok_due {f : Addr} {fd : FuncData} (T : Txt K mg C) (F : Fun K "_law_due" "_law_due" s_due f fd) (hm : mg "_law_due" = some (.ref f)) (c__law_way_up : Cal P w K mg base 1 "_law_way_up" spWayL) (c__law_path : Cal P w K mg base 2 "_law_path" spPathL) : CalG P w K mg base 3 "_law_due" spDue := by
  refine ⟨f, fd, ["_law_places_here", "_law_order", "_law_node"], ?_, hm, F.kp, F.binds (ps := ["_law_places_here", "_law_order", "_law_node"]) fun _ _ _ _ _ _ us hl => match us, hl with | [_, _, _], _ => rfl⟩
  refine okG F sc_s_due (fun vs H Q E h => ?_) (fun cdv A outer s H vs Q E hr hgu h => ?_)
  · obtain ⟨p, o, n, ns, par, lab, ad, rfl, _⟩ := h
    rfl
  · obtain ⟨p, o, n, ns, par, lab, ad, rfl, hp, D, hn, ho, q⟩ := h
    have T0 := D.T
    have few := D.few
    have Kd := chS_kids T0.nd par lab
    have wle := T0.W_le hn
    have plen := pre_len T0 Kd
    refine ⟨_, PSs.nox (pss_cons (ps_set (i := 3) sc_s_due.nd rfl (Or.inr rfl) (pe_cl c__law_way_up hr (by decide) (by rfl) (pa_cons (pv 0) (pa_cons (pv 2) pa_nil))))
    (pss_cons (ps_set (i := 4) sc_s_due.nd rfl (Or.inl rfl) (pe_lst (pa_cons (pv 3) (pa_cons (pe_op op_sub (pe_callB call_len_seq (by rfl) T.g_len bt_len (pa_cons (pv 3) pa_nil)) pe_int) (pa_cons (pe_cl c__law_path hr (by decide) (by rfl) (pa_cons (pv 0) (pa_cons (pv 2) pa_nil))) pa_nil)))))
    (pss_cons (ps_expr (pe_bm PySem.F.plainAttrs_list PySem.F.slot_list_append PySem.F.type_list_append mt_append (pv 4) (pa_cons (pe_lc (own := [("_law_one", 5)]) (g := gName 5) (tt := _) rfl sc_s_due.nd (pi_list (pv 1)) (blkOk_by (own := [("_law_one", 5)]) (N := ["_law_places_here", "_law_order", "_law_node", "_law_way", "_law_found", "_law_one", "_law_other"]) (sc := defScope s_due) (by decide +kernel)) (fun _ _ _ _ _ => pg_name (i := 5) sc_s_due.nd rfl (Or.inl rfl)) (fun _ _ _ _ _ => (pts_one (pt_cmpR (op_in_seqK (K := K) rfl) (pv 2) (pe_cl c__law_way_up hr (by decide) (by rfl) (pa_cons (pv 0) (pa_cons (pv 5) pa_nil))) (by rfl)))) (fun _ _ _ _ _ => (pv 5))) pa_nil)))
    (pss_one (ps_ret (pe_callB (call_reprD hgu hr) (by rfl) T.g_repr bt_repr (pa_cons (pe_op op_cat (pv 4) (pe_lst (pa_cons (pe_lc (own := [("_law_other", 6)]) (g := gName 6) (tt := tYes) rfl sc_s_due.nd (pi_list (pe_op op_cat (pe_lst (pa_cons pe_str pa_nil)) (pe_callTy (call_list_dK rfl) (by rfl) T.g_list bt_list (pa_cons (pv 0) pa_nil)))) (blkOk_by (own := [("_law_other", 6)]) (N := ["_law_places_here", "_law_order", "_law_node", "_law_way", "_law_found", "_law_one", "_law_other"]) (sc := defScope s_due) (by decide +kernel)) (fun _ _ _ _ _ => pg_name (i := 6) sc_s_due.nd rfl (Or.inl rfl)) (fun _ _ _ _ _ => pts_nil) (fun _ _ _ _ _ => (pe_cmpR (op_in_seqK (K := K) rfl) (pv 6) (pv 3) (by rfl)))) pa_nil))) pa_nil))))))), ?_⟩
    refine ⟨_, rfl, _, rfl, p, n, ns, par, lab, ad, rfl, hp.1, D, hn, fun l1 H1 hl1 s1 hL1 => ?_⟩
    refine ⟨_, rfl, _, rfl, _, _, rfl, .inl (SqL.of hL1), _, _, rfl, rfl, _, rfl, _, rfl, p, n, ns, par, lab, ad, rfl, (hp.same s1).1, D, hn, fun l3 H3 hl3 s3 hL3 => ⟨by show 3 ≤ sizeLine; decide, fun lf hlf => ?_⟩⟩
    have eL : ((((W par Rt n).map V.str).length : Nat) : Int) - 1 = ((W par Rt n).length : Int) - 1 := by rw [List.length_map]
    have s13 := s1.trans s3
    have nf := Same.new (o := .lst [.ref l1, .int (((((W par Rt n).map V.str).length : Nat) : Int) - 1), .ref l3]) hlf
    have a1 := nf _ _ (s3 _ _ hL1)
    have a3 := nf _ _ hL3
    have af : (upd H3 lf (.lst [.ref l1, .int (((((W par Rt n).map V.str).length : Nat) : Int) - 1), .ref l3])) lf = some (.lst [.ref l1, .int (((((W par Rt n).map V.str).length : Nat) : Int) - 1), .ref l3]) := upd_same
    have f0 : H lf = none := s13.free hlf
    have lf1 : l1 ≠ lf := ne_of_none (s3 _ _ hL1) hlf
    have lf3 : l3 ≠ lf := ne_of_none hL3 hlf
    have s5 := s13.trans nf
    clear hL1 hL3 s1 s3 s13 hlf hl1 hl3
    generalize (upd H3 lf (.lst [.ref l1, .int (((((W par Rt n).map V.str).length : Nat) : Int) - 1), .ref l3])) = H5 at s5 a1 a3 af nf
    clear nf
    have o5 := s5 _ _ ho
    refine ⟨_, rfl, .inl ⟨rfl, _, SqL.of af⟩, _, rfl, o, rfl, ⟨_, SqL.of o5⟩, fun D0 hD0 => lc_pure (walk_list (xs := (pre (chS ns par lab) Rt).map V.str)) hD0 (fun i => (((pre (chS ns par lab) Rt).take i).filter fun x => decide (n ∈ W par Rt x)).map V.str) rfl (fun i hi => ?_) (fun H' s => SqL.of (s _ _ o5)) ?_ ?_⟩
    · have h1 := List.length_filter_le (fun x => decide (n ∈ W par Rt x)) ((pre (chS ns par lab) Rt).take i)
      rw [List.length_take, plen] at h1
      rw [List.length_map, sz]; omega
    · rintro i v Ha Hb Kt Kf hi sab ⟨rfl, hv⟩ k1 k2
      rw [List.getElem?_map] at hv
      obtain ⟨m, hm, rfl⟩ := Option.map_eq_some_iff.mp hv
      have hmm := pre_in T0 Kd (.inl rfl) (List.mem_of_getElem? hm)
      refine ⟨rfl, _, rfl, _, rfl, _, rfl, p, m, ns, par, lab, ad, rfl, (hp.same (s5.trans sab)).1, D, hmm, fun l' H' hl' s' hL' => ⟨l', _, rfl, .inl (SqL.of hL'), rfl, flat_strs _, _, rfl, ?_⟩⟩
      show if (inV (V.str n) ((W par Rt m).map V.str)) = true then _ else _
      rw [in_strs]
      exact iteD (fun h1 => ⟨_, rfl, k1 _ _ s' (fil_yes hm (by simp [h1]))⟩) fun h1 => k2 _ s' (fil_no hm (by simp [h1]))
    · intro H6 s6 hD6
      rw [List.length_map, List.take_of_length_le (Nat.le_refl _), pre_under T0 Kd hn] at hD6
      have b1 := s6 _ _ a1
      have b3 := s6 _ _ a3
      have bf := s6 _ _ af
      have D0f : D0 ≠ lf := fun e => by rw [e, bf] at hD6; cases hD6
      refine ⟨lf, _, _, rfl, rfl, bf, by show 3 < sizeLine; decide, ?_⟩
      have s7 : Same H (upd H6 lf (.lst ([.ref l1, .int (((((W par Rt n).map V.str).length : Nat) : Int) - 1), .ref l3] ++ [.ref D0]))) := Same.mut (s5.trans s6) f0
      have c1 := (upd_ne (o := .lst ([.ref l1, .int (((((W par Rt n).map V.str).length : Nat) : Int) - 1), .ref l3] ++ [.ref D0])) lf1).trans b1
      have c3 := (upd_ne (o := .lst ([.ref l1, .int (((((W par Rt n).map V.str).length : Nat) : Int) - 1), .ref l3] ++ [.ref D0])) lf3).trans b3
      have c4 := (upd_ne (o := .lst ([.ref l1, .int (((((W par Rt n).map V.str).length : Nat) : Int) - 1), .ref l3] ++ [.ref D0])) D0f).trans hD6
      have cf : (upd H6 lf (.lst ([.ref l1, .int (((((W par Rt n).map V.str).length : Nat) : Int) - 1), .ref l3] ++ [.ref D0]))) lf = _ := upd_same
      clear b1 b3 bf hD6 s6 a1 a3 af s5 o5
      generalize (upd H6 lf (.lst ([.ref l1, .int (((((W par Rt n).map V.str).length : Nat) : Int) - 1), .ref l3] ++ [.ref D0]))) = H7 at s7 c1 c3 c4 cf
      refine ⟨_, rfl, by show 1 ≤ sizeLine; decide, fun q1 hq1 => ?_⟩
      have m1 := Same.new (o := .lst [.str Rt]) hq1
      have hk := m1 _ _ (s7 _ _ hp.2)
      have ek : (ns.map fun n => ((Sum.inr n : Key), V.ref (ad n))).map (fun kv => kV kv.1) = ns.map V.str := by rw [List.map_map]; rfl
      refine ⟨_, rfl, p, _, rfl, hk, fun q2 hq2 => ?_⟩
      rw [ek]
      have m2 := m1.trans (Same.new (o := .lst (ns.map V.str)) hq2)
      refine ⟨q1, q2, [.str Rt], ns.map V.str, rfl, rfl, Same.new hq2 _ _ upd_same, upd_same, by rw [List.length_map, sz]; show 1 + _ ≤ _; omega, fun q3 hq3 => ?_⟩
      have m3 := m2.trans (Same.new (o := .lst ([.str Rt] ++ ns.map V.str)) hq3)
      refine ⟨q3, rfl, ⟨_, SqL.of upd_same⟩, fun D1 hD1 => lc_each (walk_list (xs := (Rt :: ns).map V.str)) hD1 (fun i => ((Rt :: ns).take i).map fun m => V.bl (decide (m ∈ W par Rt n))) rfl (fun i hi => ?_) (fun H' s => SqL.of (s _ _ upd_same)) ?_ ?_⟩
      · rw [List.length_map, List.length_take, List.length_cons, sz]; omega
      · rintro i v Ha Hb Kt hi sab ⟨rfl, hv⟩ k
        rw [List.getElem?_map] at hv
        obtain ⟨m, hm, rfl⟩ := Option.map_eq_some_iff.mp hv
        refine ⟨rfl, _, rfl, _, rfl, l1, _, rfl, .inl (SqL.of (sab _ _ (m3 _ _ c1))), rfl, flat_strs _, ?_⟩
        show Kt (V.bl (inV (V.str m) ((W par Rt n).map V.str))) _
        rw [in_strs]
        exact k _ _ (Same.refl _) (take_map _ _ _ hm)
      · intro H8 s8 hD8
        rw [List.length_map, List.take_of_length_le (Nat.le_refl _)] at hD8
        have m4 := m3.trans s8
        refine ⟨by show 1 ≤ sizeLine; decide, fun q4 hq4 => ?_⟩
        have m5 := m4.trans (Same.new (o := .lst [.ref D1]) hq4)
        refine ⟨lf, q4, _, _, rfl, rfl, m5 _ _ cf, upd_same, by show 4 + 1 ≤ sizeLine; decide, fun q5 hq5 => ?_⟩
        have n5 := Same.new (o := .lst (([.ref l1, .int (((((W par Rt n).map V.str).length : Nat) : Int) - 1), .ref l3] ++ [.ref D0]) ++ [.ref D1])) hq5
        have m6 := m5.trans n5
        have hD9 := n5 _ _ (Same.new (o := .lst [.ref D1]) hq4 _ _ hD8)
        have bls : ∀ (Hx : Hp) (l : List Str), DpAll K Hx (l.map fun m => V.bl (decide (m ∈ W par Rt n))) (l.map fun m => PyData.bool (decide (m ∈ W par Rt n))) := fun Hx l => by
          induction l with
          | nil => exact .nil
          | cons x l ih => exact .cons (.bl _) ih
        refine ⟨q5, toldD ns par lab n, rfl, .lst (SqL.of upd_same) (.cons (.lst (SqL.of (m6 _ _ c1)) (dps_strs _)) (.cons ?_ (.cons (.tup (SqT.of (m6 _ _ c3)) (dps_strs _)) (.cons (.lst (SqL.of (m6 _ _ c4)) (dps_strs _)) (.cons (.lst (SqL.of hD9) (bls _ (Rt :: ns))) .nil))))), told_rp D hn, q _ (s7.trans m6)⟩
        rw [eL]
        exact .int _
end
end MG
/-! text G1 -/
set_option Elab.async false
set_option linter.all false
set_option maxRecDepth 100000
set_option maxHeartbeats 4200000
/-! what the sleeping generators are, no run that leaves them asleep can tell -/
namespace MG
open PySem
/-- it sleeps; waking it comes to nothing -/
def kill : GenState → GenState
  | .suspended _ l c q fr cl => .suspended (fun _ => .unsupported "dead") l c q fr cl
  | y => y
def sus : GenState → Bool
  | .suspended .. => true
  | _ => false
theorem no_runs {M : Model} {Γ : Ctx} {p : Pos} {w : String} {fs : List Frame} {s s' : Shared} {e : End} (h : Runs M Γ p (.unsupported w) fs s e s') : False := by
  cases h with
  | segRet h _ => cases h
  | segGen h _ => cases h
  | segSuspOut _ h => cases h
  | segSuspGen _ h _ _ => cases h
theorem kill_seen (x : GenState) : (kill x).seen = x.seen := by cases x <;> rfl
theorem kill_bare (x : GenState) : (kill x).bare = x.bare := by cases x <;> rfl
theorem kill_not {x : GenState} (h : sus x = false) : kill x = x := by cases x <;> first | rfl | cases h
/-- i sleeps in G -/
def slp (G : Array GenState) (i : Nat) : Bool := match G[i]? with
  | some x => sus x
  | none => false
/-- the sleepers as they were -/
def back (G : Array GenState) (s : Shared) : Shared := { s with gens := s.gens.mapIdx fun i y => if slp G i then (G[i]?).getD y else y }
theorem back_at (G : Array GenState) (s : Shared) (i : Nat) : (back G s).gens[i]? = if slp G i then (s.gens[i]?).bind fun _ => G[i]? else s.gens[i]? := by
  unfold back
  show (Array.mapIdx _ s.gens)[i]? = _
  rw [Array.getElem?_mapIdx]
  cases hs : s.gens[i]? with
  | none =>
    cases slp G i <;> rfl
  | some y =>
    cases e : slp G i with
    | false => rw [if_neg Bool.false_ne_true]; simp [e]
    | true =>
      rw [if_pos rfl]
      unfold slp at e
      split at e
      · rename_i x hx
        simp [hx, slp, e]
      · cases e
theorem back_size (G : Array GenState) (s : Shared) : (back G s).gens.size = s.gens.size := by unfold back; simp
/-- the frames of a generator's own code -/
def okF (y : GenState) : Prop := match y with
  | .suspended _ _ _ _ fr _ => splitAtGen fr = none
  | _ => True
structure Dd (G : Array GenState) (s : Shared) : Prop where
  at_ : ∀ i, slp G i = true → ∃ x, G[i]? = some x ∧ s.gens[i]? = some (kill x)
  ng : ∀ i y, slp G i = false → s.gens[i]? = some y → okF y
theorem gens_ext {s t : Shared} (h : s.heap = t.heap) (h1 : s.drawn = t.drawn) (h2 : s.toks = t.toks) (h3 : s.os = t.os) (h4 : ∀ i : Nat, s.gens[i]? = t.gens[i]?) : s = t := by
  obtain ⟨a, b, c, d, e⟩ := s
  obtain ⟨a', b', c', d', e'⟩ := t
  dsimp only at h h1 h2 h3 h4
  subst h h1 h2 h3
  rw [Array.ext_getElem? h4]
theorem set_at (s : Shared) (g i : Nat) (y : GenState) : (s.setGen g y).gens[i]? = if g = i then (if i < s.gens.size then some y else none) else s.gens[i]? := by
  show (s.gens.setIfInBounds g y)[i]? = _
  rw [Array.getElem?_setIfInBounds]
  by_cases h : g = i
  · subst h; simp
  · simp [h]
theorem back_set {G : Array GenState} {s : Shared} {g : Nat} {y : GenState} (h : slp G g = false) : back G (s.setGen g y) = (back G s).setGen g y := by
  refine gens_ext rfl rfl rfl rfl fun i => ?_
  rw [back_at, set_at, set_at, back_at, back_size]
  by_cases e : g = i
  · subst e
    simp [h]
  · simp [e]
theorem push_at (s : Shared) (i : Nat) (y : GenState) : (({ s with gens := s.gens.push y } : Shared).gens)[i]? = if i = s.gens.size then some y else s.gens[i]? := by
  show (s.gens.push y)[i]? = _
  rw [Array.getElem?_push]
theorem back_push {G : Array GenState} {s : Shared} {y : GenState} (h : slp G s.gens.size = false) : back G ({ s with gens := s.gens.push y } : Shared) = { back G s with gens := (back G s).gens.push y } := by
  refine gens_ext rfl rfl rfl rfl fun i => ?_
  rw [back_at, push_at, push_at, back_at, back_size]
  by_cases e : i = s.gens.size
  · subst e
    simp [h]
  · simp [e]
theorem Dd.size {G : Array GenState} {s : Shared} (d : Dd G s) : slp G s.gens.size = false := by
  cases h : slp G s.gens.size with
  | false => rfl
  | true =>
    obtain ⟨x, _, h2⟩ := d.at_ _ h
    exact absurd (Array.getElem?_eq_some_iff.mp h2).1 (Nat.lt_irrefl _)
theorem Dd.push {G : Array GenState} {s : Shared} {y : GenState} (d : Dd G s) (hy : okF y) : Dd G { s with gens := s.gens.push y } := by
  refine ⟨fun i h => ?_, fun i z h hz => ?_⟩
  · obtain ⟨x, h1, h2⟩ := d.at_ i h
    refine ⟨x, h1, ?_⟩
    rw [push_at, if_neg fun e => by rw [e, d.size] at h; cases h]
    exact h2
  · rw [push_at] at hz
    by_cases e : i = s.gens.size
    · rw [if_pos e] at hz
      cases hz
      exact hy
    · rw [if_neg e] at hz
      exact d.ng i z h hz
theorem Dd.set {G : Array GenState} {s : Shared} {g : Nat} {y : GenState} (d : Dd G s) (h : slp G g = false) (hy : okF y) : Dd G (s.setGen g y) := by
  refine ⟨fun i hi => ?_, fun i z hi hz => ?_⟩
  · obtain ⟨x, h1, h2⟩ := d.at_ i hi
    refine ⟨x, h1, ?_⟩
    rw [set_at, if_neg fun e => by rw [← e, h] at hi; cases hi]
    exact h2
  · rw [set_at] at hz
    by_cases e : g = i
    · rw [if_pos e] at hz
      split at hz
      · cases hz; exact hy
      · cases hz
    · rw [if_neg e] at hz
      exact d.ng i z hi hz
/-- an end's frames -/
def okE : End → Prop
  | .ret _ => True
  | .susp _ _ _ _ _ _ fs => splitAtGen fs = none
theorem okE_gen {e : End} (h : okE e) : okF e.genState := by cases e <;> exact h
theorem split_append {a b : List Frame} (ha : splitAtGen a = none) (hb : splitAtGen b = none) : splitAtGen (a ++ b) = none := by
  induction a with
  | nil => exact hb
  | cons F a ih =>
    cases F with
    | gen => cases ha
    | ret =>
      simp only [splitAtGen, List.cons_append, Option.map_eq_none_iff] at ha ⊢
      exact ih ha
theorem asleep_not {G : Array GenState} {s : Shared} (d : Dd G s) {g : Nat} {x : GenState} (h : s.gens[g]? = some x) (hx : sus x = false) : slp G g = false := by
  cases e : slp G g with
  | false => rfl
  | true =>
    obtain ⟨y, h1, h2⟩ := d.at_ g e
    rw [h] at h2
    have e2 := Option.some.inj h2
    unfold slp at e
    rw [h1] at e
    have e3 : sus y = true := e
    rw [e2] at hx
    cases y <;> first | (simp [kill, sus] at hx; done) | cases e3
theorem slp_or {G : Array GenState} {s : Shared} {g : Nat} {x : GenState} (_h : s.gens[g]? = some x) : slp G g = false ∨ slp G g = true := by cases slp G g <;> simp
theorem runs_asleep {M : Model} (G : Array GenState) {Γ : Ctx} {p : Pos} {t : Sem Fin} {fs : List Frame} {s s' : Shared} {e : End} (h : Runs M Γ p t fs s e s') : splitAtGen fs = none → Dd G s →
    Dd G s' ∧ okE e ∧ Runs M Γ p t fs (back G s) e (back G s') := by
  induction h with
  | done => exact fun _ d => ⟨d, trivial, .done⟩
  | raise => exact fun _ d => ⟨d, trivial, .raise⟩
  | again h1 _ ih => exact fun f d => let ⟨a, b, c⟩ := ih f d; ⟨a, b, .again h1 c⟩
  | rule _ ih => exact fun f d => let ⟨a, b, c⟩ := ih f d; ⟨a, b, .rule c⟩
  | «at» _ ih => exact fun f d => let ⟨a, b, c⟩ := ih f d; ⟨a, b, .at c⟩
  | load h1 _ ih => exact fun f d => let ⟨a, b, c⟩ := ih f d; ⟨a, b, .load h1 c⟩
  | update h1 _ ih => exact fun f d => let ⟨a, b, c⟩ := ih f ⟨d.at_, d.ng⟩; ⟨a, b, .update h1 c⟩
  | loadIfAlive _ ih => exact fun f d => let ⟨a, b, c⟩ := ih f d; ⟨a, b, .loadIfAlive c⟩
  | point _ ih => exact fun f d => let ⟨a, b, c⟩ := ih f d; ⟨a, b, .point c⟩
  | alloc _ ih => exact fun f d => let ⟨a, b, c⟩ := ih f ⟨d.at_, d.ng⟩; ⟨a, b, .alloc c⟩
  | fresh _ ih => exact fun f d => let ⟨a, b, c⟩ := ih f ⟨d.at_, d.ng⟩; ⟨a, b, .fresh c⟩
  | ask _ ih => exact fun f d => let ⟨a, b, c⟩ := ih f d; ⟨a, b, .ask c⟩
  | choose h1 _ ih => exact fun f d => let ⟨a, b, c⟩ := ih f ⟨d.at_, d.ng⟩; ⟨a, b, .choose h1 c⟩
  | os _ ih => exact fun f d => let ⟨a, b, c⟩ := ih f ⟨d.at_, d.ng⟩; ⟨a, b, .os c⟩
  | handled _ ih => exact fun f d => let ⟨a, b, c⟩ := ih f d; ⟨a, b, .handled c⟩
  | genState h1 _ ih =>
    intro f d
    obtain ⟨a, b, c⟩ := ih f d
    refine ⟨a, b, ?_⟩
    rcases slp_or (G := G) h1 with e | e
    · exact .genState (by rw [back_at, e, if_neg Bool.false_ne_true]; exact h1) c
    · obtain ⟨x, h2, h3⟩ := d.at_ _ e
      rw [h1] at h3
      obtain rfl := Option.some.inj h3
      rw [kill_seen] at c
      exact .genState (st := x) (by rw [back_at, e, if_pos rfl, h1]; exact h2) c
  | stack _ ih => exact fun f d => let ⟨a, b, c⟩ := ih f d; ⟨a, b, .stack c⟩
  | thread _ ih => exact fun f d => let ⟨a, b, c⟩ := ih f d; ⟨a, b, .thread c⟩
  | newGen _ ih =>
    intro f d
    obtain ⟨a, b, c⟩ := ih f (d.push trivial)
    refine ⟨a, b, .newGen ?_⟩
    rw [back_push d.size] at c
    rw [back_size]
    exact c
  | call _ _ ih1 ih2 =>
    intro f d
    obtain ⟨a1, b1, c1⟩ := ih1 rfl d
    obtain ⟨a2, b2, c2⟩ := ih2 f a1
    exact ⟨a2, b2, .call c1 c2⟩
  | callSusp _ ih =>
    intro f d
    obtain ⟨a, b, c⟩ := ih rfl d
    exact ⟨a, split_append b rfl, .callSusp c⟩
  | yield => exact fun _ d => ⟨d, rfl, .yield⟩
  | resumeFresh h1 _ h3 _ ih1 ih2 =>
    intro f d
    have n := asleep_not d h1 rfl
    obtain ⟨a1, b1, c1⟩ := ih1 rfl (d.set n trivial)
    obtain ⟨a2, b2, c2⟩ := ih2 f (a1.set n (okE_gen b1))
    rw [back_set n] at c1 c2
    exact ⟨a2, b2, .resumeFresh (by rw [back_at, n, if_neg Bool.false_ne_true]; exact h1) c1 h3 c2⟩
  | resumeSuspended h1 h2 h3 _ ih1 ih2 =>
    intro f d
    rcases slp_or (G := G) h1 with n | n
    rotate_left
    · obtain ⟨x, h4, h5⟩ := d.at_ _ n
      rw [h1] at h5
      have h6 := Option.some.inj h5
      unfold slp at n
      rw [h4] at n
      cases x with
      | suspended k l c q fr cl =>
        unfold kill at h6
        injection h6 with e1
        subst e1
        exact (no_runs h2).elim
      | _ => cases n
    · have f0 : okF _ := d.ng _ _ n h1
      obtain ⟨a1, b1, c1⟩ := ih1 f0 (d.set n trivial)
      obtain ⟨a2, b2, c2⟩ := ih2 f (a1.set n (okE_gen b1))
      rw [back_set n] at c1 c2
      exact ⟨a2, b2, .resumeSuspended (by rw [back_at, n, if_neg Bool.false_ne_true]; exact h1) c1 h3 c2⟩
  | resumeJustStarted h1 h2 _ ih =>
    intro f d
    have n := asleep_not d h1 rfl
    obtain ⟨a, b, c⟩ := ih f d
    exact ⟨a, b, .resumeJustStarted (by rw [back_at, n, if_neg Bool.false_ne_true]; exact h1) h2 c⟩
  | resumeThrowFresh h1 _ ih =>
    intro f d
    have n := asleep_not d h1 rfl
    obtain ⟨a, b, c⟩ := ih f (d.set n trivial)
    refine ⟨a, b, .resumeThrowFresh (by rw [back_at, n, if_neg Bool.false_ne_true]; exact h1) ?_⟩
    rw [← back_set n]; exact c
  | resumeRunning h1 _ ih =>
    intro f d
    have n := asleep_not d h1 rfl
    obtain ⟨a, b, c⟩ := ih f d
    exact ⟨a, b, .resumeRunning (by rw [back_at, n, if_neg Bool.false_ne_true]; exact h1) c⟩
  | resumeFinished h1 _ ih =>
    intro f d
    have n := asleep_not d h1 rfl
    obtain ⟨a, b, c⟩ := ih f d
    exact ⟨a, b, .resumeFinished (by rw [back_at, n, if_neg Bool.false_ne_true]; exact h1) c⟩
  | segRet _ _ ih1 ih2 =>
    intro f d
    have f2 : splitAtGen _ = none := Option.map_eq_none_iff.mp f
    obtain ⟨a1, b1, c1⟩ := ih1 rfl d
    obtain ⟨a2, b2, c2⟩ := ih2 f2 a1
    exact ⟨a2, b2, .segRet c1 c2⟩
  | segGen => exact fun f => by cases f
  | segSuspOut h1 _ ih =>
    intro f d
    obtain ⟨a, b, c⟩ := ih rfl d
    exact ⟨a, split_append b f, .segSuspOut h1 c⟩
  | segSuspGen h1 => exact fun f => by rw [f] at h1; cases h1
theorem wakes_asleep {M : Model} (G : Array GenState) {Γ : Ctx} {p : Pos} {g : Nat} {r : Resume} {s s' : Shared} {res : GenResult} (h : Wakes M Γ p g r s res s') (d : Dd G s) : Dd G s' ∧ Wakes M Γ p g r (back G s) res (back G s') := by
  unfold Wakes at h
  split at h
  · exact h.elim
  · rename_i c h1
    have n := asleep_not d h1 rfl
    have hb : (back G s).gens[g]? = some (.fresh c) := by rw [back_at, n, if_neg Bool.false_ne_true]; exact h1
    cases r with
    | send v =>
      by_cases hv : v = .none
      · subst hv
        obtain ⟨e₁, s₁, hr, q, rfl, rfl⟩ := h
        obtain ⟨a1, b1, c1⟩ := runs_asleep G hr rfl (d.set n trivial)
        refine ⟨a1.set n (okE_gen b1), ?_⟩
        unfold Wakes
        rw [hb, back_set n]
        rw [back_set n] at c1
        exact ⟨e₁, back G s₁, c1, q, rfl, rfl⟩
      · have h' : res = .justStarted ∧ s' = s := by cases v <;> first | exact absurd rfl hv | exact h
        obtain ⟨rfl, rfl⟩ := h'
        refine ⟨d, ?_⟩
        unfold Wakes
        rw [hb]
        cases v <;> first | exact absurd rfl hv | exact ⟨rfl, rfl⟩
    | throw x =>
      obtain ⟨rfl, rfl⟩ := h
      refine ⟨d.set n trivial, ?_⟩
      unfold Wakes
      rw [hb]
      exact ⟨rfl, back_set n⟩
  · rename_i h1
    rcases slp_or (G := G) h1 with n | n
    · have hb := (show (back G s).gens[g]? = s.gens[g]? by rw [back_at, n, if_neg Bool.false_ne_true]).trans h1
      obtain ⟨e₁, s₁, hr, q, rfl, rfl⟩ := h
      obtain ⟨a1, b1, c1⟩ := runs_asleep G hr (d.ng _ _ n h1) (d.set n trivial)
      refine ⟨a1.set n (okE_gen b1), ?_⟩
      unfold Wakes
      rw [hb, back_set n]
      rw [back_set n] at c1
      exact ⟨e₁, back G s₁, c1, q, rfl, rfl⟩
    · obtain ⟨x, h4, h5⟩ := d.at_ _ n
      rw [h1] at h5
      have h6 := Option.some.inj h5
      unfold slp at n
      rw [h4] at n
      obtain ⟨e₁, s₁, hr, q, rfl, rfl⟩ := h
      cases x with
      | suspended k l c q fr cl =>
        unfold kill at h6
        injection h6 with e1
        subst e1
        exact (no_runs hr).elim
      | _ => cases n
  · rename_i h1
    obtain ⟨rfl, rfl⟩ := h
    have n := asleep_not d h1 rfl
    have hb : (back G s').gens[g]? = some .running := by rw [back_at, n, if_neg Bool.false_ne_true]; exact h1
    refine ⟨d, ?_⟩
    unfold Wakes
    rw [hb]
    exact ⟨rfl, rfl⟩
  · rename_i h1
    obtain ⟨rfl, rfl⟩ := h
    have n := asleep_not d h1 rfl
    have hb : (back G s').gens[g]? = some .finished := by rw [back_at, n, if_neg Bool.false_ne_true]; exact h1
    refine ⟨d, ?_⟩
    unfold Wakes
    rw [hb]
    exact ⟨rfl, rfl⟩
theorem wp_asleep {α : Type} (M : Model) (Γ : Ctx) (G : Array GenState) (t : Sem α) : ∀ (Q : α → Pos → Shared → Prop) (E : Value → Pos → Shared → Prop) (p : Pos) (s : Shared), Dd G s → t.wp M Γ Q E p s →
    t.wp M Γ (fun a p' s' => ∃ s0, s' = back G s0 ∧ Dd G s0 ∧ Q a p' s0) (fun e p' s' => ∃ s0, s' = back G s0 ∧ Dd G s0 ∧ E e p' s0) p (back G s) := by
  induction t with
  | pure a => exact fun Q E p s d h => ⟨s, rfl, d, h⟩
  | raise e => exact fun Q E p s d h => ⟨s, rfl, d, h⟩
  | unsupported _ => exact fun Q E p s _ h => h
  | finish _ => exact fun Q E p s _ h => h
  | rule _ k ih => exact fun Q E p s d h => ih () Q E p s d h
  | «at» p' k ih => exact fun Q E p s d h => ih () Q E p' s d h
  | load a _ k ih => exact fun Q E p s d ⟨o, ho, h⟩ => ⟨o, ho, ih o Q E p s d h⟩
  | update a _ f k ih => exact fun Q E p s d h => ⟨h.1, ih () Q E p { s with heap := s.heap.update a f } ⟨d.at_, d.ng⟩ h.2⟩
  | loadIfAlive a k ih => exact fun Q E p s d h => ih _ Q E p s d h
  | point _ k ih => exact fun Q E p s d h => ih () Q E p s d h
  | register _ _ => exact fun Q E p s _ h => h
  | alloc o k ih => exact fun Q E p s d h => ih _ Q E p { s with heap := s.heap.push o } ⟨d.at_, d.ng⟩ h
  | fresh k ih => exact fun Q E p s d h => ih _ Q E p { s with toks := s.toks + 1 } ⟨d.at_, d.ng⟩ h
  | ask k ih => exact fun Q E p s d h => ih _ Q E p s d h
  | choose src m k ih => exact fun Q E p s d h => ⟨h.1, ih _ Q E p { s with drawn := s.drawn.bump src } ⟨d.at_, d.ng⟩ h.2⟩
  | os q _ k ih => exact fun Q E p s d h => ih _ Q E p { s with os := (Os.step s.os q).1 } ⟨d.at_, d.ng⟩ h
  | call c hd _ _ k ih =>
    intro Q E p s d ⟨r, s', hr, h⟩
    obtain ⟨a1, _, c1⟩ := runs_asleep G hr rfl d
    exact ⟨r, back G s', c1, ih r Q E p s' a1 h⟩
  | handled own k ih => exact fun Q E p s d h => ih _ Q E p s d h
  | genState g k ih =>
    intro Q E p s d ⟨st, h1, h⟩
    rcases slp_or (G := G) h1 with n | n
    · exact ⟨st, by rw [back_at, n, if_neg Bool.false_ne_true]; exact h1, ih _ Q E p s d h⟩
    · obtain ⟨x, h4, h5⟩ := d.at_ _ n
      rw [h1] at h5
      obtain rfl := Option.some.inj h5
      rw [kill_seen] at h
      exact ⟨x, by rw [back_at, n, if_pos rfl, h1]; exact h4, ih _ Q E p s d h⟩
  | newGen c k ih =>
    intro Q E p s d h
    have z := ih _ Q E p _ (d.push (y := .fresh c) trivial) h
    rw [back_push d.size] at z
    show (k (back G s).gens.size).wp M Γ _ _ p _
    rw [back_size]
    exact z
  | resume g r _ k ih =>
    intro Q E p s d ⟨res, s', hw, h⟩
    obtain ⟨a1, c1⟩ := wakes_asleep G hw d
    exact ⟨res, back G s', c1, ih res Q E p s' a1 h⟩
  | yield _ _ _ _ => exact fun Q E p s _ h => h
  | stack k ih => exact fun Q E p s d h => ih _ Q E p s d h
  | fork _ _ => exact fun Q E p s _ h => h
  | thread k ih => exact fun Q E p s d h => ih _ Q E p s d h
  | await _ _ _ _ _ => exact fun Q E p s _ h => h
/-- all that sleeps, killed; what is not asleep (fresh, running, finished) stays -/
def killed (s : Shared) : Shared := { s with gens := s.gens.map kill }
theorem killed_bare {s : Shared} (h : PyProof.Rows.AllBare s.gens) : PyProof.Rows.AllBare (killed s).gens := fun y hy => by
  obtain ⟨x, hx, rfl⟩ := Array.mem_map.mp hy
  rw [kill_bare]
  exact h x hx
theorem killed_dd (s : Shared) : Dd s.gens (killed s) := by
  refine ⟨fun i h => ?_, fun i y h hy => ?_⟩
  · unfold slp at h
    split at h
    · rename_i x hx
      exact ⟨x, hx, by show (s.gens.map kill)[i]? = _; rw [Array.getElem?_map, hx]; rfl⟩
    · cases h
  · have hy : (s.gens.map kill)[i]? = some y := hy
    rw [Array.getElem?_map] at hy
    obtain ⟨x, hx, rfl⟩ := Option.map_eq_some_iff.mp hy
    unfold slp at h
    rw [hx] at h
    rw [kill_not h]
    cases x <;> first | trivial | cases h
theorem killed_back (s : Shared) : back s.gens (killed s) = s := by
  refine gens_ext rfl rfl rfl rfl fun i => ?_
  rw [back_at]
  show (if slp s.gens i = true then ((s.gens.map kill)[i]?).bind fun _ => s.gens[i]? else (s.gens.map kill)[i]?) = s.gens[i]?
  rw [Array.getElem?_map]
  cases hx : s.gens[i]? with
  | none => cases slp s.gens i <;> rfl
  | some x =>
    cases e : slp s.gens i with
    | true => rw [if_pos rfl]; rfl
    | false =>
      rw [if_neg Bool.false_ne_true]
      unfold slp at e
      rw [hx] at e
      show some (kill x) = some x
      rw [kill_not e]
/-- THE RULE: a run whose way is known for every table of generators leaves the sleeping ones as they are -/
theorem wpAny_asleep {α : Type} {M : Model} {A : Around} {t : Sem α} {Q : α → Shared → Prop} {E : Value → Shared → Prop} {s : Shared} (h : wpAny M A t Q E (killed s)) :
    wpAny M A t (fun a s' => ∃ s0, s' = back s.gens s0 ∧ Dd s.gens s0 ∧ Q a s0) (fun e s' => ∃ s0, s' = back s.gens s0 ∧ Dd s.gens s0 ∧ E e s0) s := by
  intro Γ p hΓ
  have z := wp_asleep M Γ s.gens t _ _ p (killed s) (killed_dd s) (h Γ p hΓ)
  rw [killed_back] at z
  exact z
theorem back_sleeper {G : Array GenState} {s : Shared} (d : Dd G s) {i : Nat} {x : GenState} (h : G[i]? = some x) (hx : sus x = true) : (back G s).gens[i]? = some x := by
  have n : slp G i = true := by unfold slp; rw [h]; exact hx
  obtain ⟨y, _, h2⟩ := d.at_ i n
  rw [back_at, n, if_pos rfl, h2]
  exact h
theorem back_bare {G : Array GenState} {s : Shared} (hG : PyProof.Rows.AllBare G) (h : PyProof.Rows.AllBare s.gens) : PyProof.Rows.AllBare (back G s).gens := fun y hy => by
  obtain ⟨i, hi, e⟩ := Array.mem_iff_getElem.mp hy
  have e2 : (back G s).gens[i]? = some y := by rw [Array.getElem?_eq_getElem hi, e]
  rw [back_at] at e2
  cases n : slp G i with
  | true =>
    rw [n, if_pos rfl] at e2
    cases hs : s.gens[i]? with
    | none => rw [hs] at e2; cases e2
    | some z => rw [hs] at e2; exact hG y (Array.mem_of_getElem? e2)
  | false =>
    rw [n, if_neg Bool.false_ne_true] at e2
    exact h y (Array.mem_of_getElem? e2)
end MG
/-! text G2 -/
set_option Elab.async false
set_option linter.all false
set_option maxRecDepth 100000
set_option maxHeartbeats 4200000
/-! one run of a generator's code, from a waking to the next yield -/
namespace MG
open PySem
open Sem (wp)
/-- from here it runs to an end that Φ tells -/
def SegX (M : Model) (A : Around) (Φ : End → Shared → Prop) (c : Code) (t : Sem Fin) (fs : List Frame) (s : Shared) : Prop :=
  ∀ Γ p, Γ.code = c → Γ.Woken A → ∃ e s', Runs M Γ p t fs s e s' ∧ Φ e s'
abbrev NoX : Value → Shared → Prop := fun _ _ => False
section
variable {M : Model} {A : Around} {Φ : End → Shared → Prop} {c : Code} {fs : List Frame} {s : Shared}
theorem segx_wrap {α : Type} {m : Sem α} {K : α → Sem Fin} {H : Value → Sem Fin} {gd lv}
    (h : wpAny M (A.over c fs) m (fun a s' => SegX M A Φ c (K a) fs s') NoX s) : SegX M A Φ c (m.wrap K H gd lv) fs s := by
  rintro Γ p rfl hΓ
  exact runs_wrap_of_wp K H gd lv m (h (Γ.over fs) p (hΓ.over fs)) (fun a p' s' h' => h' Γ p' rfl hΓ) (fun x p' s' h' => h'.elim)
theorem segx_at {p' : Pos} {k : Unit → Sem Fin} (h : SegX M A Φ c (k ()) fs s) : SegX M A Φ c (.at p' k) fs s :=
  segx_wrap (m := standAt p') (K := k) (H := .raise) (gd := id) (lv := id) (wpAny_standAt h)
theorem segx_point {l : List Value} {k : Unit → Sem Fin} (h : SegX M A Φ c (k ()) fs s) : SegX M A Φ c (.point l k) fs s :=
  segx_wrap (m := point) (K := k) (H := .raise) (gd := id) (lv := fun _ => l) (wpAny_point h)
theorem segx_call {c' : Code} {h g l} {k : Result → Sem Fin} (hc : ∀ p, SegX M A Φ c' (M.den c') (.ret k h g l c p [] :: fs) s) :
    SegX M A Φ c (.call c' h g l k) fs s := by
  rintro Γ p rfl inA
  exact (hc p (Γ.goto c') p rfl (inA.goto c')).imp fun _ z => z.imp fun _ z => z.imp_left runs_call_seg
theorem segx_leaf {k h g l c₁ p₁ kp} (r : Result) (hk : SegX M A Φ c₁ (k r) fs s) : SegX M A Φ c (leafOf r) (.ret k h g l c₁ p₁ kp :: fs) s := by
  rintro Γ p rfl inA
  exact (hk (Γ.goto c₁) p₁ rfl (inA.goto c₁)).imp fun _ z => z.imp fun _ z => z.imp_left (Runs.pop r)
theorem segx_again {c' : Code} (hq : c'.quiet = true) (hc : SegX M A Φ c' (M.den c') fs s) : SegX M A Φ c (.pure (.again c')) fs s := by
  rintro Γ p rfl inA
  exact (hc (Γ.goto c') p rfl (inA.goto c')).imp fun _ z => z.imp fun _ z => z.imp_left fun r => Runs.head (c₁ := c') (fun _ _ x => .again hq x) r
theorem segx_end (r : Result) (h : Φ (.ret r) s) : SegX M A Φ c (leafOf r) [] s := by
  rintro Γ p rfl _
  exact ⟨_, _, Runs.leaf r, h⟩
theorem segx_yield {v g l} {k : Resume → Sem Fin} (hfs : splitAtGen fs = none) (h : ∀ p, Φ (.susp v g l k c p fs) s) : SegX M A Φ c (.yield v g l k) fs s := by
  rintro Γ p rfl _
  exact ⟨_, s, Runs.yield' fs hfs, h p⟩
theorem wrap_bind {α β gam : Type} (m : Sem α) (f : α → Sem β) (K : β → Sem gam) (H : Value → Sem gam) (gd lv) : (m >>= f).wrap K H gd lv = m.wrap (fun a => (f a).wrap K H gd lv) H gd lv := by
  rw [Sem.bind_eq_wrap', Sem.wrap_wrap]
  rfl
end
section
variable {prog : Program} {w : World} {A : Around} {Φ : End → Shared → Prop} {c : Code} {fs : List Frame} {s : Shared} {env : Env} {K : Flow → Sem Fin} {H : Value → Sem Fin} {gd : Bool → Bool} {lv : List Value → List Value}
/-- a for statement, up to its loop -/
theorem segx_For {target iter : Expr} {body : List Stmt} {pos : Pos} (hs : ∀ x, foldedSetIterable iter env x = pure x)
    (h : wpAny (model prog w) (A.over c fs) (eval iter env) (fun v s1 => wpAny (model prog w) (A.over c fs) (pyIter v) (fun it s2 => ∀ p, SegX (model prog w) A Φ (.forLoop target it body [] env) ((model prog w).den (.forLoop target it body [] env))
      (.ret (fun r => ((match r with | .ok f => (.pure f : Sem Flow) | .error e => .raise e).onRaise (L2.cameBack env)).wrap K H gd lv) none (gd false) (lv []) c p [] :: fs) s2) NoX s1) NoX s) :
    SegX (model prog w) A Φ c ((exec (.For target iter body [] pos) env).wrap K H gd lv) fs s := by
  refine segx_at ?_
  show SegX _ A Φ c ((eval iter env >>= fun v => foldedSetIterable iter env v >>= fun x => standAt iter.pos >>= fun _ => holding [x] (pyIter x) >>= fun it => runOwn (.forLoop target it body [] env) env).wrap K H gd lv) fs s
  rw [wrap_bind]
  refine segx_wrap (wpAny_mono h (fun v s1 h1 => ?_) fun _ _ x => x)
  rw [hs, wrap_bind]
  show SegX _ A Φ c ((standAt iter.pos >>= fun _ => holding [v] (pyIter v) >>= fun it => runOwn (.forLoop target it body [] env) env).wrap K H gd lv) fs s1
  rw [wrap_bind]
  refine segx_wrap (wpAny_standAt ?_)
  rw [wrap_bind]
  refine segx_wrap (wpAny_holding (wpAny_mono h1 (fun it s2 h2 => ?_) fun _ _ x => x))
  exact segx_call h2
/-- what a turn of the loop comes to, by the end of its body; an exception that goes up out of it -/
abbrev afterTurn (loop : Code) (f : Flow) : Sem Fin := match f with | .next | .cont => .pure (.again loop) | .brk => .pure (.done .next) | .ret v => .pure (.done (.ret v))
abbrev upOut (env : Env) (e : Value) : Sem Fin := (do noteFrame e env; theTreesLotGoes e : Sem Unit).wrap (fun _ => .raise e) .raise id id
/-- what a body's end is to its caller; an exception that leaves it -/
abbrev toCaller (f : Flow) : Sem Fin := .pure (.done (.ret (match f with | .ret v => v | _ => .none)))
abbrev leftBy (env : Env) (e : Value) : Sem Fin := (leaving env e).wrap (fun _ => .raise e) .raise id id
/-- one turn of the loop -/
theorem segx_forLoop {target : Expr} {it : Value} {body : List Stmt}
    (h : wpAny (model prog w) (A.over (.forLoop target it body [] env) fs) (pyNext it) (fun r s1 => match r with
      | none => SegX (model prog w) A Φ (.block [] env) ((model prog w).den (.block [] env)) fs s1
      | some v => wpAny (model prog w) (A.over (.forLoop target it body [] env) fs) (letOwnedTupleGo target it v) (fun _ s2 => wpAny (model prog w) (A.over (.forLoop target it body [] env) fs) (assign target env v) (fun _ s3 =>
          SegX (model prog w) A Φ (.forLoop target it body [] env) ((execs body env).wrap (afterTurn (.forLoop target it body [] env)) (upOut env) id id) fs s3) NoX s2) NoX s1) NoX s) :
    SegX (model prog w) A Φ (.forLoop target it body [] env) ((model prog w).den (.forLoop target it body [] env)) fs s := by
  show SegX _ A Φ _ ((forTurn target it body [] env).onRaise (fun x => do noteFrame x env; theTreesLotGoes x)) fs s
  unfold forTurn
  rw [Sem.onRaise_eq_wrap, wrap_bind]
  refine segx_wrap (wpAny_standAt ?_)
  rw [wrap_bind]
  refine segx_wrap (wpAny_onRaise (wpAny_mono h (fun r s1 h1 => ?_) fun _ _ x => x.elim))
  cases r with
  | none => exact segx_again rfl h1
  | some v =>
    show SegX _ A Φ _ (Sem.wrap _ _ _ _ (letOwnedTupleGo target it v >>= fun _ => _)) fs s1
    rw [wrap_bind]
    refine segx_wrap (wpAny_mono h1 (fun _ s2 h2 => ?_) fun _ _ x => x)
    rw [wrap_bind]
    refine segx_wrap (wpAny_mono h2 (fun _ s3 h3 => ?_) fun _ _ x => x)
    rw [wrap_bind]
    have up : ∀ e : Value, (do noteFrame e env; theTreesLotGoes e : Sem Unit).bind (fun _ => (.raise e : Sem Fin)) = upOut env e := fun e => Sem.bind_eq_wrap _ _
    rw [Sem.wrap_congr (execs body env) _ _ (K' := afterTurn (.forLoop target it body [] env)) (H' := upOut env) (fun f => by cases f <;> rfl) up]
    exact h3
/-- yield e -/
theorem segx_Yield {e : Expr} {ypos pos : Pos} (hfs : splitAtGen fs = none) (hgd : gd false = false)
    (h : wpAny (model prog w) (A.over c fs) (eval e env) (fun v s' => ∀ k l p, (∀ A' Φ' s'', SegX (model prog w) A' Φ' c (K .next) fs s'' → SegX (model prog w) A' Φ' c (k (.send .none)) fs s'') → Φ (.susp v false l k c p fs) s') NoX s)
    (hco : env.scope.isCoroutine = false := by rfl) (hi : interactive env = false := by rfl) :
    SegX (model prog w) A Φ c ((execs [.Expr (.Yield (some e) ypos) pos] env).wrap K H gd lv) fs s := by
  rw [execs_cons_wrap, exec_Expr env _ pos hi rfl]
  show SegX _ A Φ c (.at pos fun _ => ((eval e env >>= fun v => (standAt ypos >>= fun _ => yieldOut env v)) >>= fun x =>
    dropValue (.Yield (some e) ypos) pos x).wrap _ H gd lv) fs s
  have plain : yieldOut env = yieldValue := funext fun v => by
    unfold yieldOut
    rw [hco]
    rfl
  rw [plain]
  refine segx_at ?_
  rw [wrap_bind, wrap_bind]
  refine segx_wrap (wpAny_mono h (fun v s' h' => ?_) fun _ _ x => x)
  rw [wrap_bind]
  refine segx_wrap (wpAny_standAt ?_)
  show SegX _ A Φ c (.yield v (gd false) _ _) fs s'
  rw [hgd]
  exact segx_yield hfs fun p => h' _ _ p fun A' Φ' s'' hx => hx
/-- the end of a generator's body -/
theorem segx_func {body : List Stmt}
    (h : SegX (model prog w) A Φ (.func body env) ((execs body env).wrap toCaller (leftBy env) id id) fs s) :
    SegX (model prog w) A Φ (.func body env) ((model prog w).den (.func body env)) fs s := by
  show SegX _ A Φ _ (.point [] fun _ => ((execs body env).onRaise (leaving env)) >>= _) fs s
  refine segx_point ?_
  rw [Sem.onRaise_eq_wrap, Sem.bind_eq_wrap', Sem.wrap_wrap, Sem.wrap_congr (execs body env) _ _ (K' := toCaller) (H' := leftBy env) (fun f => by cases f <;> rfl) fun e => by rw [Sem.bind_eq_wrap, Sem.wrap_wrap]; rfl]
  exact h
theorem segx_block0 (h : SegX (model prog w) A Φ (.block [] env) (leafOf (.ok .next)) fs s) : SegX (model prog w) A Φ (.block [] env) ((model prog w).den (.block [] env)) fs s := h
end
/-- waking a generator: its run is told -/
theorem wpAny_resumeX {M : Model} {A : Around} {E : Value → Shared → Prop} {s : Shared} {g : Nat} {gs : GenState} {l : List Value} {α : Type} {k : GenResult → Sem α} {Q : α → Shared → Prop} {Φ : End → Shared → Prop} (hg : s.gens[g]? = some gs)
    (hgo : match gs with
      | .fresh c => SegX M A Φ c (M.den c) [] (s.setGen g .running)
      | .suspended k _ c _ fs _ => SegX M A Φ c (k (.send .none)) fs (s.setGen g .running)
      | _ => False)
    (hq : ∀ e s₁, Φ e s₁ → e.quiet = true) (hf : ∀ e s₁, Φ e s₁ → wpAny M A (k e.result) Q E (s₁.setGen g e.genState)) :
    wpAny M A (.resume g (.send .none) l k) Q E s := by
  intro Γ p hΓ
  rw [Sem.wp_resume]
  cases gs with
  | running => exact hgo.elim
  | finished => exact hgo.elim
  | fresh c =>
    obtain ⟨e, t, run, fin⟩ := hgo (Γ.wake c p) p rfl (hΓ.wake c p)
    refine ⟨_, _, ?_, hf e t fin Γ p hΓ⟩
    unfold Wakes
    rw [hg]
    exact ⟨e, t, run, hq e t fin, rfl, rfl⟩
  | suspended k0 l0 c0 p0 fs0 cl =>
    obtain ⟨e, t, run, fin⟩ := hgo (Γ.wake c0 p) p0 rfl (hΓ.wake c0 p)
    refine ⟨_, _, ?_, hf e t fin Γ p hΓ⟩
    unfold Wakes
    rw [hg]
    exact ⟨e, t, run, hq e t fin, rfl, rfl⟩
end MG
/-! text G3 -/
set_option Elab.async false
set_option linter.all false
set_option maxRecDepth 100000
set_option maxHeartbeats 4200000
/-! walk: the context of one run, from its consumer's and back -/
namespace MG
open PySem PySem.Spec PyProof.Rows L2
/-! ### the heap up to n -/
def cutH (h : Heap) (n : Nat) : Heap := { h with objs := h.objs.extract 0 n }
theorem cut_get (h : Heap) (n b : Nat) : (cutH h n).get? b = if b < n then h.get? b else none := by
  have e : (cutH h n).objs[b]? = if b < n then h.objs[b]? else none := by
    show (h.objs.extract 0 n)[b]? = _
    rw [Array.getElem?_extract]
    by_cases h1 : b < n
    · by_cases h2 : b < h.objs.size
      · rw [if_pos (by omega), if_pos h1, Nat.zero_add]
      · rw [if_neg (by omega), if_pos h1, Array.getElem?_eq_none (by omega)]
    · rw [if_neg (by omega), if_neg h1]
  unfold Heap.get?
  rw [e]
  by_cases h1 : b < n
  · rw [if_pos h1, if_pos h1]
  · rw [if_neg h1, if_neg h1]
theorem cut_size {h : Heap} {n : Nat} (hn : n ≤ h.objs.size) : (cutH h n).objs.size = n := by
  show (h.objs.extract 0 n).size = n
  rw [Array.size_extract]; omega
/-- the frame's environment: the frame at n -/
abbrev wenv (n : Nat) (f : Addr) (cdv : Value) : Env := envOfC "Tree.walk" (defScope s_walk) n f cdv
theorem wcells (n : Nat) (f : Addr) (cdv : Value) : (wenv n f cdv).cells = [] := by rfl
/-- the context of one run of walk's code -/
def wcx (P : Program) (w : World) (K : PySem.W.Frag) (mg : Str → Option Value) (base : Heap) (f : Addr) (cdv : Value) (A : Around) (outer : List Env) (n : Nat) (s : Shared) (H : Hp) (pn : List (Addr × Obj)) : Cx where
  prog := P
  w := w
  K := K
  mg := mg
  base := base
  A := A.deeper (wenv n f cdv)
  N := ["self", "node"]
  s_0 := { s with heap := cutH s.heap n }
  H_0 := fun b => if b < n then H b else none
  env := wenv n f cdv
  outer := outer
  stack := wenv n f cdv :: outer
  ex := []
  calm := true
  fn := fun _ => true
  pn := pn
  xe := fun _ _ => False
section
variable {X : Cx} {pins : List (Addr × Obj)} {σ : L2.St} {H : Hp} {s : Shared}
theorem frs_lt (I : L2.Inv X pins σ H s) {n : Nat} (hn : n ≤ s.heap.objs.size) : ∀ b ∈ frs X.stack, b < s.heap.objs.size := fun b hb => by
  obtain ⟨_, o, ho, _⟩ := I.stack.mem hb
  exact Heap.lt_size ho
/-- from the consumer's context -/
theorem inv_wake (I : L2.Inv X pins σ H s) {n : Nat} (hn : n ≤ s.heap.objs.size) (hb : X.base.objs.size ≤ n) (hst : ∀ b ∈ frs X.stack, b < n) {A : Around} (hA : A.frames = some X.stack) (hh : A.handled = none) (f : Addr) (cdv : Value)
    {pn pw : List (Addr × Obj)} {m : Str → Option Value} {σw : L2.St} (hl : σw.length = 2) (hL : s.heap.Ns n m) (hLn : H n = none) (hv : ∀ (i : Nat) (x : Str) (v : V), (["self", "node"] : List Str)[i]? = some x → σw[i]? = some (some v) → ∃ u, RelV v u ∧ m x = some u)
    (hp : ∀ p ∈ pn ++ pw, s.heap.get? p.1 = some p.2 ∧ H p.1 = none ∧ p.1 ≠ n ∧ p.1 ∉ frs X.stack ∧ ∀ v, p.2.data ≠ .cell v) : L2.Inv (wcx X.prog X.w X.K X.mg X.base f cdv A X.stack n s H pn) pw σw H s := by
  have hsz : ({ s with heap := cutH s.heap n } : Shared).heap.objs.size = n := cut_size hn
  have hno : ∀ b : Addr, b ∉ (wcx X.prog X.w X.K X.mg X.base f cdv A X.stack n s H pn).ex := fun b z => absurd (show b ∈ ([] : List Addr) from z) (by simp)
  have hcl : ∀ (x : Str) (c : Addr), (wcx X.prog X.w X.K X.mg X.base f cdv A X.stack n s H pn).env.cells.lookup x = some c → False := fun x c h => by
    have h : (wenv n f cdv).cells.lookup x = some c := h
    rw [wcells] at h
    cases h
  have hnm : ∀ (x : Str), (wenv n f cdv).scope.names.lookup x = some .cell ∨ (wenv n f cdv).scope.names.lookup x = some .free → False := fun x h => by
    have key : (wenv n f cdv).scope.names.all (fun y => match y.2 with | .cell => false | .free => false | _ => true) = true := by
      show (defScope s_walk).names.all _ = true
      decide +kernel
    rcases h with h | h <;> (have z := List.all_eq_true.mp key _ (PySem.mem_of_lookup h); cases z)
  refine ⟨⟨I.ok.mod, rfl, rfl, rfl, ?_, fun x y c h1 _ => (hcl x c h1).elim, fun x h => (hnm x h).elim, fun x c _ h => (hcl x c h).elim, fun _ => hh, Around.frames_deeper hA, .inr ⟨rfl, rfl⟩, fun b z => absurd z (hno b), fun b o e => ?_, ?_, fun b _ _ => hno b, fun b z => absurd z (hno b), ?_, fun b hb' => ?_⟩,
    rfl, I.bare, ?_, ⟨m, hL, fun i x v h1 h2 h3 => ?_⟩, fun x c h => (hcl x c h).elim, hLn, fun x c h => (hcl x c h).elim, fun p hp' => hp p hp', I.hok, hl⟩
  · show (cutH s.heap n).objs.size ≤ n
    rw [cut_size hn]; exact Nat.le_refl _
  · obtain ⟨h1, h2⟩ := I.bs b o e
    have hlt : b < n := Nat.lt_of_lt_of_le (Heap.lt_size e) hb
    exact ⟨by show (cutH s.heap n).get? b = some o; rw [cut_get, if_pos hlt]; exact h1, by show (if b < n then H b else none) = none; rw [if_pos hlt]; exact h2⟩
  · show X.base.objs.size ≤ (cutH s.heap n).objs.size
    rw [cut_size hn]; exact hb
  · show (cutH s.heap n).FunFrames X.base X.stack
    have key : ∀ l : List Env, (∀ b ∈ frs l, b < n) → s.heap.FunFrames X.base l → (cutH s.heap n).FunFrames X.base l := by
      intro l
      induction l with
      | nil => exact fun _ _ => trivial
      | cons env r ih =>
        rintro hs ⟨hk, ⟨L, o, hf, hn', ho, hd⟩, hr⟩
        have hL : L < n := hs L (by unfold frs; rw [List.filterMap_cons, hf]; exact List.mem_cons_self)
        exact ⟨hk, ⟨L, o, hf, hn', by rw [cut_get, if_pos hL]; exact ho, hd⟩, ih (fun b hb => hs b (by unfold frs; rw [List.filterMap_cons, hf]; exact List.mem_cons_of_mem _ hb)) hr⟩
    exact key X.stack hst I.stack
  · show (if b < n then H b else none) = none
    rw [if_pos (hst b hb')]
    exact I.stkFree b hb'
  · refine ⟨fun b o e _ _ _ => ?_, fun b o e _ _ _ => ?_, fun b o e h1 _ => ?_, fun b o e _ => ?_, fun b xs e => ?_, fun b o u e => ?_, fun b ps e => ?_⟩
    all_goals first
      | (have e : (cutH s.heap n).get? b = some o := e
         rw [cut_get] at e
         split at e
         · first
             | exact e
             | exact ⟨o.slots, e⟩
             | exact ⟨o, e⟩
             | (have h1 : (if b < n then H b else none) = none := h1
                rw [if_pos (by assumption)] at h1
                exact h1)
         · cases e)
      | (have e : (if b < n then H b else none) = _ := e
         split at e
         · first
             | exact e
             | exact ⟨#[], by rw [e, Array.append_empty]⟩
         · cases e)
  · obtain ⟨u, r, hm⟩ := hv i x v h1 h2
    refine ⟨u, r, .inl ⟨?_, hm⟩⟩
    show (wenv n f cdv).kindOf x = some .local
    match i, h1 with
    | 0, h1 => obtain rfl := Option.some.inj h1; rfl
    | 1, h1 => obtain rfl := Option.some.inj h1; rfl
    | (i + 2), h1 => exact absurd (show ([] : List Str)[i]? = some x from h1) (by simp)
/-- and back -/
theorem inv_back (I : L2.Inv X pins σ H s) {n : Nat} (hn : n ≤ s.heap.objs.size) (hn0 : X.s_0.heap.objs.size ≤ n) (hst : ∀ b ∈ frs X.stack, b < n) {A : Around} {f : Addr} {cdv : Value}
    {pn pw : List (Addr × Obj)} {σw : L2.St} {H1 : Hp} {s0 s1 : Shared} (e0 : s0.heap = s.heap) (e1 : s0.os = s.os) (J : L2.Inv (wcx X.prog X.w X.K X.mg X.base f cdv A X.stack n s0 H pn) pw σw H1 s1) (hs : Same H H1)
    (hp : ∀ p ∈ pn ++ pw, s.heap.get? p.1 = some p.2) (hk : ∀ p ∈ X.pn ++ pins, p ∈ pn ++ pw) (hloc : X.env.locals ∈ frs X.stack ∨ ∃ o, (X.env.locals, o) ∈ pn ++ pw) (hcl : ∀ x c, X.env.cells.lookup x = some c → c < n) : L2.Inv X pins σ H1 s1 := by
  obtain ⟨ch, hch⟩ : ∃ ch : List Addr, ch = (List.range s.heap.objs.size).filter fun b => decide (n ≤ b) && ((H b).isNone && !decide (b ∈ (pn ++ pw).map (·.1))) := ⟨_, rfl⟩
  have inch : ∀ b, b ∈ ch → n ≤ b ∧ b ∉ (pn ++ pw).map (·.1) := fun b hb => by
    rw [hch] at hb
    have := (List.mem_filter.mp hb).2
    simp only [Bool.and_eq_true, decide_eq_true_eq, Bool.not_eq_true', decide_eq_false_iff_not] at this
    exact ⟨this.1, this.2.2⟩
  have notch : ∀ b o, s.heap.get? b = some o → b ∉ ch → H b = none → b < n ∨ ∃ p ∈ pn ++ pw, p.1 = b := fun b o e hb hH => by
    by_cases h1 : b < n
    · exact .inl h1
    · by_cases h2 : b ∈ (pn ++ pw).map (·.1)
      · obtain ⟨p, hp', e⟩ := List.mem_map.mp h2
        exact .inr ⟨p, hp', e⟩
      · refine absurd ?_ hb
        rw [hch]
        refine List.mem_filter.mpr ⟨List.mem_range.mpr (Heap.lt_size e), ?_⟩
        show (decide (n ≤ b) && ((H b).isNone && !decide (b ∈ (pn ++ pw).map (·.1)))) = true
        rw [decide_eq_true (Nat.le_of_not_lt h1 : n ≤ b), hH, decide_eq_false h2]
        rfl
  have hcut : ∀ b o, b < n → s.heap.get? b = some o → (cutH s0.heap n).get? b = some o := fun b o h e => by rw [cut_get, if_pos h, e0]; exact e
  have hH0 : ∀ b, H b = none → (if b < n then H b else none) = none := fun b h => by split <;> first | exact h | rfl
  have B := J.base
  have nx : ∀ b, b ∉ ([] : List Addr) := fun b hb => by simp at hb
  refine I.call' (ch := ch) (J.os.trans e1) ⟨fun b o e hH hf hb => ?_, fun b o e hH hf hb => ?_, fun b o e hH hb => ?_, fun b o e hb => ?_, fun b xs e => hs _ _ e, fun b o u e => hs _ _ e, fun b ps e => ⟨#[], by rw [hs _ _ e]; simp⟩⟩ J.hok J.bare fun b hb => ?_
  · rcases notch b o e hb hH with h | ⟨p, hp', rfl⟩
    · exact B.keep b o (hcut b o h e) (hH0 b hH) hf (nx b)
    · rw [hp p hp'] at e
      rw [(J.pin p hp').1, e]
  · exact B.slot b o (hcut b o (hst b hf) e) (hH0 b hH) hf (nx b)
  · rcases notch b o e hb hH with h | ⟨p, hp', rfl⟩
    · exact B.free b o (hcut b o h e) (hH0 b hH) (nx b)
    · exact (J.pin p hp').2.1
  · cases hH : H b with
    | some u => exact objOk_get (J.hok b u (hs _ _ hH))
    | none =>
      rcases notch b o e hb hH with h | ⟨p, hp', rfl⟩
      · exact B.there b o (hcut b o h e) (nx b)
      · exact ⟨_, (J.pin p hp').1⟩
  · obtain ⟨h1, h2⟩ := inch b hb
    refine ⟨.inr (Nat.le_trans hn0 h1), fun e => ?_, fun x c hc e => ?_, fun p hp' e => ?_⟩
    · rcases hloc with h | ⟨o, h⟩
      · have := hst _ h
        rw [← e] at this
        exact absurd this (Nat.not_lt.mpr h1)
      · exact h2 (e ▸ List.mem_map_of_mem (f := (·.1)) h)
    · have := hcl x c hc
      rw [e] at this
      exact absurd this (Nat.not_lt.mpr h1)
    · exact h2 (e ▸ List.mem_map_of_mem (f := (·.1)) (hk p hp'))
end
end MG
/-! text G4 -/
set_option Elab.async false
set_option linter.all false
set_option maxRecDepth 100000
set_option maxHeartbeats 4200000
/-! walk: its turns -/
namespace MG
open PySem PySem.Spec PyProof.Rows L2
/-! ### its text -/
def wFor : Stmt := (defBody s_walk).getD 0 (.Pass ⟨0, 0, 0, 0⟩)
def wTg : Expr := match wFor with | .For t _ _ _ _ => t | _ => .Constant .none 0 ⟨0, 0, 0, 0⟩
def wIter : Expr := match wFor with | .For _ i _ _ _ => i | _ => .Constant .none 0 ⟨0, 0, 0, 0⟩
def wLoop : List Stmt := match wFor with | .For _ _ b _ _ => b | _ => []
def wPos : Pos := match wFor with | .For _ _ _ _ p => p | _ => ⟨0, 0, 0, 0⟩
def wElt : Expr := match wLoop with | [.Expr (.Yield (some e) _) _] => e | _ => .Constant .none 0 ⟨0, 0, 0, 0⟩
def wYp : Pos := match wLoop with | [.Expr (.Yield (some _) p) _] => p | _ => ⟨0, 0, 0, 0⟩
def wEp : Pos := match wLoop with | [.Expr (.Yield (some _) _) p] => p | _ => ⟨0, 0, 0, 0⟩
theorem w_body : defBody s_walk = [.For wTg wIter wLoop [] wPos] := by rfl
theorem w_loop : wLoop = [.Expr (.Yield (some wElt) wYp) wEp] := by rfl
abbrev Cg (it : Addr) (n : Nat) (f : Addr) (cdv : Value) : Code := .forLoop wTg (.ref it) wLoop [] (wenv n f cdv)
/-- the frames over the loop -/
structure FsOk (M : Model) (it : Addr) (n : Nat) (f : Addr) (cdv : Value) (fs : List Frame) : Prop where
  split : splitAtGen fs = none
  guard : fs.any Frame.guarded = false
  over : ∀ A : Around, A.over (Cg it n f cdv) fs = A.deeper (wenv n f cdv)
  fin : ∀ (A : Around) (Φ : End → Shared → Prop) (s : Shared), Φ (.ret (.ok (.ret .none))) s → SegX M A Φ (.block [] (wenv n f cdv)) (leafOf (.ok .next)) fs s
/-- asleep within the loop -/
structure Ready (M : Model) (it : Addr) (n : Nat) (f : Addr) (cdv : Value) (gs : GenState) : Prop where
  ex : ∃ k l p fs, gs = .suspended k l (Cg it n f cdv) p fs false ∧ FsOk M it n f cdv fs ∧
    ∀ (A : Around) (Φ : End → Shared → Prop) (s : Shared), SegX M A Φ (Cg it n f cdv) (.pure (.again (Cg it n f cdv))) fs s → SegX M A Φ (Cg it n f cdv) (k (.send .none)) fs s
theorem segx_YieldL {prog : Program} {w : World} {A : Around} {Φ : End → Shared → Prop} {c : Code} {fs : List Frame} {s : Shared} {env : Env} {K : Flow → Sem PySem.Fin} {H : Value → Sem PySem.Fin} {gd : Bool → Bool} {lv : List Value → List Value} {body : List Stmt} {e : Expr} {ypos pos : Pos}
    (hb : body = [.Expr (.Yield (some e) ypos) pos]) (hfs : splitAtGen fs = none) (hgd : gd false = false)
    (h : wpAny (model prog w) (A.over c fs) (eval e env) (fun v s' => ∀ k l p, (∀ A' Φ' s'', SegX (model prog w) A' Φ' c (K .next) fs s'' → SegX (model prog w) A' Φ' c (k (.send .none)) fs s'') → Φ (.susp v false l k c p fs) s') NoX s)
    (hco : env.scope.isCoroutine = false := by rfl) (hi : interactive env = false := by rfl) :
    SegX (model prog w) A Φ c ((execs body env).wrap K H gd lv) fs s := by
  subst hb
  exact segx_Yield hfs hgd h hco hi
section
variable {P : Program} {w : World} {K : PySem.W.Frag} {mg : Str → Option Value} {base : Heap} {C U : Addr} {f : Addr} {cdv : Value} {A : Around} {outer : List Env} {n : Nat} {s0 : Shared} {H0 : Hp} {pn : List (Addr × Obj)}
theorem pi_w (T : Txt K mg C) (c_nodes_under : Met P w K mg base 4 C "nodes_under" (spBelow U C)) (hr : Room 5 (A.deeper (wenv n f cdv))) : PI (wcx P w K mg base f cdv A outer n s0 H0 pn) wTg wIter (iList K (tMeth C "nodes_under" (spBelow U C) [] E0 (tVar 0) (tCons (tC (.str "root")) tNil))) :=
  pi_list (X := wcx P w K mg base f cdv A outer n s0 H0 pn) (pe_ml c_nodes_under hr (by decide) (pv 0) (pa_cons (C8.pe_gc (by rfl) T.c_ROOT) pa_nil))
theorem pe_w (c_depth_of : Met P w K mg base 5 C "depth_of" (spOf U C rDepth)) (hr : Room 5 (A.deeper (wenv n f cdv))) : PE (wcx P w K mg base f cdv A outer n s0 H0 pn) wElt (tTup (tCons (tMeth C "depth_of" (spOf U C rDepth) [] E0 (tVar 0) (tCons (tVar 1) tNil)) (tCons (tVar 1) tNil))) :=
  pe_tup (X := wcx P w K mg base f cdv A outer n s0 H0 pn) (pa_cons (pe_ml c_depth_of hr (by decide) (pv 0) (pa_cons (pv 1) pa_nil)) (pa_cons (pv 1) pa_nil))
theorem pg_w : PG (wcx P w K mg base f cdv A outer n s0 H0 pn) wTg (gName 1) := pg_name (X := wcx P w K mg base f cdv A outer n s0 H0 pn) (i := 1) (by show (["self", "node"] : List Str).Nodup; decide) rfl (Or.inl rfl)
/-- the end of the segment, for the consumer -/
def ItemEnd (M : Model) (it : Addr) (n : Nat) (f : Addr) (cdv : Value) (Φ : End → Shared → Prop) (v : Value) (s : Shared) : Prop := ∀ k l p fs, Ready M it n f cdv (.suspended k l (Cg it n f cdv) p fs false) → fs.any Frame.guarded = false → Φ (.susp v false l k (Cg it n f cdv) p fs) s
/-- one turn of the loop: an item is handed out, or it ends -/
theorem w_turn (c_depth_of : Met P w K mg base 5 C "depth_of" (spOf U C rDepth)) (hr : Room 5 (A.deeper (wenv n f cdv))) {Φ : End → Shared → Prop} {it l t : Addr} {fp : List Addr} {tn : Nat → Heap → Prop} {i : Nat} {ord ns : List Str} {par lab : Str → Str}
    {pw : List (Addr × Obj)} {vn : Option V} {H : Hp} {s : Shared} {fs : List Frame} (J : L2.Inv (wcx P w K mg base f cdv A outer n s0 H0 pn) pw [some (.ref t), vn] H s) (Tu : Turn P w K wTg (Itl K l) fp it tn) (st : tn i s.heap)
    (hl : H l = some (.lst (ord.map V.str))) (hf : ∀ b ∈ fp, FpOk (wcx P w K mg base f cdv A outer n s0 H0 pn) pw H b) (fok : FsOk (model P w) it n f cdv fs) (hp : MG.TP C H t ns par lab) (D : TD ns par lab) (ho : ∀ x, x ∈ ord → x = Rt ∨ x ∈ ns)
    (hy : ∀ (x : Str) (v : Value) (s1 : Shared) (H1 : Hp) (T1 : Addr) (vn' : Option V) (h5 : Heap), ord[i]? = some x → v = .ref T1 → H1 T1 = some (.tup [.int (((W par Rt x).length : Int) - 1), .str x]) → Same H H1 → L2.Inv (wcx P w K mg base f cdv A outer n s0 H0 pn) (pw ++ pinsAt fp h5) [some (.ref t), vn'] H1 s1 →
      tn (i + 1) s1.heap → (∀ b ∈ fp, H1 b = none ∧ ∃ o, s1.heap.get? b = some o ∧ h5.get? b = some o ∧ ∀ c, o.data ≠ .cell c) → ItemEnd (model P w) it n f cdv Φ v s1)
    (he : ∀ (s1 : Shared), ord[i]? = none → L2.Inv (wcx P w K mg base f cdv A outer n s0 H0 pn) pw [some (.ref t), vn] H s1 → Φ (.ret (.ok (.ret .none))) s1) :
    SegX (model P w) A Φ (Cg it n f cdv) ((model P w).den (Cg it n f cdv)) fs s := by
  refine segx_forLoop ?_
  rw [fok.over A]
  cases hx : ord[i]? with
  | none =>
    have stop : (Itl K l).stop i H := ⟨ord.map V.str, SqL.of hl, by rw [List.length_map]; exact List.getElem?_eq_none_iff.mp hx⟩
    refine wpAny_mono (Tu.done (wcx P w K mg base f cdv A outer n s0 H0 pn) rfl rfl rfl rfl i pw s _ H NoX J hf st stop) (fun r s1 hq => ?_) fun _ _ z => z
    obtain ⟨hr0, J1⟩ := hq
    subst hr0
    exact segx_block0 (fok.fin A Φ s1 (he s1 hx J1))
  | some x =>
    have go : (Itl K l).go i H := ⟨ord.map V.str, .str x, SqL.of hl, by rw [List.getElem?_map, hx]; rfl⟩
    refine wpAny_mono (Tu.item (wcx P w K mg base f cdv A outer n s0 H0 pn) rfl rfl rfl rfl i pw s _ H NoX J hf st go) (fun r s1 hq => ?_) fun _ _ z => z
    obtain ⟨u, hr0, h4⟩ := hq
    subst hr0
    refine wpAny_mono h4 (fun _ s2 ⟨y, H2, J2, ry, yld, st2, fr2⟩ => ?_) fun _ _ z => z
    obtain ⟨rfl, yv⟩ := yld
    have ey := yv _ (SqL.of hl)
    rw [List.getElem?_map, hx] at ey
    obtain rfl := Option.some.inj ey
    have ob := Tu.obj _ _ st2
    have J2' : L2.Inv (wcx P w K mg base f cdv A outer n s0 H0 pn) (pw ++ pinsAt fp s2.heap) [some (.ref t), vn] H2 s2 := J2.pinned (fun b hb => ⟨fr2 b hb, (hf b hb).2⟩) ob
    refine wpAny_mono (pg_w.run _ s2 _ H2 (.str x) u (fun σ' H' => σ' = [some (.ref t), some (.str x)] ∧ H' = H2) J2' ry ⟨rfl, rfl⟩) (fun _ s3 ⟨σ3, H3, J3, e3, e4⟩ => ?_) fun _ _ z => z
    subst e3 e4
    have hxo := ho x (List.mem_of_getElem? hx)
    obtain ⟨fs0, pp, ad, ob0, hlk, hpl, hk⟩ := hp.ex
    obtain ⟨dx, hdx⟩ := ob0.at_
    refine segx_YieldL w_loop fok.split rfl ?_
    rw [fok.over A]
    refine wpAny_mono ((pe_w c_depth_of hr).run _ s3 _ H3 (fun z H4 => ∃ T1, z = .ref T1 ∧ Same H3 H4 ∧ H4 T1 = some (.tup [.int (((W par Rt x).length : Int) - 1), .str x])) J3 ?_) (fun v s4 hv => ?_) fun _ _ z => z
    · refine ⟨_, rfl, t, dx, fs0, rfl, hdx, ob0.no _ (by decide), _, rfl, t, .str x, ns, par, lab, rfl, hp, D, True.intro, fun m em hm H4 s4 => ?_, fun e => ?_⟩
      · cases em
        exact ⟨_, rfl, by show 2 ≤ sizeLine; decide, fun T1 hT1 => ⟨T1, rfl, s4.trans (Same.new hT1), upd_same⟩⟩
      · rw [knownB_yes hxo] at e
        cases e
    · obtain ⟨z, H4, J4, rz, T1, ez, sm, hT1⟩ := hv
      subst ez
      obtain rfl : v = Value.ref T1 := rz
      intro k l' p hk2
      have pin4 : ∀ b ∈ fp, H4 b = none ∧ ∃ o, s4.heap.get? b = some o ∧ s2.heap.get? b = some o ∧ ∀ c, o.data ≠ .cell c := fun b hb => by
        obtain ⟨o, eo, dc⟩ := ob b hb
        obtain ⟨h1, h2, _⟩ := J4.pin (b, o) (List.mem_append_right _ (List.mem_append_right _ (mem_pinsAt hb eo)))
        exact ⟨h2, o, h1, eo, dc⟩
      refine hy x (.ref T1) s4 H4 T1 _ s2.heap hx rfl hT1 sm J4 (Tu.keep _ _ _ st2 fun b hb o e => ?_) pin4 k l' p fs ⟨_, _, _, _, rfl, fok, fun A' Φ' s'' h => hk2 A' Φ' s'' h⟩ fok.guard
      obtain ⟨_, o', e1, e2, _⟩ := pin4 b hb
      rw [e] at e2
      cases e2
      exact e1
end
end MG
/-! text G5 -/
set_option Elab.async false
set_option linter.all false
set_option maxRecDepth 100000
set_option maxHeartbeats 4200000
/-! walk: its start; next -/
namespace MG
open PySem PySem.Spec PyProof.Rows L2
theorem segx_ForL {prog : Program} {w : World} {A : Around} {Φ : End → Shared → Prop} {c : Code} {fs : List Frame} {s : Shared} {env : Env} {K : Flow → Sem PySem.Fin} {H : Value → Sem PySem.Fin} {gd : Bool → Bool} {lv : List Value → List Value} {body0 body : List Stmt} {target iter : Expr} {pos : Pos}
    (hb : body0 = [.For target iter body [] pos]) (hs : ∀ x, foldedSetIterable iter env x = pure x)
    (h : wpAny (model prog w) (A.over c fs) (eval iter env) (fun v s1 => wpAny (model prog w) (A.over c fs) (pyIter v) (fun it s2 => ∀ p, SegX (model prog w) A Φ (.forLoop target it body [] env) ((model prog w).den (.forLoop target it body [] env))
      (.ret (fun r => ((match r with | .ok f => (.pure f : Sem Flow) | .error e => .raise e).onRaise (L2.cameBack env)).wrap (fun (f : Flow) => match f with | .next => (execs [] env).wrap K H gd lv | f => K f) H gd lv) none (gd false) (lv []) c p [] :: fs) s2) NoX s1) NoX s) :
    SegX (model prog w) A Φ c ((execs body0 env).wrap K H gd lv) fs s := by
  subst hb
  rw [execs_cons_wrap]
  exact segx_For hs h
section
variable {P : Program} {w : World} {K : PySem.W.Frag} {mg : Str → Option Value} {base : Heap} {C U : Addr} {f : Addr} {cdv : Value} {A : Around} {outer : List Env} {n : Nat} {s0 : Shared} {H0 : Hp} {pn : List (Addr × Obj)}
theorem w_start (T : Txt K mg C) (c_nodes_under : Met P w K mg base 4 C "nodes_under" (spBelow U C)) (c_depth_of : Met P w K mg base 5 C "depth_of" (spOf U C rDepth)) (hr : Room 5 (A.deeper (wenv n f cdv))) {Φ : End → Shared → Prop} {t : Addr} {ns : List Str} {par lab : Str → Str}
    {vn : Option V} {H : Hp} {s : Shared} (J : L2.Inv (wcx P w K mg base f cdv A outer n s0 H0 pn) [] [some (.ref t), vn] H s) (hp : MG.TP C H t ns par lab) (hc : TC C H t ns (chS ns par lab)) (D : TD ns par lab)
    (hy : ∀ (it l : Addr) (fp : List Addr) (tn : Nat → Heap → Prop) (x : Str) (v : Value) (s1 : Shared) (H1 : Hp) (T1 : Addr) (vn' : Option V) (h5 : Heap), Turn P w K wTg (Itl K l) fp it tn → H1 l = some (.lst ((pre (chS ns par lab) Rt).map V.str)) → (∀ b ∈ fp, b ≠ n ∧ n ≤ b ∧ ∀ p ∈ pn, p.1 ≠ b) →
      (pre (chS ns par lab) Rt)[0]? = some x → v = .ref T1 → H1 T1 = some (.tup [.int (((W par Rt x).length : Int) - 1), .str x]) → Same H H1 → L2.Inv (wcx P w K mg base f cdv A outer n s0 H0 pn) (pinsAt fp h5) [some (.ref t), vn'] H1 s1 →
      tn 1 s1.heap → (∀ b ∈ fp, H1 b = none ∧ ∃ o, s1.heap.get? b = some o ∧ h5.get? b = some o ∧ ∀ c, o.data ≠ .cell c) → ItemEnd (model P w) it n f cdv Φ v s1)
    (hn : n = (wcx P w K mg base f cdv A outer n s0 H0 pn).s_0.heap.objs.size) :
    SegX (model P w) A Φ (.func (defBody s_walk) (wenv n f cdv)) ((model P w).den (.func (defBody s_walk) (wenv n f cdv))) [] s := by
  have Kd := chS_kids D.T.nd par lab
  obtain ⟨fs0, pp, ad, ob0, hlk, hpl, hk⟩ := hp.ex
  obtain ⟨dx, hdx⟩ := ob0.at_
  obtain ⟨r0, er0, hr0, hr1⟩ := pre_tail D
  refine segx_func ?_
  refine segx_ForL w_body (by intro _; rfl) ?_
  rw [GenW.over_func]
  refine wpAny_mono ((pi_w T c_nodes_under hr).run [] s _ H (fun J H1 => ∃ l, J = Itl K l ∧ H1 l = some (.lst ((pre (chS ns par lab) Rt).map V.str)) ∧ Same H H1) J ?_) (fun v s1 h1 => wpAny_mono h1 (fun itv s2 h2 => ?_) fun _ _ z => z) fun _ _ z => z
  · refine ⟨_, rfl, t, dx, fs0, rfl, hdx, ob0.no _ (by decide), t, .str Rt, ns, par, lab, _, rfl, hp, hc, D, Kd, True.intro, fun m em hm l H1 hl s1 hL => ?_, fun e => ?_⟩
    · cases em
      exact ⟨l, rfl, ⟨_, SqL.of hL⟩, l, rfl, hL, s1⟩
    · rw [knownB_yes (.inl rfl)] at e
      cases e
  · obtain ⟨it, fp, tn, J1, H2, e1, I2, Tu, st2, f2, l, e2, hL, sm⟩ := h2
    subst e1 e2
    intro p
    have hx0 : (pre (chS ns par lab) Rt)[0]? = some Rt := by rw [er0]; rfl
    refine w_turn c_depth_of hr I2 Tu st2 hL f2 ⟨rfl, rfl, fun A' => (GenW.over_loop rfl rfl).trans GenW.over_func, fun A' Φ' s' h => ?_⟩ (hp.same sm) D (fun x hx => pre_in D.T Kd (.inl rfl) hx) (fun x v s1 H1 T1 vn' h5 hx ev hT1 sm1 J1 st1 pin1 => ?_) (fun s1 hx => ?_)
    · exact segx_leaf (.ok .next) (segx_end (.ok (.ret .none)) h)
    · refine hy it l fp tn x v s1 H1 T1 vn' h5 Tu (sm1 _ _ hL) (fun b hb => ?_) hx ev hT1 (sm.trans sm1) J1 st1 pin1
      obtain ⟨g0, g1, g2, g3, g4, g5⟩ := f2 b hb
      refine ⟨g1, ?_, fun p' hp' => g5 p' (List.mem_append_left _ hp')⟩
      rcases g3 with g3 | g3
      · exact absurd (show b ∈ ([] : List Addr) from g3) (by simp)
      · rw [← hn] at g3
        exact g3
    · rw [hx0] at hx
      cases hx
end
/-! ### next -/
theorem next_X {P : Program} {w : World} {A : Around} {E : Value → Shared → Prop} {s : Shared} {a : Addr} {g : Nat} {gs : GenState} {Q : Option Value → Shared → Prop} {Φ : End → Shared → Prop} (calm : A.handled = none) (lim : s.heap.NoLimit) (deep : A.depth < recursionLimit) (gen : s.heap.IsGen a g) (at_ : s.gens[g]? = some gs)
    (run : match gs with
      | .fresh c => SegX (model P w) A.in1 Φ c ((model P w).den c) [] (s.setGen g .running)
      | .suspended k _ c _ fs _ => SegX (model P w) A.in1 Φ c (k (.send .none)) fs (s.setGen g .running)
      | _ => False)
    (ends : ∀ e s₁, Φ e s₁ → (∃ v l k c p fs, e = .susp v false l k c p fs ∧ fs.any Frame.guarded = false ∧ Q (some v) (s₁.setGen g (.suspended k l c p fs false))) ∨
      (e = .ret (.ok (.ret .none)) ∧ ∀ h', (∀ b o, s₁.heap.get? b = some o → h'.get? b = some o) → Q none { s₁.setGen g .finished with heap := h' })) : wpAny (model P w) A (pyNext (.ref a)) Q E s := by
  unfold pyNext
  refine wpAny_bind (wpAny_attempt (wpAny_callSpecial?_slot (name := Str.ofString "__next__") gen.typeIs slot_gen_next (wpAny_call_entry slot_gen_next gen.typeIs entry_gen_next (wpAny_bind (m := holding _ _) (wpAny_holding (wpAny_genNumber gen (wpAny_bind (wpAny_genState at_ ?_))))) (args_gen_next _))))
  cases gs with
  | running => exact run.elim
  | finished => exact run.elim
  | _ =>
    refine wpAny_bind (wpAny_roomToWake lim deep (wpAny_resumeX at_ run (fun e s₁ h => ?_) fun e s₁ h => ?_))
    · rcases ends e s₁ h with ⟨v, l, k, c, p, fs, rfl, ng, _⟩ | ⟨rfl, _⟩
      · exact (congrArg Bool.not ((Bool.false_or _).trans ng) : (!(false || fs.any Frame.guarded)) = !false)
      · rfl
    · rcases ends e s₁ h with ⟨v, l, k, c, p, fs, rfl, ng, q⟩ | ⟨rfl, q⟩
      · have sleeps : (End.susp v false l k c p fs).genState = .suspended k l c p fs false := congrArg (GenState.suspended k l c p fs) ((Bool.false_or _).trans ng)
        rw [sleeps]
        exact wpAny_pure ⟨v, rfl, wpAny_pure q⟩
      · -- the end: StopIteration is made, and caught at once
        refine wpAny_bind (m := newExc (.type "StopIteration") []) ?_
        simp only [newExc, newTuple]
        refine wpAny_bind (wpAny_newObj_type (wpAny_bind (m := firstArgMember _ _) (wpAny_of_eq (a := .none) (by first | rfl | (simp only [firstArgMember]; rfl)) (wpAny_newObj_type ?_ (by size_fits)))) (by size_fits))
        simp only [raiseNew]
        refine wpAny_bind (wpAny_bind (wpAny_handled ?_))
        rw [show A.in1.handled = none from calm]
        exact wpAny_throw (wpAny_bind (wpAny_isInstance (T := "StopIteration") (b := true) ⟨_, Heap.get?_push_size _ rfl, rfl⟩ isSubtype_stop (wpAny_pure (q _ fun b o z => Heap.get?_push_of_some _ (Heap.get?_push_of_some _ z)))))
end MG
/-! text G6 -/
set_option Elab.async false
set_option linter.all false
set_option maxRecDepth 100000
set_option maxHeartbeats 4200000
/-! walk: next, for its consumer -/
namespace MG
open PySem PySem.Spec PyProof.Rows L2
theorem Inv.gens {X : Cx} {pins : List (Addr × Obj)} {σ : L2.St} {H : Hp} {s : Shared} (I : L2.Inv X pins σ H s) {G : Array GenState} (h : AllBare G) : L2.Inv X pins σ H { s with gens := G } :=
  ⟨I.ok, I.os, h, I.base, I.loc, I.cell, I.free, I.freeC, I.pin, I.hok, I.len⟩
theorem Inv.kept' {X : Cx} {pins : List (Addr × Obj)} {σ : L2.St} {H : Hp} {s : Shared} (I : L2.Inv X pins σ H s) {h' : Heap} (k : ∀ b o, s.heap.get? b = some o → h'.get? b = some o) : L2.Inv X pins σ H { s with heap := h' } := I.kept (t' := s.toks) k
theorem fs_stk {X : Cx} {pins : List (Addr × Obj)} {σ : L2.St} {H : Hp} {s : Shared} (I : L2.Inv X pins σ H s) {b : Addr} (hb : b ∈ X.fs) : b ∈ frs X.stack := by
  rcases I.ok.stk with e | ⟨e, hf⟩
  · rw [e]; exact hb
  · rw [e]
    unfold frs
    rw [List.filterMap_cons, hf]
    exact List.mem_cons_of_mem _ hb
theorem stk_not {X : Cx} {pins : List (Addr × Obj)} {σ : L2.St} {H : Hp} {s : Shared} (I : L2.Inv X pins σ H s) {b : Addr} (h1 : b ≠ X.env.locals) (h2 : b ∉ X.fs) : b ∉ frs X.stack := fun hb => by
  rcases List.mem_cons.mp (I.stkSub b hb) with e | e
  · exact h1 e
  · exact h2 e
/-- what does not change while walk's generator lives -/
structure WFix (X : Cx) (n : Nat) (a : Addr) (Ad : List Addr) : Prop where
  n0 : X.s_0.heap.objs.size ≤ n
  nb : X.base.objs.size ≤ n
  st : ∀ b ∈ frs X.stack, b < n
  cl : ∀ x c, X.env.cells.lookup x = some c → c < n
  nA : n ∉ Ad
  aA : a ∈ Ad
  lA : X.env.locals ∈ frs X.stack ∨ X.env.locals ∈ Ad
/-- walk's generator sleeps ahead of the i-th item -/
structure Slp (P : Program) (w : World) (K : PySem.W.Frag) (n : Nat) (f : Addr) (cdv : Value) (a : Addr) (g : Nat) (t : Addr) (ord : List Str) (Ad : List Addr) (i : Nat) (gp : List (Addr × Obj)) (s : Shared) (H : Hp) : Prop where
  ex : ∃ go oL gq m u nm qn, gp = (a, go) :: (n, oL) :: gq ∧ go.cls = .type "generator" ∧ go.data = .fields #[.int g 0, nm, qn] ∧ go.slots = #[] ∧ s.heap.get? a = some go ∧ s.heap.get? n = some oL ∧ s.heap.Ns n m ∧ m "self" = some u ∧ RelV (.ref t) u ∧
    ((i = 0 ∧ gq = [] ∧ s.gens[g]? = some (.fresh (.func (defBody s_walk) (wenv n f cdv)))) ∨ ∃ it l fp tn gs h5, Turn P w K wTg (Itl K l) fp it tn ∧ tn i s.heap ∧ H l = some (.lst (ord.map V.str)) ∧ (∀ b ∈ fp, b ≠ n ∧ n ≤ b ∧ b ∉ Ad) ∧ gq = pinsAt fp h5 ∧
      (∀ b ∈ fp, ∃ o, h5.get? b = some o ∧ s.heap.get? b = some o) ∧ s.gens[g]? = some gs ∧ Ready (model P w) it n f cdv gs)
section
variable {X : Cx} {C U : Addr} {n : Nat} {f : Addr} {cdv : Value} {a : Addr} {g : Nat} {t : Addr} {Ad : List Addr} {i : Nat} {pins0 gp kp : List (Addr × Obj)} {σ : L2.St} {H : Hp} {s : Shared} {ns : List Str} {par lab : Str → Str} {A : Around} {E : Value → Shared → Prop} {Q : Option Value → Shared → Prop}
/-- the extra ones that are kept -/
def Kp (X : Cx) (kp : List (Addr × Obj)) (s : Shared) (H : Hp) : Prop := ∀ p ∈ kp, s.heap.get? p.1 = some p.2 ∧ H p.1 = none ∧ p.1 ∉ frs X.stack ∧ ∀ v, p.2.data ≠ .cell v
theorem walk_next (T : Txt X.K X.mg C) (c_nodes_under : Met X.prog X.w X.K X.mg X.base 4 C "nodes_under" (spBelow U C)) (c_depth_of : Met X.prog X.w X.K X.mg X.base 5 C "depth_of" (spOf U C rDepth)) (D : TD ns par lab)
    (hr : Room 7 A) (hA : A.frames = some X.stack) (B : WFix X n a Ad) (I : L2.Inv X (pins0 ++ gp) σ H s) (hkp : Kp X kp s H) (hAd : ∀ p ∈ X.pn ++ pins0 ++ kp, p.1 ∈ Ad ∧ p.1 ≠ a) (hloc : X.env.locals ∈ frs X.stack ∨ ∃ o, (X.env.locals, o) ∈ kp) (hcov : i = 0 → ∀ b ∈ Ad, b = a ∨ ∃ p ∈ X.pn ++ pins0 ++ kp, p.1 = b)
    (S : Slp X.prog X.w X.K n f cdv a g t (pre (chS ns par lab) Rt) Ad i gp s H) (hT : TreeOk C H t ns par lab)
    (h1 : ∀ (x : Str) (T1 : Addr) (H1 : Hp) (gp' : List (Addr × Obj)) (s1 : Shared), (pre (chS ns par lab) Rt)[i]? = some x → H1 T1 = some (.tup [.int (((W par Rt x).length : Int) - 1), .str x]) → Same H H1 → L2.Inv X (pins0 ++ gp') σ H1 s1 →
      Slp X.prog X.w X.K n f cdv a g t (pre (chS ns par lab) Rt) Ad (i + 1) gp' s1 H1 → Kp X kp s1 H1 → (∃ it gs, s1.gens[g]? = some gs ∧ Ready (model X.prog X.w) it n f cdv gs) → Q (some (.ref T1)) s1)
    (h2 : ∀ s1, (pre (chS ns par lab) Rt)[i]? = none → L2.Inv X pins0 σ H s1 → Kp X kp s1 H → Q none s1) : wpAny (model X.prog X.w) A (pyNext (.ref a)) Q E s := by
  obtain ⟨go, oL, gq, m, u, nm, qn, rfl, hgc, hgd, hgs, hga, hgn, hns, hmu, ru, hst⟩ := S.ex
  have hgl : g < s.gens.size := by
    rcases hst with ⟨_, _, h⟩ | ⟨_, _, _, _, _, _, _, _, _, _, _, _, h, _⟩ <;> exact (Array.getElem?_eq_some_iff.mp h).1
  have hnsz : n ≤ s.heap.objs.size := Nat.le_of_lt (Heap.lt_size hgn)
  have ane : a ≠ n := fun e => B.nA (e ▸ B.aA)
  have I' : L2.Inv X (pins0 ++ (a, go) :: (n, oL) :: gq) σ H (s.setGen g .running) := Inv.gens I (allBare_setGen I.bare rfl)
  have Is : L2.Inv X pins0 σ H (s.setGen g .running) := I'.pins_of fun p hp => I'.pin p (List.mem_append_right _ (List.mem_append_left _ hp))
  obtain ⟨pnw, epn⟩ : ∃ pnw, pnw = (a, go) :: (X.pn ++ pins0 ++ kp) := ⟨_, rfl⟩
  have pinw : ∀ p ∈ pnw ++ [], (s.setGen g .running).heap.get? p.1 = some p.2 ∧ H p.1 = none ∧ p.1 ≠ n ∧ p.1 ∉ frs X.stack ∧ ∀ v, p.2.data ≠ .cell v := fun p hp => by
    rw [List.append_nil, epn] at hp
    rcases List.mem_cons.mp hp with rfl | hp
    · obtain ⟨q1, q2, q3, q4, q5⟩ := I'.pin (a, go) (List.mem_append_right _ (List.mem_append_right _ List.mem_cons_self))
      exact ⟨q1, q2, ane, stk_not I' q3 q4, q5⟩
    · have hne : p.1 ≠ n := fun e => B.nA (e ▸ (hAd p hp).1)
      rcases List.mem_append.mp hp with hp | hp
      · obtain ⟨q1, q2, q3, q4, q5⟩ := I'.pin p (by
          rcases List.mem_append.mp hp with h | h
          · exact List.mem_append_left _ h
          · exact List.mem_append_right _ (List.mem_append_left _ h))
        exact ⟨q1, q2, hne, stk_not I' q3 q4, q5⟩
      · obtain ⟨q1, q2, q3, q4⟩ := hkp p hp
        exact ⟨q1, q2, hne, q3, q4⟩
  have nLoc : n ≠ X.env.locals ∧ n ∉ X.fs ∧ H n = none := by
    obtain ⟨_, q2, q3, q4, _⟩ := I'.pin (n, oL) (List.mem_append_right _ (List.mem_append_right _ (List.mem_cons_of_mem _ List.mem_cons_self)))
    exact ⟨q3, q4, q2⟩
  have Jw : L2.Inv (wcx X.prog X.w X.K X.mg X.base f cdv A.in1 X.stack n (s.setGen g .running) H pnw) [] [some (.ref t), none] H (s.setGen g .running) :=
    inv_wake I' hnsz B.nb B.st (A := A.in1) hA hr.hd f cdv rfl hns nLoc.2.2 (fun i x v e1 e2 => by
      match i, e1, e2 with
      | 0, e1, e2 => obtain rfl := Option.some.inj e1; obtain rfl := Option.some.inj (Option.some.inj e2); exact ⟨u, ru, hmu⟩
      | 1, e1, e2 => cases Option.some.inj e2
      | (i + 2), e1, e2 => exact absurd (show ([] : List Str)[i]? = some x from e1) (by simp)) pinw
  have hpn : ∀ p ∈ X.pn ++ pins0, p ∈ pnw ++ [] := fun p hp => by
    rw [List.append_nil, epn]
    exact List.mem_cons_of_mem _ (List.mem_append_left _ hp)
  have hlocw : X.env.locals ∈ frs X.stack ∨ ∃ o, (X.env.locals, o) ∈ pnw ++ [] := hloc.imp id fun ⟨o, h⟩ => ⟨o, by
    rw [List.append_nil, epn]
    exact List.mem_cons_of_mem _ (List.mem_append_right _ h)⟩
  have back : ∀ {pw : List (Addr × Obj)} {σw : L2.St} {H1 : Hp} {s1 : Shared}, L2.Inv (wcx X.prog X.w X.K X.mg X.base f cdv A.in1 X.stack n (s.setGen g .running) H pnw) pw σw H1 s1 → Same H H1 → L2.Inv X pins0 σ H1 s1 ∧ Kp X kp s1 H1 ∧ s1.heap.get? a = some go ∧ H1 a = none := fun {pw σw H1 s1} J sm => by
    have J0 : L2.Inv (wcx X.prog X.w X.K X.mg X.base f cdv A.in1 X.stack n (s.setGen g .running) H pnw) [] σw H1 s1 := J.pins_of fun p hp => by simp at hp
    refine ⟨inv_back Is hnsz B.n0 B.st rfl rfl J0 sm (fun p hp => (pinw p hp).1) hpn hlocw B.cl, fun p hp => ?_, ?_⟩
    · obtain ⟨q1, q2, _⟩ := J.pin p (List.mem_append_left _ (by rw [show (wcx X.prog X.w X.K X.mg X.base f cdv A.in1 X.stack n (s.setGen g .running) H pnw).pn = pnw from rfl, epn]; exact List.mem_cons_of_mem _ (List.mem_append_right _ hp)))
      exact ⟨q1, q2, (hkp p hp).2.2⟩
    · obtain ⟨q1, q2, _⟩ := J.pin (a, go) (List.mem_append_left _ (by rw [show (wcx X.prog X.w X.K X.mg X.base f cdv A.in1 X.stack n (s.setGen g .running) H pnw).pn = pnw from rfl, epn]; exact List.mem_cons_self))
      exact ⟨q1, q2⟩
  refine GenW.wpAny_gsz (n := g + 1) hgl ?_
  obtain ⟨Φ, eΦ⟩ : ∃ Φ : End → Shared → Prop, Φ = fun e s₁ => (∃ v l k c p fs, e = .susp v false l k c p fs ∧ fs.any Frame.guarded = false ∧ (g + 1 ≤ (s₁.setGen g (.suspended k l c p fs false)).gens.size → Q (some v) (s₁.setGen g (.suspended k l c p fs false)))) ∨
      (e = .ret (.ok (.ret .none)) ∧ ∀ h', (∀ b o, s₁.heap.get? b = some o → h'.get? b = some o) → (g + 1 ≤ (s₁.setGen g .finished).gens.size → Q none { s₁.setGen g .finished with heap := h' })) := ⟨_, rfl⟩
  have after : ∀ (it l : Addr) (fp : List Addr) (tn : Nat → Heap → Prop) (x : Str) (v : Value) (s1 : Shared) (H1 : Hp) (T1 : Addr) (vn' : Option V) (h5 : Heap), Turn X.prog X.w X.K wTg (Itl X.K l) fp it tn → H1 l = some (.lst ((pre (chS ns par lab) Rt).map V.str)) → (∀ b ∈ fp, b ≠ n ∧ n ≤ b ∧ b ∉ Ad) →
      (pre (chS ns par lab) Rt)[i]? = some x → v = .ref T1 → H1 T1 = some (.tup [.int (((W par Rt x).length : Int) - 1), .str x]) → Same H H1 → L2.Inv (wcx X.prog X.w X.K X.mg X.base f cdv A.in1 X.stack n (s.setGen g .running) H pnw) (pinsAt fp h5) [some (.ref t), vn'] H1 s1 →
      tn (i + 1) s1.heap → (∀ b ∈ fp, H1 b = none ∧ ∃ o, s1.heap.get? b = some o ∧ h5.get? b = some o ∧ ∀ c, o.data ≠ .cell c) → ItemEnd (model X.prog X.w) it n f cdv Φ v s1 := by
    intro it l fp tn x v s1 H1 T1 vn' h5 Tu hl hfp hx ev hT1 sm J st1 pin1 k l' p fs rdy grd
    subst ev
    rw [eΦ]
    refine .inl ⟨_, l', k, _, p, fs, rfl, grd, fun hsz => ?_⟩
    rw [GenW.setGen_size] at hsz
    obtain ⟨Ib, kb, ha1, ha2⟩ := back J sm
    obtain ⟨m', hns', hlk⟩ := J.loc
    obtain ⟨u', ru', hlook⟩ := hlk 0 "self" (.ref t) rfl rfl (.inl rfl)
    have hm' : m' "self" = some u' := by
      rcases hlook with ⟨_, h⟩ | ⟨h, _⟩
      · exact h
      · have e : (wenv n f cdv).kindOf "self" = some .local := rfl
        rcases h with h | h
        · have h : (wenv n f cdv).kindOf "self" = some .cell := h
          rw [e] at h; cases h
        · have h : (wenv n f cdv).kindOf "self" = some .free := h
          rw [e] at h; cases h
    obtain ⟨oL', es', ep', hoL', hdL', _⟩ := id hns'
    have hfree : H1 n = none := J.free
    have Ig : L2.Inv X pins0 σ H1 (s1.setGen g (.suspended k l' (Cg it n f cdv) p fs false)) := Inv.gens Ib (allBare_setGen J.bare rfl)
    refine h1 x T1 H1 ((a, go) :: (n, oL') :: pinsAt fp h5) _ hx hT1 sm (Ig.pins_of fun q hq => ?_) ⟨go, oL', pinsAt fp h5, m', u', nm, qn, rfl, hgc, hgd, hgs, ha1, hoL', hns', hm', ru', .inr ⟨it, l, fp, tn, _, h5, Tu, st1, hl, hfp, rfl, fun b hb => ?_, setGen_at (by omega), rdy⟩⟩ kb ⟨it, _, setGen_at (by omega), rdy⟩
    · rcases List.mem_append.mp hq with hq | hq
      · exact Ig.pin q (List.mem_append_right _ hq)
      · rcases List.mem_cons.mp hq with rfl | hq
        · obtain ⟨_, _, q3, q4, q5⟩ := I'.pin (a, go) (List.mem_append_right _ (List.mem_append_right _ List.mem_cons_self))
          exact ⟨ha1, ha2, q3, q4, q5⟩
        · rcases List.mem_cons.mp hq with rfl | hq
          · exact ⟨hoL', hfree, nLoc.1, nLoc.2.1, fun v z => by rw [show oL'.data = _ from hdL'] at z; cases z⟩
          · obtain ⟨hb, e5⟩ := of_pinsAt hq
            obtain ⟨hb1, o, e6, e7, dc⟩ := pin1 q.1 hb
            rw [e5] at e7
            obtain rfl := Option.some.inj e7
            obtain ⟨f1, f2, f3⟩ := hfp q.1 hb
            refine ⟨e6, hb1, fun e => ?_, fun h => ?_, dc⟩
            · rcases B.lA with h | h
              · exact absurd (B.st _ h) (by rw [← e]; exact Nat.not_lt.mpr f2)
              · exact f3 (e ▸ h)
            · exact absurd (B.st _ (fs_stk I' h)) (Nat.not_lt.mpr f2)
    · obtain ⟨hb1, o, e6, e7, _⟩ := pin1 b hb
      exact ⟨o, e7, e6⟩
  have hr5 : Room 5 (A.in1.deeper (wenv n f cdv)) := (hr.in1.deeper _).mono (by omega)
  rcases hst with ⟨rfl, rfl, hgen⟩ | ⟨it, l, fp, tn, gs, h5, Tu, st, hl, hfp, rfl, hh5, hgen, k, l', p, fs, rfl, fok, hk⟩
  · refine next_X (Φ := Φ) hr.hd I.nolimit (by have := hr.dp; omega) ⟨go, nm, qn, hga, hgc, hgd, hgs⟩ hgen ?_ fun e s₁ h => by rw [eΦ] at h; exact h
    refine w_start T c_nodes_under c_depth_of hr5 Jw hT.tp hT.tc D (fun it l fp tn x v s1 H1 T1 vn' h5 Tu hl hfp hx ev hT1 sm J st1 pin1 => ?_) ?_
    · refine after it l fp tn x v s1 H1 T1 vn' h5 Tu hl (fun b hb => ?_) hx ev hT1 sm J st1 pin1
      obtain ⟨q1, q2, q3⟩ := hfp b hb
      refine ⟨q1, q2, fun hb' => ?_⟩
      rcases hcov rfl b hb' with e | ⟨p, hp, e⟩
      · exact q3 (a, go) (by rw [epn]; exact List.mem_cons_self) e.symm
      · exact q3 p (by rw [epn]; exact List.mem_cons_of_mem _ hp) e
    · exact (cut_size (h := s.heap) hnsz).symm
  · refine next_X (Φ := Φ) hr.hd I.nolimit (by have := hr.dp; omega) ⟨go, nm, qn, hga, hgc, hgd, hgs⟩ hgen ?_ fun e s₁ h => by rw [eΦ] at h; exact h
    refine hk _ _ _ (segx_again rfl ?_)
    refine w_turn c_depth_of hr5 Jw Tu st hl (fun b hb => ?_) fok hT.tp D (fun x hx => pre_in D.T (chS_kids D.T.nd par lab) (.inl rfl) hx) (fun x v s1 H1 T1 vn' h6 hx ev hT1 sm J st1 pin1 => ?_) (fun s1 hx J => ?_)
    · obtain ⟨o, e1, e2⟩ := hh5 b hb
      obtain ⟨q1, q2, q3, q4, q5⟩ := I'.pin (b, o) (List.mem_append_right _ (List.mem_append_right _ (List.mem_cons_of_mem _ (List.mem_cons_of_mem _ (mem_pinsAt hb e1)))))
      obtain ⟨f1, f2, f3⟩ := hfp b hb
      refine ⟨q2, f1, stk_not I' q3 q4, .inr ?_, fun x c h => ?_, fun p hp e => ?_⟩
      · exact Nat.le_trans (Nat.le_of_eq (cut_size (h := s.heap) hnsz)) f2
      · have h : (wenv n f cdv).cells.lookup x = some c := h
        rw [wcells] at h
        cases h
      · have hp : p ∈ pnw ++ [] := hp
        rw [List.append_nil, epn] at hp
        rcases List.mem_cons.mp hp with rfl | hp
        · exact f3 (e ▸ B.aA)
        · exact f3 (e ▸ (hAd p hp).1)
    · exact after it l fp tn x v s1 H1 T1 vn' h6 Tu (sm _ _ hl) hfp hx ev hT1 sm (by simpa using J) st1 pin1
    · rw [eΦ]
      obtain ⟨Ib, kb, _⟩ := back J (Same.refl H)
      refine .inr ⟨rfl, fun h' hk' _ => ?_⟩
      have Ig : L2.Inv X pins0 σ H (s1.setGen g .finished) := Inv.gens Ib (allBare_setGen J.bare rfl)
      exact h2 _ hx (Inv.kept' Ig hk') fun p hp => ⟨hk' _ _ (kb p hp).1, (kb p hp).2⟩
end
end MG
/-! text G7 -/
set_option Elab.async false
set_option linter.all false
set_option maxRecDepth 100000
set_option maxHeartbeats 4200000
/-! walk: its call -/
namespace MG
open PySem PySem.Spec PyProof.Rows L2
/-- walk may be called -/
structure WkOk (K : PySem.W.Frag) (C : Addr) (f : Addr) (cdv : Value) : Prop where
  ex : ∃ oc od kV doc pm an ct osl, K.lookup f = some ⟨oc, od, .func (PySem.W.fnOf "walk" "Tree.walk" (defArgs s_walk) (defBody s_walk) (defScope s_walk) .none kV doc pm an cdv ct), osl⟩ ∧ PySem.W.codeIn K cdv "Tree.walk" = true ∧
    Binds K (PySem.W.fnOf "walk" "Tree.walk" (defArgs s_walk) (defBody s_walk) (defScope s_walk) .none kV doc pm an cdv ct) ["self"] []
  cl : Cls K C
  m : Meth K C "walk" f
theorem gs_walk : GScope ["self", "node"] ["self"] (defScope s_walk) := ⟨rfl, rfl, rfl, by decide +kernel, rfl, by decide +kernel, by decide +kernel⟩
theorem wk_of {K : PySem.W.Frag} {C f : Addr} {fd : FuncData} (F : Fun K "walk" "Tree.walk" s_walk f fd) (c : Cls K C) (m : Meth K C "walk" f) : ∃ cdv, WkOk K C f cdv := by
  have hb := F.binds (ps := ["self"]) fun _ _ _ _ _ _ us hl => match us, hl with | [_], _ => rfl
  obtain ⟨oc, od, kV, doc, pm, an, cdv, ct, slots, rfl, lk, hcd⟩ := F.ex
  exact ⟨cdv, ⟨oc, od, kV, doc, pm, an, ct, slots, lk, hcd, hb⟩, c, m⟩
/-- a generator of walk, made in the state sA (its heap's size is the frame's address) -/
structure WMade (X : Cx) (f : Addr) (cdv : Value) (pins : List (Addr × Obj)) (σ : L2.St) (H : Hp) (sA : Shared) (t : Addr) (u : Value) (s' : Shared) : Prop where
  ex : ∃ (a g : Addr) (go oL : Obj), u = .ref a ∧ L2.Inv X (pins ++ [(a, go), (sA.heap.objs.size, oL)]) σ H s' ∧ L2.Inv X pins σ H sA ∧ (∀ b o, sA.heap.get? b = some o → s'.heap.get? b = some o) ∧ sA.heap.objs.size < a ∧ a < s'.heap.objs.size ∧ s'.os = sA.os ∧
    go.cls = .type "generator" ∧ (∃ vs, go.data = .fields vs) ∧ s'.heap.IsGen a g ∧ ∀ ord Ad, Slp X.prog X.w X.K sA.heap.objs.size f cdv a g t ord Ad 0 [(a, go), (sA.heap.objs.size, oL)] s' H
section
variable {X : Cx} {C : Addr} {f : Addr} {cdv : Value} {o : Expr} {ta : TE} {pos apos : Pos} {pins : List (Addr × Obj)} {σ : L2.St} {H : Hp} {s : Shared} {R : Addr → Hp → Prop}
theorem walk_made {pl : Sem Bool} (W : WkOk X.K C f cdv) (hr : Room 2 X.A) (he : PE X o ta)
    (ht : IsMeth X o "walk" [] apos pos pl := by rfl)
    (I : L2.Inv X pins σ H s) (h : ta σ H fun x H1 => ∃ t dx fs, x = .ref t ∧ H1 t = some (.ins C dx fs) ∧ fs.lookup ("walk" : Str) = none ∧ R t H1) :
    wpAny (model X.prog X.w) X.A (eval (.Call (.Attribute o "walk" apos) [] [] pos) X.env) (fun u s' => ∃ t sA H1, WMade X f cdv pins σ H1 sA t u s' ∧ R t H1) X.xe s := by
  obtain ⟨oc, od, kV, doc, pm, an, ct, osl, lk, hcd, hb⟩ := W.ex
  refine PySem.W.methodCall_KW (pl := pl) (thn (he.run pins s σ H _ I h) fun u s1 ⟨x, H1, I1, rx, t, dx, fs, ex, ea, l, q⟩ => ?_) ht
  subst ex
  obtain rfl : u = Value.ref t := rx
  refine getmeth_ok I1 ea W.cl W.m l ?_
  refine PySem.W.callWith_K0 (first := [.ref t]) I1.kIn W.m.kp (wpAny_call ?_)
  have KX : X.K.In s1.heap := I1.kIn
  have lim : s1.heap.NoLimit := I1.nolimit
  refine codeAny_call_generator hr.depth (KX _ _ lk) rfl rfl rfl rfl (PySem.W.codeRec_of KX hcd) (hb s1 [.ref t] KX rfl _ _ _ _ ?_)
  have hkind : ∀ y ∈ (["self"] : List Str).zip ([Value.ref t] ++ []), (defScope s_walk).names.lookup y.1 = some .local ∨ ((defScope s_walk).names.lookup y.1 = some .cell ∧ ((cellsFrom (s1.heap.objs.size + 1) (defScope s_walk).names []).lookup y.1).isSome = true) := fun y hy => by
    have e : y = (("self" : Str), Value.ref t) := by simpa using hy
    subst e
    exact .inl rfl
  refine wpAny_newFunctionEnv_cells gs_walk.kind hkind fun env he s2 x => ?_
  subst he
  have lim1 : s2.heap.NoLimit := lim.keeps x.toInCall.keep
  refine ⟨lim1, ?_⟩
  obtain ⟨h1, tk, es1, hk1⟩ := x.done
  have kp1 : ∀ b o, s1.heap.get? b = some o → s2.heap.get? b = some o := x.toInCall.keep
  have lt1 : s1.heap.objs.size < s2.heap.objs.size := x.toInCall.ns.lt
  have ns2 := x.toInCall.ns
  have hm : bindL (wenv s1.heap.objs.size f cdv).kindOf ((["self"] : List Str).zip [.ref t]) (fun _ => none) "self" = some (Value.ref t) :=
    bindL_get (P := (["self"] : List Str)) (by decide) (i := 0) rfl rfl rfl
  obtain ⟨oL, es, ep, hoL, hdL, _⟩ := id ns2
  have I2 : L2.Inv X pins σ H1 s2 := by
    rw [es1]
    exact I1.kept (t' := tk) hk1
  have key : ∀ (go : Obj) (nm qn : Value) (tk2 : Nat), go.cls = .type "generator" → go.data = .fields #[.int s2.gens.size 0, nm, qn] → go.slots = #[] → (∀ h : Heap, (h.push go).get? h.objs.size = some go) →
      WMade X f cdv pins σ H1 s1 t (.ref s2.heap.objs.size) { s2 with gens := s2.gens.push (.fresh (.func (defBody s_walk) (wenv s1.heap.objs.size f cdv))), toks := tk2, heap := s2.heap.push go } := by
    intro go nm qn tk2 hgc hgd hgs hgp
    have hpushed : (s2.heap.push go).get? s2.heap.objs.size = some go := hgp _
    have kp2 : ∀ b o, s2.heap.get? b = some o → (s2.heap.push go).get? b = some o := fun b o e => Heap.get?_push_of_some _ e
    have I3 : L2.Inv X pins σ H1 { s2 with gens := s2.gens.push (.fresh (.func (defBody s_walk) (wenv s1.heap.objs.size f cdv))), toks := tk2, heap := s2.heap.push go } :=
      Inv.gens (I2.kept (t' := tk2) kp2) (AllBare.push I2.bare rfl)
    have hn1 : H1 s1.heap.objs.size = none := I1.hok.fresh (Nat.le_refl _)
    have hn2 : H1 s2.heap.objs.size = none := I2.hok.fresh (Nat.le_refl _)
    obtain ⟨_, f1, f2, _⟩ := I1.fpOk (b := s1.heap.objs.size) (Nat.le_refl _) hn1
    obtain ⟨_, g1, g2, _⟩ := I2.fpOk (b := s2.heap.objs.size) (Nat.le_refl _) hn2
    refine ⟨s2.heap.objs.size, s2.gens.size, go, oL, rfl, I3.pins_of fun p hp => ?_, I1, fun b o e => kp2 _ _ (kp1 _ _ e), lt1, ?_, ?_, hgc, ⟨_, hgd⟩, ⟨go, nm, qn, hpushed, hgc, hgd, hgs⟩, fun ord Ad => ?_⟩
    · rcases List.mem_append.mp hp with hp | hp
      · exact I3.pin p (List.mem_append_right _ hp)
      · rcases List.mem_cons.mp hp with rfl | hp
        · exact ⟨hpushed, hn2, g1, g2, fun v z => by rw [show go.data = _ from hgd] at z; cases z⟩
        · rcases List.mem_cons.mp hp with rfl | hp
          · exact ⟨kp2 _ _ hoL, hn1, f1, f2, fun v z => by rw [show oL.data = _ from hdL] at z; cases z⟩
          · cases hp
    · show _ < (s2.heap.push go).objs.size
      rw [Heap.size_push]; exact Nat.lt_succ_self _
    · rw [es1]
    · exact ⟨go, oL, [], _, .ref t, nm, qn, rfl, hgc, hgd, hgs, hpushed, kp2 _ _ hoL, ns2.at fun o e => kp2 _ _ e, hm, rfl, .inl ⟨rfl, rfl, Array.getElem?_push_size ..⟩⟩
  exact ⟨t, s1, H1, key _ _ _ _ rfl rfl rfl fun h => Heap.get?_push_size _ rfl, q⟩
end
end MG
/-! text G8 -/
set_option Elab.async false
set_option linter.all false
set_option maxRecDepth 100000
set_option maxHeartbeats 4200000
/-! for over walk() -/
namespace MG
open PySem PySem.Spec PyProof.Rows L2
/-- the walk's order -/
abbrev ordW (ns : List Str) (par lab : Str → Str) : List Str := pre (chS ns par lab) Rt
section
variable {X : Cx} {C U : Addr} {f : Addr} {cdv : Value}
/-- for target in o.walk(): body -/
def tForW (C : Addr) (ta : TE) (gt : TG) (tb : TS) : TS := fun D σ H => ta σ H fun x H1 => ∃ t dx fs, x = .ref t ∧ H1 t = some (.ins C dx fs) ∧ fs.lookup ("walk" : Str) = none ∧ ∃ (ns : List Str) (par lab : Str → Str) (Pv : Nat → L2.St → Hp → Prop), TreeOk C H1 t ns par lab ∧ TD ns par lab ∧
  Pv 0 σ H1 ∧ (∀ i σ' H2 H3, Same H2 H3 → Pv i σ' H2 → Pv i σ' H3) ∧
  (∀ (i : Nat) (x : Str) (T1 : Addr) (σ' : L2.St) (H2 : Hp), (ordW ns par lab)[i]? = some x → Same H1 H2 → Pv i σ' H2 → H2 T1 = some (.tup [.int (((W par Rt x).length : Int) - 1), .str x]) →
    gt (.ref T1) σ' H2 fun σ3 H3 => Same H2 H3 ∧ tb { D with nx := fun σ4 H4 => Same H2 H4 ∧ Pv (i + 1) σ4 H4, ct := fun σ4 H4 => Same H2 H4 ∧ Pv (i + 1) σ4 H4, bk := D.nx } σ3 H3) ∧
  ∀ σ' H2, Same H1 H2 → Pv (ordW ns par lab).length σ' H2 → D.nx σ' H2
/-- what a run of HandS tells, told of the sleepers too -/
theorem run_asleep {α : Type} {A : Around} {t : Sem α} {Q : α → Shared → Prop} {E : Value → Shared → Prop} {s : Shared} (hb : AllBare s.gens) (h : wpAny (model X.prog X.w) A t Q E (killed s)) (hE : ∀ e s', E e s' → False)
    {Q' : α → Shared → Prop} (hQ : ∀ a s0, Q a s0 → Dd s.gens s0 → Q' a (back s.gens s0)) {E' : Value → Shared → Prop} : wpAny (model X.prog X.w) A t Q' E' s :=
  wpAny_mono (wpAny_asleep h) (fun a s' ⟨s0, e, d, q⟩ => by rw [e]; exact hQ a s0 q d) fun e s' ⟨s0, _, _, q⟩ => (hE e s0 q).elim
theorem Slp.keep {P : Program} {w : World} {K : PySem.W.Frag} {n : Nat} {a g t : Addr} {ord : List Str} {Ad : List Addr} {i : Nat} {gp : List (Addr × Obj)} {s s' : Shared} {H H' : Hp} (S : Slp P w K n f cdv a g t ord Ad i gp s H) (k : ∀ p ∈ gp, s'.heap.get? p.1 = some p.2) (hs : Same H H') (hg : s'.gens[g]? = s.gens[g]?) : Slp P w K n f cdv a g t ord Ad i gp s' H' := by
  obtain ⟨go, oL, gq, m, u, nm, qn, rfl, h1, h2, h3, h4, h5, h6, h7, h8, h9⟩ := S.ex
  refine ⟨go, oL, gq, m, u, nm, qn, rfl, h1, h2, h3, k (a, go) List.mem_cons_self, k (n, oL) (List.mem_cons_of_mem _ List.mem_cons_self), h6.at fun o e => ?_, h7, h8, ?_⟩
  · rw [h5] at e
    cases e
    exact k (n, oL) (List.mem_cons_of_mem _ List.mem_cons_self)
  · rcases h9 with ⟨e1, e2, e3⟩ | ⟨it, l, fp, tn, gs, hh, q1, q2, q3, q4, q5, q6, q7, q8⟩
    · exact .inl ⟨e1, e2, by rw [hg]; exact e3⟩
    · have pk : ∀ b ∈ fp, ∀ o, s.heap.get? b = some o → s'.heap.get? b = some o := fun b hb o e => by
        obtain ⟨o', e1, e2⟩ := q6 b hb
        rw [e] at e2
        cases e2
        subst q5
        exact k (b, o) (List.mem_cons_of_mem _ (List.mem_cons_of_mem _ (mem_pinsAt hb e1)))
      refine .inr ⟨it, l, fp, tn, gs, hh, q1, q1.keep _ _ _ q2 pk, hs _ _ q3, q4, q5, fun b hb => ?_, by rw [hg]; exact q7, q8⟩
      obtain ⟨o', e1, e2⟩ := q6 b hb
      exact ⟨o', e1, pk b hb _ e2⟩
theorem ps_forW {pl : Sem Bool} {tg o : Expr} {apos cpos pos : Pos} {body : List Stmt} {ta : TE} {gt : TG} {tb : TS} (T : Txt X.K X.mg C) (c_nodes_under : Met X.prog X.w X.K X.mg X.base 4 C "nodes_under" (spBelow U C)) (c_depth_of : Met X.prog X.w X.K X.mg X.base 5 C "depth_of" (spOf U C rDepth))
    (Wk : WkOk X.K C f cdv) (hr : Room 7 X.A) (hx_ : ∀ e s, X.xe e s → False) (hxo : PassesOwn (model X.prog X.w) X.A X.env X.xe) (hdef : X.env.locals ∈ frs X.stack) (hc : X.calm = true) (he : PE X o ta) (hg : PG X tg gt) (hb : PSs X body tb)
    (ht : IsMeth X o "walk" [] apos cpos pl)
    (hs : ∀ x, foldedSetIterable (.Call (.Attribute o "walk" apos) [] [] cpos) X.env x = pure x := by intro _; rfl) : PS X (.For tg (.Call (.Attribute o "walk" apos) [] [] cpos) body [] pos) (tForW C ta gt tb) := by
  refine ⟨fun pins s σ H D I h => ?_⟩
  refine wpAny_For (thn (walk_made Wk (hr.mono (by omega)) he ht I h) fun u s1 ⟨t, sA, H1, M, ns, par, lab, Pv, hT, D', h0, hst, hstep, hend⟩ => ?_) hs
  obtain ⟨a, g, go, oL, rfl, I1, IA, kpA, lt1, lt2, hos, hgc, hgd, hgen, hslp⟩ := M.ex
  refine wpAny_pyIter_gen hgen ?_
  have pinlt : ∀ p ∈ X.pn ++ pins, p.1 < sA.heap.objs.size := fun p hp => Heap.lt_size (IA.pin p hp).1
  have B : WFix X sA.heap.objs.size a (a :: (X.pn ++ pins).map (·.1)) := by
    refine ⟨IA.sz, Nat.le_trans IA.ok.bsz IA.sz, frs_lt IA (Nat.le_refl _), fun x c e => ?_, fun hm => ?_, List.mem_cons_self, .inl hdef⟩
    · obtain ⟨v, o, ho, _⟩ := IA.cell x c e
      exact Heap.lt_size ho
    · rcases List.mem_cons.mp hm with e | hm
      · rw [e] at lt1; exact absurd lt1 (Nat.lt_irrefl _)
      · obtain ⟨p, hp, e⟩ := List.mem_map.mp hm
        have := pinlt p hp
        rw [e] at this
        exact absurd this (Nat.lt_irrefl _)
  have hAd : ∀ p ∈ X.pn ++ pins ++ [], p.1 ∈ a :: (X.pn ++ pins).map (·.1) ∧ p.1 ≠ a := fun p hp => by
    rw [List.append_nil] at hp
    refine ⟨List.mem_cons_of_mem _ (List.mem_map_of_mem (f := (·.1)) hp), fun e => ?_⟩
    have := pinlt p hp
    rw [e] at this
    exact absurd (Nat.lt_trans lt1 this) (Nat.lt_irrefl _)
  refine codeAny_forLoop_any (fun m s' => ∃ i σ' H' gp, m = (ordW ns par lab).length - i ∧ i ≤ (ordW ns par lab).length ∧ L2.Inv X (pins ++ gp) σ' H' s' ∧ Slp X.prog X.w X.K sA.heap.objs.size f cdv a g t (ordW ns par lab) (a :: (X.pn ++ pins).map (·.1)) i gp s' H' ∧ Same H1 H' ∧ Pv i σ' H') ?_ _
    ⟨0, σ, H1, _, rfl, Nat.zero_le _, I1, hslp _ _, Same.refl _, h0⟩
  rintro m s3 ⟨i, σ3, H3, gp, rfl, hi, I3, S3, sm3, p3⟩
  refine wpAny_passesOwn hxo (walk_next T c_nodes_under c_depth_of D' hr I3.ok.frames B I3 (kp := []) (fun p hp => by simp at hp) hAd (.inl hdef) (fun _ b hb => ?_) S3 (hT.same sm3) (fun x T1 H4 gp' s4 hx hT1 sm4 I4 S4 _ hrd => ?_) (fun s4 hx I4 _ => ?_))
  · rcases List.mem_cons.mp hb with e | hb
    · exact .inl e
    · obtain ⟨p, hp, e⟩ := List.mem_map.mp hb
      exact .inr ⟨p, by rw [List.append_nil]; exact hp, e⟩
  · obtain ⟨it, gs, hgs, rdy⟩ := hrd
    have hsus : sus gs = true := by
      obtain ⟨k, l, p, fs, e, _⟩ := rdy.ex
      rw [e]; rfl
    have hlt : i < (ordW ns par lab).length := (List.getElem?_eq_some_iff.mp hx).1
    have sm := sm3.trans sm4
    have step := hstep i x T1 σ3 H4 hx sm (hst _ _ _ _ sm4 p3) hT1
    have gens_at : ∀ {s0 sB : Shared}, sB.gens[g]? = some gs → Dd sB.gens s0 → (back sB.gens s0).gens[g]? = some gs := fun e d => back_sleeper d e hsus
    show wpAny _ _ (letOwnedTupleGo tg (.ref a) (.ref T1)) _ _ s4
    obtain ⟨go4, _, _, _, _, _, _, _, c4, d4, _, g4, _⟩ := S4.ex
    refine go_of g4 c4 d4 (by decide) ?_
    have Ik : L2.Inv X (pins ++ gp') σ3 H4 (killed s4) := Inv.gens I4 (killed_bare I4.bare)
    refine run_asleep I4.bare (hg.run _ (killed s4) σ3 H4 (.ref T1) (.ref T1) _ Ik rfl step) hx_ ?_
    rintro _ s5 ⟨σ5, H5, I5, sm5, q5⟩ d5
    have b5 : AllBare (back s4.gens s5).gens := back_bare I4.bare I5.bare
    have hgs5 := gens_at hgs d5
    refine run_asleep b5 (hb.run _ (killed (back s4.gens s5)) σ5 H5 _ (Inv.gens I5 (killed_bare b5)) q5) hx_ ?_
    intro fl s6 q6 d6
    have hgs6 := gens_at hgs5 d6
    have again : ∀ {σ7 : L2.St} {H7 : Hp}, L2.Inv X (pins ++ gp') σ7 H7 s6 → Same H4 H7 → Pv (i + 1) σ7 H7 → ∃ m, m < (ordW ns par lab).length - i ∧ ∃ i σ' H' gp, m = (ordW ns par lab).length - i ∧ i ≤ (ordW ns par lab).length ∧ L2.Inv X (pins ++ gp) σ' H' (back (back s4.gens s5).gens s6) ∧
        Slp X.prog X.w X.K sA.heap.objs.size f cdv a g t (ordW ns par lab) (a :: (X.pn ++ pins).map (·.1)) i gp (back (back s4.gens s5).gens s6) H' ∧ Same H1 H' ∧ Pv i σ' H' := fun {σ7 H7} I7 s47 p7 =>
      ⟨_, by omega, i + 1, σ7, H7, gp', rfl, hlt, Inv.gens I7 (back_bare b5 I7.bare), S4.keep (fun p hp => (I7.pin p (List.mem_append_right _ (List.mem_append_right _ hp))).1) s47 (hgs6.trans hgs.symm), sm.trans s47, p7⟩
    cases fl with
    | next => obtain ⟨σ7, H7, I7, s47, p7⟩ := q6; exact again I7 s47 p7
    | cont => obtain ⟨σ7, H7, I7, s47, p7⟩ := q6; exact again I7 s47 p7
    | brk => obtain ⟨σ7, H7, I7, q7⟩ := q6; exact ⟨σ7, H7, Inv.gens I7.unpinned (back_bare b5 I7.bare), q7⟩
    | ret v => obtain ⟨x7, σ7, H7, I7, r7, q7⟩ := q6; exact ⟨x7, σ7, H7, Inv.gens I7.unpinned (back_bare b5 I7.bare), r7, q7⟩
  · have e : i = (ordW ns par lab).length := by
      have : (ordW ns par lab).length ≤ i := List.getElem?_eq_none_iff.mp hx
      omega
    subst e
    exact wpAny_execs_nil ⟨σ3, H3, I4, hend _ _ sm3 p3⟩
end
end MG
/-! text G9 -/
set_option Elab.async false
set_option linter.all false
set_option maxRecDepth 100000
set_option maxHeartbeats 4200000
/-! list(walk()) -/
namespace MG
open PySem PySem.Spec PyProof.Rows L2
theorem Slp.apart {P : Program} {w : World} {K : PySem.W.Frag} {n : Nat} {f : Addr} {cdv : Value} {a g t : Addr} {ord : List Str} {Ad : List Addr} {i : Nat} {gp : List (Addr × Obj)} {s : Shared} {H : Hp} (S : Slp P w K n f cdv a g t ord Ad i gp s H) : ∀ p ∈ gp, p.1 = a ∨ p.1 = n ∨ p.1 ∉ Ad := fun p hp => by
  obtain ⟨go, oL, gq, m, u, nm, qn, rfl, h1, h2, h3, h4, h5, h6, h7, h8, h9⟩ := S.ex
  rcases List.mem_cons.mp hp with rfl | hp
  · exact .inl rfl
  · rcases List.mem_cons.mp hp with rfl | hp
    · exact .inr (.inl rfl)
    · rcases h9 with ⟨e1, e2, e3⟩ | ⟨it, l, fp, tn, gs, hh, q1, q2, q3, q4, q5, q6, q7, q8⟩
      · subst e2; cases hp
      · subst q5
        exact .inr (.inr (q4 _ (of_pinsAt hp).1).2.2)
/-- the pairs that walk hands out -/
structure Pairs (ns : List Str) (par lab : Str → Str) (i : Nat) (Ts : List Addr) (H : Hp) : Prop where
  len : Ts.length = i
  at_ : ∀ (j : Nat) (x : Str) (T : Addr), (ordW ns par lab)[j]? = some x → Ts[j]? = some T → H T = some (.tup [.int (((W par Rt x).length : Int) - 1), .str x])
theorem Pairs.same {ns : List Str} {par lab : Str → Str} {i : Nat} {Ts : List Addr} {H H' : Hp} (p : Pairs ns par lab i Ts H) (e : Same H H') : Pairs ns par lab i Ts H' := ⟨p.len, fun j x T a b => e _ _ (p.at_ j x T a b)⟩
theorem Pairs.push {ns : List Str} {par lab : Str → Str} {i : Nat} {Ts : List Addr} {H : Hp} {x : Str} {T : Addr} (p : Pairs ns par lab i Ts H) (hx : (ordW ns par lab)[i]? = some x) (e : H T = some (.tup [.int (((W par Rt x).length : Int) - 1), .str x])) : Pairs ns par lab (i + 1) (Ts ++ [T]) H := by
  refine ⟨by rw [List.length_append, p.len]; rfl, fun j y U a b => ?_⟩
  by_cases h : j < Ts.length
  · rw [List.getElem?_append_left h] at b
    exact p.at_ j y U a b
  · have h2 : j = i := by
      have := (List.getElem?_eq_some_iff.mp b).1
      rw [List.length_append, p.len] at this
      rw [p.len] at h
      simp at this
      omega
    subst h2
    rw [List.getElem?_append_right (by rw [p.len]; exact Nat.le_refl _), p.len, Nat.sub_self] at b
    cases b
    rw [a] at hx
    cases hx
    exact e
section
variable {X : Cx} {C U : Addr} {n : Nat} {f : Addr} {cdv : Value} {a : Addr} {g : Nat} {t : Addr} {pins : List (Addr × Obj)} {σ : L2.St} {ns : List Str} {par lab : Str → Str} {A : Around}
theorem under_el {A : Around} {as : Args} : A.under (.builtin "list.extend.loop" as) = A.in1 := Around.under_plainId PySem.F.plain_extend_loop as
theorem w_drain {R : Result → Shared → Prop} {S : Addr} {res : Value} {H1 : Hp} {Ad : List Addr} (T : Txt X.K X.mg C) (c_nodes_under : Met X.prog X.w X.K X.mg X.base 4 C "nodes_under" (spBelow U C)) (c_depth_of : Met X.prog X.w X.K X.mg X.base 5 C "depth_of" (spOf U C rDepth)) (D : TD ns par lab)
    (hr : Room 7 A.in1) (hA : A.frames = some X.stack) (B : WFix X n a Ad) (hS : S ∈ Ad) (hSa : S ≠ a) (hSk : S ∉ frs X.stack) (hSL : S ≠ X.env.locals) (hS0 : X.s_0.heap.objs.size ≤ S) (hSc : ∀ x c, X.env.cells.lookup x = some c → c ≠ S) (hSp : ∀ p ∈ X.pn ++ pins, p.1 ≠ S)
    (hAd : ∀ p ∈ X.pn ++ pins, p.1 ∈ Ad ∧ p.1 ≠ a) (hloc : X.env.locals ∈ frs X.stack) (hcov : ∀ b ∈ Ad, b = a ∨ b = S ∨ ∃ p ∈ X.pn ++ pins, p.1 = b)
    (hend : ∀ s' acc c H' Ts, s'.heap.get? S = some (lstObj acc c) → acc.toList = Ts.map Value.ref → Pairs ns par lab (ordW ns par lab).length Ts H' → L2.Inv X pins σ H' s' → H' S = none → Same H1 H' → R (.ok (.ret res)) s') (hT : TreeOk C H1 t ns par lab) :
    ∀ (m i : Nat) (s : Shared) (gp : List (Addr × Obj)) (H : Hp) (acc : Array Value) (c : Nat) (Ts : List Addr), m = (ordW ns par lab).length - i → i ≤ (ordW ns par lab).length → L2.Inv X (pins ++ gp) σ H s → Slp X.prog X.w X.K n f cdv a g t (ordW ns par lab) Ad i gp s H → Same H1 H → H S = none →
      s.heap.get? S = some (lstObj acc c) → acc.toList = Ts.map Value.ref → Pairs ns par lab i Ts H → codeAny (model X.prog X.w) A (.builtin "list.extend.loop" ⟨[.ref S, .ref a, res], []⟩) R s := by
  have hlen : (ordW ns par lab).length = ns.length + 1 := pre_len D.T (chS_kids D.T.nd par lab)
  have hsz : (ordW ns par lab).length < sizeLine := by rw [hlen, sz]; have := D.few; omega
  intro m
  induction m with
  | zero =>
    intro i s gp H acc c Ts hm hi I S3 sm hn hS3 ha hp
    have hi' : i = (ordW ns par lab).length := by omega
    apply codeAny_builtin PySem.F.entry_extend_loop
    rw [under_el]
    refine wpAny_bind (m := pyNext (.ref a)) (walk_next T c_nodes_under c_depth_of D hr hA B I (kp := [(S, lstObj acc c)]) (fun p hp => ?_) (fun p hp => ?_) (.inl hloc) (fun _ b hb => ?_) S3 (hT.same sm) (fun x T1 H4 gp' s4 hx _ _ _ _ _ _ => ?_) (fun s4 hx I4 hk => ?_))
    · obtain rfl : p = (S, lstObj acc c) := by simpa using hp
      exact ⟨hS3, hn, hSk, fun v z => by cases z⟩
    · rcases List.mem_append.mp hp with hp | hp
      · exact hAd p hp
      · obtain rfl : p = (S, lstObj acc c) := by simpa using hp
        exact ⟨hS, hSa⟩
    · rcases hcov b hb with e | e | ⟨p, hp, e⟩
      · exact .inl e
      · exact .inr ⟨(S, lstObj acc c), by simp, e.symm⟩
      · exact .inr ⟨p, List.mem_append_left _ hp, e⟩
    · rw [hi', List.getElem?_eq_none_iff.mpr (Nat.le_refl _)] at hx; cases hx
    · obtain ⟨q1, q2, _⟩ := hk (S, lstObj acc c) (by simp)
      subst hi'
      exact wpAny_pure (hend s4 acc c H Ts q1 ha hp I4 hn sm)
  | succ m ih =>
    intro i s gp H acc c Ts hm hi I S3 sm hn hS3 ha hp
    have hlt : i < (ordW ns par lab).length := by omega
    apply codeAny_builtin PySem.F.entry_extend_loop
    rw [under_el]
    refine wpAny_bind (m := pyNext (.ref a)) (walk_next T c_nodes_under c_depth_of D hr hA B I (kp := [(S, lstObj acc c)]) (fun p hp => ?_) (fun p hp => ?_) (.inl hloc) (fun _ b hb => ?_) S3 (hT.same sm) (fun x T1 H4 gp' s4 hx hT1 sm4 I4 S4 hk _ => ?_) (fun s4 hx I4 hk => ?_))
    · obtain rfl : p = (S, lstObj acc c) := by simpa using hp
      exact ⟨hS3, hn, hSk, fun v z => by cases z⟩
    · rcases List.mem_append.mp hp with hp | hp
      · exact hAd p hp
      · obtain rfl : p = (S, lstObj acc c) := by simpa using hp
        exact ⟨hS, hSa⟩
    · rcases hcov b hb with e | e | ⟨p, hp, e⟩
      · exact .inl e
      · exact .inr ⟨(S, lstObj acc c), by simp, e.symm⟩
      · exact .inr ⟨p, List.mem_append_left _ hp, e⟩
    · obtain ⟨hS4, hn4, _⟩ := hk (S, lstObj acc c) (by simp)
      have hasz : acc.size < sizeLine := by
        have e : acc.size = Ts.length := by rw [← Array.length_toList, ha, List.length_map]
        rw [e, hp.len]; omega
      show wpAny _ A.in1 (updateSeq S (·.push (.ref T1)) >>= _) _ _ _
      refine wpAny_bind ?_
      refine wpAny_updateSeq hS4 rfl (wpAny_pure ⟨plainId_quiet PySem.F.plain_extend_loop _, ?_⟩) (Nat.le_of_lt hasz) (by show (acc.push _).size ≤ sizeLine + 1; rw [Array.size_push]; omega)
      have keep3 : ∀ b o, b ≠ S → s4.heap.get? b = some o → (s4.heap.update S (Obj.mapSeq (·.push (.ref T1)))).get? b = some o := fun b o hbS e => (Heap.get?_update_other _ _ (Ne.symm hbS)).trans e
      have hgp : ∀ p ∈ gp', p.1 ≠ S := fun p hp e => by
        rcases S4.apart p hp with h | h | h
        · exact hSa (e.symm.trans h)
        · exact B.nA (by rw [← h, e]; exact hS)
        · exact h (by rw [e]; exact hS)
      refine ih (i + 1) _ gp' H4 (acc.push (.ref T1)) _ (Ts ++ [T1]) (by omega) hlt (I4.turned (t' := s4.toks) keep3 hn4 hSL (.inr hS0) hSc fun p hp => ?_) (S4.keep (fun p hp => ?_) (Same.refl _) rfl) (sm.trans sm4) hn4 (Heap.get?_update_self (Obj.mapSeq (·.push (.ref T1))) hS4 rfl) (by rw [Array.toList_push, ha, List.map_append]; rfl) ((hp.same sm4).push hx hT1)
      · rcases List.mem_append.mp hp with hp | hp
        · exact hSp p (List.mem_append_left _ hp)
        · rcases List.mem_append.mp hp with hp | hp
          · exact hSp p (List.mem_append_right _ hp)
          · exact hgp p hp
      · exact keep3 _ _ (hgp p hp) (I4.pin p (List.mem_append_right _ (List.mem_append_right _ hp))).1
    · exact absurd (List.getElem?_eq_none_iff.mp hx) (Nat.not_le.mpr hlt)
/-- an object of ours that nobody tracked is tracked -/
theorem Inv.trk {H : Hp} {s : Shared} {S : Addr} {o : HO} (I : L2.Inv X pins σ H s) (hS0 : X.s_0.heap.objs.size ≤ S) (hn : H S = none) (hSL : S ≠ X.env.locals) (hSc : ∀ x c, X.env.cells.lookup x = some c → c ≠ S) (hSp : ∀ p ∈ X.pn ++ pins, p.1 ≠ S)
    (new : ObjOk X.prog X.w (upd H S o) s.heap S o) : L2.Inv X pins σ (upd H S o) s := by
  have lt : ∀ b ob, X.s_0.heap.get? b = some ob → b ≠ S := fun b ob q => Nat.ne_of_lt (Nat.lt_of_lt_of_le (Heap.lt_size q) hS0)
  have un := I.base
  refine ⟨I.ok, I.os, I.bare, ⟨un.keep, un.slot, fun b ob q n hx => ?_, un.there, fun b xs q => ?_, fun b ob y q => ?_, fun b qs q => ?_⟩, I.loc, I.cell, ?_, fun x c e => ?_, fun p hp => ?_, HOk.laidN I.hok (fun _ _ e => e) hn new, I.len⟩
  · exact (upd_ne (lt b ob q)).trans (un.free b ob q n hx)
  · exact (upd_ne (ne_of_none (un.tups b xs q) hn)).trans (un.tups b xs q)
  · exact (upd_ne (ne_of_none (un.frzs b ob y q) hn)).trans (un.frzs b ob y q)
  · exact (un.tbls b qs q).imp fun m z => (upd_ne (ne_of_none z hn)).trans z
  · rw [upd_ne (Ne.symm hSL)]; exact I.free
  · rw [upd_ne (hSc x c e)]; exact I.freeC x c e
  · obtain ⟨q1, q2, q3⟩ := I.pin p hp
    exact ⟨q1, by rw [upd_ne (hSp p hp)]; exact q2, q3⟩
/-- list(o.walk()) -/
def tListW (C : Addr) (ta : TE) : TE := fun σ H Q => ta σ H fun x H1 => ∃ t dx fs, x = .ref t ∧ H1 t = some (.ins C dx fs) ∧ fs.lookup ("walk" : Str) = none ∧ ∃ (ns : List Str) (par lab : Str → Str), TreeOk C H1 t ns par lab ∧ TD ns par lab ∧
  ∀ (p : Addr) (Ts : List Addr) (H2 : Hp), Same H1 H2 → H2 p = none → Pairs ns par lab (ordW ns par lab).length Ts H2 → Q (.ref p) (upd H2 p (.lst (Ts.map V.ref)))
theorem vals_refs (Ts : List Addr) : Vals (Ts.map V.ref) (Ts.map Value.ref) := by
  induction Ts with
  | nil => exact .nil
  | cons x xs ih => exact .cons rfl ih
/-- list(a) of a generator at a: the new list stands, made ready; what is left is the loop that draws from a -/
theorem list_gen {P : Program} {w : World} {A : Around} {E : Value → Shared → Prop} {s : Shared} {a : Addr} {g : Nat} {Q : Value → Shared → Prop} (gen : s.heap.IsGen a g) (away : s.heap.objs.size ≠ a)
    (loop : ∀ (h : Heap) (c : Nat), (∀ b o, s.heap.get? b = some o → h.get? b = some o) → h.get? s.heap.objs.size = some (lstObj #[] c) → codeAny (model P w) A.in1 (.builtin "list.extend.loop" ⟨[.ref s.heap.objs.size, .ref a, .none], []⟩) (wants (fun r s2 => r = .none ∧ Q (.ref s.heap.objs.size) s2) E) { s with heap := h }) :
    wpAny (model P w) A (call (.type "list") [.ref a]) Q E s := by
  have old : ∀ (h : Heap) (f : Obj → Obj), (∀ b o, s.heap.get? b = some o → h.get? b = some o) → ∀ b o, s.heap.get? b = some o → (h.update s.heap.objs.size f).get? b = some o := fun h f k b o e => (Heap.get?_update_other h f (Nat.ne_of_gt (Heap.lt_size e))).trans (k b o e)
  have new0 : (s.heap.push (lstObj #[] 0)).get? s.heap.objs.size = some (lstObj #[] 0) := Heap.get?_push_size s.heap rfl
  have old1 := old _ (Obj.mapSeq fun _ => (#[] : Array Value)) fun b o (e : s.heap.get? b = some o) => Heap.get?_push_of_some (lstObj #[] 0) e
  have new1 := Heap.get?_update_self (Obj.mapSeq fun _ => (#[] : Array Value)) new0 rfl
  have new2 := Heap.get?_update_self (Obj.mapSeq fun vs => vs.push Value.none) new1 rfl
  have new3 := Heap.get?_update_self (Obj.mapSeq fun vs => vs.pop) new2 rfl
  have ty : ∀ {h : Heap}, (∀ b o, s.heap.get? b = some o → h.get? b = some o) → ({ s with heap := h } : Shared).TypeIs (.ref a) "generator" := fun k => Heap.IsGen.typeIs (gen.keeps k)
  refine callType_codes (Q₁ := fun x t => x = .ref s.heap.objs.size ∧ t = { s with heap := s.heap.push (lstObj #[] 0) }) PySem.F.called_list (PySem.F.typeCall_list_1 _) PySem.F.entry_list_init (code_list_new _ ⟨rfl, rfl⟩) ?_
  rintro _ _ ⟨rfl, rfl⟩
  refine ⟨⟨_, new0, rfl⟩, PySem.F.args_list_init_2 _ (.ref a), ?_⟩
  -- its items are looked at, and dropped
  refine wpAny_bind (m := Builtin.List.listItems (.ref s.heap.objs.size)) (wpAny_bind (wpAny_seqItems new0 rfl (wpAny_pure ?_)))
  refine wpAny_bind (m := Builtin.List.listUpdate (.ref s.heap.objs.size) fun _ => #[]) (wpAny_updateSeq new0 rfl ?_)
  refine wpAny_bind (m := letGo _) (wpAny_letGo ?_)
  -- the generator is no list, no tuple, and not the list itself; it is its own iterator, and tells no length
  delta Builtin.List.listExtendWith
  refine wpAny_bind (wpAny_typeOf (ty old1) ?_)
  have no1 : Builtin.List.listSameRef (.ref s.heap.objs.size) (.ref a) = false := by simp [Builtin.List.listSameRef, away]
  have no2 : (Value.type "generator" == .type "list" || Value.type "generator" == .type "tuple") = false := by decide
  simp only [Bool.or_eq_false_iff] at no2
  simp only [no1, no2.1, no2.2, Bool.false_or, if_neg Bool.false_ne_true]
  refine wpAny_bind (wpAny_pyIter_gen (s := { s with heap := _ }) (gen.keeps old1) (wpAny_bind (wpAny_holding ?_)))
  delta Builtin.List.listLengthHint
  refine wpAny_bind (wpAny_specialOf (ty old1) PySem.F.gen_no_len ?_)
  refine wpAny_bind (m := specialOf (Value.ref a) (Str.ofString "__length_hint__")) (wpAny_specialOf (ty old1) PySem.F.gen_no_hint (wpAny_pure ?_))
  -- room is made
  refine wpAny_bind (m := rule "list.extend.makes-room") (wpAny_rule (wpAny_bind (m := Builtin.List.listTouch (.ref s.heap.objs.size)) ?_))
  refine wpAny_bind (m := updateSeq s.heap.objs.size fun vs => vs.push .none) (wpAny_updateSeq new1 rfl ?_)
  refine wpAny_updateSeq new2 rfl (wpAny_pure ⟨plainId_quiet PySem.F.plain_extend_loop _, ?_⟩) (by seq_fits)
  exact loop _ _ (old _ _ (old _ _ old1)) new3
theorem pe_listW {o : Expr} {p apos cpos pos : Pos} {ta : TE} {nm : Str} {pl : Sem Bool} (T : Txt X.K X.mg C) (c_nodes_under : Met X.prog X.w X.K X.mg X.base 4 C "nodes_under" (spBelow U C)) (c_depth_of : Met X.prog X.w X.K X.mg X.base 5 C "depth_of" (spOf U C rDepth))
    (Wk : WkOk X.K C f cdv) (hr : Room 10 X.A) (hloc : X.env.locals ∈ frs X.stack) (he : PE X o ta) (hg : Gl X nm) (hmg : X.mg nm = none) (hv : bootBuiltins nm = some (.type "list")) (ht : IsMeth X o "walk" [] apos cpos pl := by rfl) (row : Row1 X (.Call (.Attribute o "walk" apos) [] [] cpos) [] := by rfl)
    (hnm : nm ≠ "__name__" := by decide) (hdb : (nm == ("__debug__" : Str)) = false := by decide) : PE X (.Call (.Name nm p) [.Call (.Attribute o "walk" apos) [] [] cpos] [] pos) (tListW C ta) := by
  constructor
  intro pins s0 σ H Q I h
  refine wpAny_Call_Name_kw (ld_blt I hg hmg hv (PyProof.Rows.callWith_type1 ?_ row rfl) hnm hdb)
  rw [row]
  refine Calls.spliced_cons (x := eval (.Call (.Attribute o "walk" apos) [] [] cpos) X.env) (rest := backTo pos (starEach [] X.env)) (thn (walk_made Wk (hr.mono (by omega)) he ht I h) fun u s ⟨t, sA, H1, M, ns, par, lab, hT, D', hQ⟩ => Calls.spliced_nil ?_)
  obtain ⟨a, g, go, oL, rfl, I1, IA, kpA, lt1, lt2, hos, hgc, hgd, gen, slp⟩ := M.ex
  -- where things stand: the stack and the pins, the generator's frame, the generator, the new list
  have away : s.heap.objs.size ≠ a := Nat.ne_of_gt lt2
  have none_ : H1 s.heap.objs.size = none := I1.hok.fresh (Nat.le_refl _)
  obtain ⟨_, sL, sfs, sx, sc, sp⟩ := I1.fpOk (Nat.le_refl _) none_
  have pinlt : ∀ p ∈ X.pn ++ pins, p.1 < sA.heap.objs.size := fun p hp => Heap.lt_size (IA.pin p hp).1
  have ltS : sA.heap.objs.size < s.heap.objs.size := Nat.lt_trans lt1 lt2
  have stS : ∀ b ∈ frs X.stack, b < sA.heap.objs.size := frs_lt IA (Nat.le_refl _)
  have first : X.s_0.heap.objs.size ≤ s.heap.objs.size := Nat.le_trans IA.sz (Nat.le_of_lt ltS)
  have B : WFix X sA.heap.objs.size a (a :: s.heap.objs.size :: (X.pn ++ pins).map (·.1)) := by
    refine ⟨IA.sz, Nat.le_trans IA.ok.bsz IA.sz, stS, fun x c e => (IA.cell x c e).elim fun v z => z.elim fun o z => Heap.lt_size z.1, fun hm => ?_, List.mem_cons_self, .inl hloc⟩
    rw [List.mem_cons, List.mem_cons, List.mem_map] at hm
    rcases hm with e | e | ⟨p, hp, e⟩
    · exact Nat.lt_irrefl _ (e ▸ lt1)
    · exact Nat.lt_irrefl _ (e ▸ ltS)
    · exact Nat.lt_irrefl _ (e ▸ pinlt p hp)
  have spp : ∀ p ∈ X.pn ++ pins, p.1 ≠ s.heap.objs.size := fun p hp => Nat.ne_of_lt (Nat.lt_trans (pinlt p hp) ltS)
  refine list_gen gen away fun h4 c4 k4 new4 => ?_
  refine w_drain (X := X) (A := X.A.in1) (f := f) (cdv := cdv) (g := g) (pins := pins) (σ := σ) T c_nodes_under c_depth_of D' (hr.mono (by omega : 9 ≤ 10)).in1.in1 I1.ok.frames B (List.mem_cons_of_mem _ List.mem_cons_self) away (fun hm => absurd (stS _ hm) (Nat.not_lt.mpr (Nat.le_of_lt ltS))) sL first sc spp
    (fun p hp => ⟨List.mem_cons_of_mem _ (List.mem_cons_of_mem _ (List.mem_map_of_mem (f := (·.1)) hp)), fun e => ?_⟩) hloc (fun b hb => ?_) (fun s' acc c H' Ts q1 q2 q3 q4 q5 q6 => ?_) hT _ 0 _ [(a, go), (sA.heap.objs.size, oL)] H1 _ _ [] rfl (Nat.zero_le _) ?_ ?_ (Same.refl _) none_ new4 rfl ⟨rfl, fun j x U _ e => by cases e⟩
  · exact Nat.lt_irrefl _ (Nat.lt_trans lt1 (e ▸ pinlt p hp))
  · rw [List.mem_cons, List.mem_cons, List.mem_map] at hb
    exact hb.imp_right (Or.imp_right fun ⟨p, hp, e⟩ => ⟨p, hp, e⟩)
  · have many : (Ts.map V.ref).length ≤ sizeLine := by
      have len : (ordW ns par lab).length = ns.length + 1 := pre_len D'.T (chS_kids D'.T.nd par lab)
      rw [List.length_map, q3.len, len, sz]
      have := D'.few
      omega
    exact ⟨rfl, .ref s.heap.objs.size, upd H' s.heap.objs.size (.lst (Ts.map V.ref)), Inv.trk q4 first q5 sL sc spp ⟨many, acc.toList, c, by rw [q2]; exact vals_refs Ts, by rw [q1]⟩, rfl, hQ _ Ts H' q6 q5 q3⟩
  · exact I1.kept (t' := s.toks) k4
  · exact (slp _ _).keep (fun p hp => k4 _ _ (I1.pin p (List.mem_append_right _ (List.mem_append_right _ hp))).1) (Same.refl _) rfl
end
end MG
/-! text G10 -/
set_option Elab.async false
set_option linter.all false
set_option maxRecDepth 100000
set_option maxHeartbeats 4200000
/-! [.. for .. in o.walk()] -/
namespace MG
open PySem PySem.Spec PyProof.Rows L2
section
variable {X : Cx} {C U : Addr} {f : Addr} {cdv : Value}
theorem Slp.keep2 {P : Program} {w : World} {K : PySem.W.Frag} {n : Nat} {a g t : Addr} {ord : List Str} {Ad : List Addr} {i : Nat} {gp : List (Addr × Obj)} {s s' : Shared} {H H' : Hp} (S : Slp P w K n f cdv a g t ord Ad i gp s H) (k : ∀ p ∈ gp, s'.heap.get? p.1 = some p.2) (hs : ∀ l, H l = some (.lst (ord.map V.str)) → H' l = some (.lst (ord.map V.str))) (hg : s'.gens[g]? = s.gens[g]?) : Slp P w K n f cdv a g t ord Ad i gp s' H' := by
  have h1 := S.keep (s' := s') (H' := H) k (Same.refl _) hg
  obtain ⟨go, oL, gq, m, u, nm, qn, e0, h1, h2, h3, h4, h5, h6, h7, h8, h9⟩ := h1.ex
  refine ⟨go, oL, gq, m, u, nm, qn, e0, h1, h2, h3, h4, h5, h6, h7, h8, ?_⟩
  rcases h9 with h | ⟨it, l, fp, tn, gs, hh, q1, q2, q3, q⟩
  · exact .inl h
  · exact .inr ⟨it, l, fp, tn, gs, hh, q1, q2, hs l q3, q⟩
/-- a block seen from an older start -/
theorem blk_older {scope : Scope} {ce env' : Env} {s_o s3 s : Shared} {H_o H3 H : Hp} {pins : List (Addr × Obj)} {σ : L2.St} (J : (X.blk s_o H_o scope env' []).Ok) (I : L2.Inv (X.blk s3 H3 scope ce []) pins σ H s) (os : s3.os = s_o.os) (hle : s_o.heap.objs.size ≤ s3.heap.objs.size)
    (u : Un (frs X.stack) [] H_o H3 s_o.heap s3.heap) : L2.Inv (X.blk s_o H_o scope ce []) pins σ H s :=
  ⟨⟨I.ok.mod, I.ok.kind, I.ok.glob, I.ok.blt, Nat.le_trans hle I.ok.above, I.ok.inj, I.ok.has, fun x c h e => Nat.le_trans hle (I.ok.cab x c h e), I.ok.hd, I.ok.frames, I.ok.stk, fun b hb => by simp at hb, J.bs, J.bsz, J.noex, fun b hb => by simp at hb, J.funs, J.frf⟩,
   I.os.trans os, I.bare, u.trans I.base, I.loc, I.cell, I.free, I.freeC, I.pin, I.hok, I.len⟩
/-- [elt for target in o.walk()] -/
def tLcW (C : Addr) (ta : TE) (gt : TG) (te : TE) (vs : List Nat) : TE := fun σ H Q => ta σ H fun x H1 => ∃ t dx fs, x = .ref t ∧ H1 t = some (.ins C dx fs) ∧ fs.lookup ("walk" : Str) = none ∧ ∃ (ns : List Str) (par lab : Str → Str) (y : Nat → V), TreeOk C H1 t ns par lab ∧ TD ns par lab ∧
  (∀ (i : Nat) (x : Str) (T1 : Addr) (H2 : Hp), (ordW ns par lab)[i]? = some x → Same H1 H2 → H2 T1 = some (.tup [.int (((W par Rt x).length : Int) - 1), .str x]) →
    gt (.ref T1) (wipe σ vs) H2 fun σ3 H3 => H3 = H2 ∧ wipe σ3 vs = wipe σ vs ∧ te σ3 H3 fun z H4 => H4 = H3 ∧ z = y i) ∧
  ∀ D H2, H1 D = none → Same H1 H2 → H2 D = some (.lst ((List.range (ordW ns par lab).length).map y)) → Q (.ref D) H2
theorem pe_lcW {elt tg o : Expr} {scope : Scope} {own : List (Str × Nat)} {apos cpos pos : Pos} {ta : TE} {gt : TG} {te : TE} {pl : Sem Bool} (T : Txt X.K X.mg C) (c_nodes_under : Met X.prog X.w X.K X.mg X.base 4 C "nodes_under" (spBelow U C)) (c_depth_of : Met X.prog X.w X.K X.mg X.base 5 C "depth_of" (spOf U C rDepth))
    (Wk : WkOk X.K C f cdv) (hr : Room 7 X.A) (hc : X.calm = true) (hN : X.N.Nodup) (he : PE X o ta) (ok : BlkOk X.N X.env.scope scope own) (hce : ∀ n, cellsFrom n scope.names (cloFrom X.env.cells scope.names []) = [])
    (hg : ∀ (s : Shared) (H : Hp) (C : Addr) (cl : List (Str × Addr)) (fp : List Addr), PG (X.blk s H scope (compEnvC scope cl C X.env) fp) tg gt)
    (hel : ∀ (s : Shared) (H : Hp) (C : Addr) (cl : List (Str × Addr)) (fp : List Addr), PE (X.blk s H scope (compEnvC scope cl C X.env) fp) elt te)
    (ht : IsMeth X o "walk" [] apos cpos pl := by rfl)
    (hs : ∀ x, foldedSetIterable (.Call (.Attribute o "walk" apos) [] [] cpos) X.env x = pure x := by intro _; rfl) :
    PE X (.ListComp elt [⟨tg, .Call (.Attribute o "walk" apos) [] [] cpos, [], 0⟩] scope pos) (tLcW C ta gt te (own.map (·.2))) := by
  constructor
  intro pins s σ H Q I h
  rw [eval_ListComp]
  refine wpAny_comprehension_free (use := none) rfl hs (closure_ok fun y hy e => I.ok.has _ (ok.free y hy e)) ok.kind (fun y hy e => by rw [ok.uniq y hy, e])
    (thn (walk_made Wk (hr.mono (by omega)) he ht I h) fun u s1 ⟨t, sA, H1, M, ns, par, lab, y, hT, D', step, hend⟩ => ?_)
  obtain ⟨a, g, go, oL, rfl, I1, IA, kpA, lt1, lt2, hos, hgc, hgd, hgen, hslp⟩ := M.ex
  refine wpAny_pyIter_gen hgen (wpAny_newObj_type (newEnv_comp ?_) (Nat.zero_le _))
  generalize hD : s1.heap.objs.size = D
  have hDn : H1 D = none := I1.hok.fresh (Nat.le_of_eq hD)
  generalize hs3 : ({ s1 with heap := s1.heap.push { cls := .type "list", data := .seq ([] : List Value).toArray } } : Shared) = s3
  have kp3 : ∀ b o, s1.heap.get? b = some o → s3.heap.get? b = some o := fun b o e => by rw [← hs3]; exact Heap.get?_push_of_some _ e
  have I3 : L2.Inv X pins σ (upd H1 D (.lst [])) s3 := by
    rw [← hs3]
    refine I1.unpinned.laid (t' := s1.toks) (fun b o e => Heap.get?_push_of_some _ e) (Nat.le_of_eq hD) ⟨Nat.zero_le _, [], 0, .nil, ?_⟩
    rw [← hD]
    exact Heap.get?_push_size _ rfl
  have sz3 : s3.heap.objs.size = D + 1 := by rw [← hs3, ← hD]; exact Heap.size_push _ _
  have os3 : s3.os = sA.os := by rw [← hs3]; exact hos
  have gens3 : s3.gens = s1.gens := by rw [← hs3]
  have ltD : a < D := by rw [← hD]; exact lt2
  have I4 := block_start (fp := []) I3 ok hN (fun b hb => by simp at hb)
  have IA4 := block_start (fp := []) IA ok hN (fun b hb => by simp at hb)
  have pg := hg sA H1 s3.heap.objs.size (cellsFrom (s3.heap.objs.size + 1) scope.names (cloFrom X.env.cells scope.names [])) []
  have pe := hel sA H1 s3.heap.objs.size (cellsFrom (s3.heap.objs.size + 1) scope.names (cloFrom X.env.cells scope.names [])) []
  show codeAny _ _ (.compStart (.ListComp elt [⟨tg, .Call (.Attribute o "walk" apos) [] [] cpos, [], 0⟩] scope pos) 0 (.ref a) (.ref D) (compEnvC scope (cellsFrom (s3.heap.objs.size + 1) scope.names (cloFrom X.env.cells scope.names [])) s3.heap.objs.size X.env)) (compPost (model X.prog X.w) X.A X.xe none _ (.ref D) s3.heap.objs.size) { s3 with heap := pushCells (s3.heap.push { cls := .type "dict", data := .dict #[] }) scope.names }
  generalize hce' : compEnvC scope (cellsFrom (s3.heap.objs.size + 1) scope.names (cloFrom X.env.cells scope.names [])) s3.heap.objs.size X.env = ce at I4 pg pe ⊢
  have cL : ce.locals = s3.heap.objs.size := by subst hce'; rfl
  have cC : ce.cells = [] := by subst hce'; exact hce _
  have u13 : Un (frs X.stack) [] H1 (upd H1 D (.lst [])) sA.heap s3.heap := by
    have u1 : Un (frs X.stack) [] H1 H1 sA.heap s1.heap := Un.kept kpA
    refine u1.trans (Un.laid kp3 (Nat.le_of_eq hD) hDn)
  have I5 := blk_older (s_o := sA) (H_o := H1) IA4.ok I4 os3 (by rw [sz3]; exact Nat.le_of_lt (Nat.lt_trans lt1 (Nat.lt_trans ltD (Nat.lt_succ_self _)))) u13
  generalize hCb : s3.heap.objs.size = Cb at cL ⊢
  have ltC : D < Cb := by rw [← hCb, sz3]; exact Nat.lt_succ_self _
  generalize hs4 : ({ s3 with heap := pushCells (s3.heap.push { cls := .type "dict", data := .dict #[] }) scope.names } : Shared) = s4 at I5 ⊢
  have kp4 : ∀ b o, s3.heap.get? b = some o → s4.heap.get? b = some o := fun b o e => by rw [← hs4]; exact pushCells_keeps _ _ _ _ (Heap.get?_push_of_some _ e)
  have gens4 : s4.gens = s1.gens := by rw [← hs4]; exact gens3
  have stA : ∀ b ∈ frs X.stack, b < sA.heap.objs.size := frs_lt IA (Nat.le_refl _)
  have B : WFix (X.blk sA H1 scope ce []) sA.heap.objs.size a [a, Cb] := by
    refine ⟨Nat.le_refl _, Nat.le_trans IA.ok.bsz IA.sz, stA, fun x c e => ?_, fun hm => ?_, List.mem_cons_self, .inr ?_⟩
    · have e : ce.cells.lookup x = some c := e
      rw [cC] at e; cases e
    · rcases List.mem_cons.mp hm with e | hm
      · rw [e] at lt1; exact absurd lt1 (Nat.lt_irrefl _)
      · have e : sA.heap.objs.size = Cb := by simpa using hm
        have := Nat.lt_trans lt1 (Nat.lt_trans ltD ltC)
        rw [e] at this; exact absurd this (Nat.lt_irrefl _)
    · show ce.locals ∈ _
      rw [cL]; simp
  have hlen : (ordW ns par lab).length = ns.length + 1 := pre_len D'.T (chS_kids D'.T.nd par lab)
  have hsz : (ordW ns par lab).length < sizeLine := by rw [hlen, sz]; have := D'.few; omega
  have Same_D : ∀ {H : Hp} {o : HO}, Same H1 H → Same H1 (upd H D o) := fun {H o} h b q e => by
    have hb : b ≠ D := fun z => by rw [z, hDn] at e; cases e
    rw [upd_ne hb]; exact h b q e
  have loop : codeAny (model X.prog X.w) X.A (.compLoop (.ListComp elt [⟨tg, .Call (.Attribute o "walk" apos) [] [] cpos, [], 0⟩] scope pos) 0 (.ref a) (.ref D) ce) (compPost (model X.prog X.w) X.A X.xe none (fun u s' => EP X pins σ Q u s') (.ref D) Cb) s4 := by
    refine compLoop_any (fun m s' => ∃ i H' gp, m = (ordW ns par lab).length - i ∧ i ≤ (ordW ns par lab).length ∧ L2.Inv (X.blk sA H1 scope ce []) gp (wipe σ (own.map (·.2))) H' s' ∧ Slp X.prog X.w X.K sA.heap.objs.size f cdv a g t (ordW ns par lab) [a, Cb] i gp s' H' ∧ Same H1 H' ∧
      H' D = some (.lst ((List.range i).map y))) ?_ _ ⟨0, _, _, rfl, Nat.zero_le _, I5.pins_of (pins' := [(a, go), (sA.heap.objs.size, oL)]) (fun p hp => ?_), (hslp _ [a, Cb]).keep2 (fun p hp => ?_) (fun l e => ?_) (by rw [gens4]), Same_D (Same.refl _), upd_same ..⟩
    · rintro m s5 ⟨i, H5, gp, rfl, hi, I5, S5, sm5, hD5⟩
      obtain ⟨mL, hnL, _⟩ := id I5.loc
      obtain ⟨oC, es, ep, hoC, hdC, _⟩ := id hnL
      have hoC : s5.heap.get? Cb = some oC := by rw [← cL]; exact hoC
      have hCn : H5 Cb = none := by
        have z : H5 ce.locals = none := I5.free
        rw [cL] at z; exact z
      refine walk_next (X := X.blk sA H1 scope ce []) (pins0 := []) T c_nodes_under c_depth_of D' hr I5.ok.frames B I5 (kp := [(Cb, oC)]) (fun p hp => ?_) (fun p hp => ?_) (.inr ⟨oC, ?_⟩) (fun _ b hb => ?_) S5 (hT.same sm5) (fun x T1 H6 gp' s6 hx hT1 sm6 I6 S6 _ hrd => ?_) (fun s6 hx I6 _ => ?_)
      · obtain rfl : p = (Cb, oC) := by simpa using hp
        exact ⟨hoC, hCn, fun hm => absurd (stA _ hm) (Nat.not_lt.mpr (Nat.le_of_lt (Nat.lt_trans lt1 (Nat.lt_trans ltD ltC)))), fun v z => by rw [show oC.data = _ from hdC] at z; cases z⟩
      · obtain rfl : p = (Cb, oC) := by simpa using hp
        exact ⟨by simp, Nat.ne_of_gt (Nat.lt_trans ltD ltC)⟩
      · show (ce.locals, oC) ∈ _
        rw [cL]; simp
      · rcases List.mem_cons.mp hb with e | hb
        · exact .inl e
        · exact .inr ⟨(Cb, oC), by simp, (by simpa using hb : b = Cb).symm⟩
      · obtain ⟨it, gs, hgs, rdy⟩ := hrd
        have hsus : sus gs = true := by
          obtain ⟨k, l, p, fs, e, _⟩ := rdy.ex
          rw [e]; rfl
        have hlt : i < (ordW ns par lab).length := (List.getElem?_eq_some_iff.mp hx).1
        have sm := sm5.trans sm6
        have gens_at : ∀ {s0 sB : Shared}, sB.gens[g]? = some gs → Dd sB.gens s0 → (back sB.gens s0).gens[g]? = some gs := fun e d => back_sleeper d e hsus
        have hD6 := sm6 _ _ hD5
        have st := step i x T1 H6 hx sm hT1
        show wpAny _ _ (letOwnedTupleGo tg (.ref a) (.ref T1)) _ _ s6
        obtain ⟨go4, _, _, _, _, _, _, _, c4, d4, _, g4, _⟩ := S6.ex
        refine go_of g4 c4 d4 (by decide) ?_
        refine run_asleep I6.bare (pg.run _ (killed s6) _ H6 (.ref T1) (.ref T1) _ (Inv.gens I6 (killed_bare I6.bare)) rfl st) (fun _ _ h => h) ?_
        rintro _ s7 ⟨σ7, H7, I7, rfl, hw7, q7⟩ d7
        have b7 : AllBare (back s6.gens s7).gens := back_bare I6.bare I7.bare
        have hgs7 := gens_at hgs d7
        refine wpAny_tests_nil ?_
        simp only [if_true]
        refine run_asleep b7 (pe.run _ (killed (back s6.gens s7)) σ7 H7 _ (Inv.gens I7 (killed_bare b7)) q7) (fun _ _ h => h) ?_
        rintro z s8 ⟨yv, H8, I8, r8, rfl, rfl⟩ d8
        have b8 : AllBare (back (back s6.gens s7).gens s8).gens := back_bare b7 I8.bare
        have hgs8 := gens_at hgs7 d8
        refine run_asleep b8 (app_ok (E := fun _ _ => False) (Q := fun u s' => u = Value.none ∧ L2.Inv (X.blk sA H1 scope ce []) ([] ++ gp') σ7 (upd H8 D (.lst ((List.range i).map y ++ [y i]))) s') (Inv.gens I8 (killed_bare b8)) hD6 (by rw [List.length_map, List.length_range]; omega) r8 fun s9 I9 => ⟨rfl, I9⟩) (fun _ _ h => h) ?_
        rintro _ s9 ⟨_, I9⟩ d9
        have hgs9 := gens_at hgs8 d9
        refine ⟨_, (by omega : (ordW ns par lab).length - (i + 1) < _), i + 1, upd H8 D (.lst ((List.range i).map y ++ [y i])), gp', rfl, hlt, ?_, S6.keep2 (fun p hp => (I9.pin p (List.mem_append_right _ (List.mem_append_right _ hp))).1) (fun l e => ?_) (hgs9.trans hgs.symm), Same_D sm, ?_⟩
        · have I9' := Inv.gens I9 (back_bare b8 I9.bare)
          refine Inv.weak (show L2.Inv (X.blk sA H1 scope ce []) gp' σ7 _ (back (back (back s6.gens s7).gens s8).gens s9) from I9') (by rw [← hw7, wipe_length]) fun j v e => ?_
          rw [← hw7] at e
          exact (wipe_some e).1
        · have hl : l ≠ D := fun z => by
            rw [z, hD6] at e
            have e := congrArg List.length (HO.lst.inj (Option.some.inj e))
            rw [List.length_map, List.length_map, List.length_range] at e
            exact absurd hlt (by rw [← e]; exact Nat.lt_irrefl _)
          rw [upd_ne hl]; exact e
        · rw [upd_same, List.range_succ, List.map_append]; rfl
      · have e : i = (ordW ns par lab).length := by
          have : (ordW ns par lab).length ≤ i := List.getElem?_eq_none_iff.mp hx
          omega
        subst e
        have I7 : L2.Inv X pins σ H5 s6 := IA.call' (ch := []) I6.os I6.base I6.hok I6.bare fun b hb => by simp at hb
        obtain ⟨m, hn, _⟩ := I6.loc
        have hn : s6.heap.Ns Cb m := cL ▸ hn
        refine ⟨m, hn, fun h'' sb => ?_⟩
        obtain ⟨f0, f1, f2, f3, f4, f5⟩ : FpOk X pins H5 Cb := by
          rw [← hCb]
          exact I3.fpOk (Nat.le_refl _) (by rw [hCb]; exact hCn)
        exact ⟨.ref D, H5, I7.turned (t' := s6.toks) (fun b o hb e => (sb.2 b hb).trans e) f0 f1 f3 f4 f5, rfl, hend D H5 hDn sm5 hD5⟩
    · have hp' : s1.heap.get? p.1 = some p.2 ∧ H1 p.1 = none ∧ p.1 ≠ X.env.locals ∧ p.1 ∉ X.fs ∧ ∀ v, p.2.data ≠ .cell v := I1.pin p (List.mem_append_right _ (List.mem_append_right _ hp))
      have lt : p.1 < D := by rw [← hD]; exact Heap.lt_size hp'.1
      refine ⟨kp4 _ _ (kp3 _ _ hp'.1), by rw [upd_ne (Nat.ne_of_lt lt)]; exact hp'.2.1, ?_, fun hm => ?_, hp'.2.2.2.2⟩
      · show p.1 ≠ ce.locals
        rw [cL]; exact Nat.ne_of_lt (Nat.lt_trans lt ltC)
      · exact stk_not I1 hp'.2.2.1 hp'.2.2.2.1 hm
    · exact kp4 _ _ (kp3 _ _ (I1.pin p (List.mem_append_right _ (List.mem_append_right _ hp))).1)
    · rw [upd_ne (fun z => by rw [z, hDn] at e; cases e)]; exact e
  exact codeAny_compStart_list loop (wpAny_pyIter_gen (hgen.keeps fun b o e => kp4 _ _ (kp3 _ _ e)) loop)
end
end MG
/-! text LP -/
set_option Elab.async false
set_option linter.all false
set_option maxRecDepth 100000
set_option maxHeartbeats 4200000
/-! the walks -/
namespace MG
open PySem PySem.Spec PyProof.Rows L2
/-- a pair of the walk -/
def wkD (par : Str → Str) (x : Str) : PyData := .tuple [.int (((W par Rt x).length : Int) - 1), .str x]
theorem wkD_eqv (par : Str → Str) (x : Str) : PyData.eqv (wkD par x) (wkD par x) = true := by
  unfold wkD
  rw [PyData.eqv, PyData.eqvAll, PyData.eqvAll, PyData.eqvAll, eqv_str, decide_eq_true rfl, PyData.eqv]
  simp
theorem wkD_rp {ns : List Str} {par lab : Str → Str} (D : TD ns par lab) {x : Str} (hx : x = Rt ∨ x ∈ ns) : RP (wkD par x) 1 102 := by
  have w1 := D.T.W_le hx
  have wpos := D.T.W_pos x
  have a2 : RP (.int (((W par Rt x).length : Int) - 1)) 0 0 := by
    have e : ((W par Rt x).length : Int) - 1 = (((W par Rt x).length - 1 : Nat) : Int) := by omega
    rw [e]; exact rp_int (by omega)
  exact (RP.tup (RPA.cons a2 (RPA.cons (rp_name (hx.elim (fun e => e ▸ rt_name) (D.nm x))) RPA.nil))).mono (Nat.le_refl _) (by decide)
theorem wkD_shaped {ns : List Str} {par lab : Str → Str} (D : TD ns par lab) {x : Str} (hx : x = Rt ∨ x ∈ ns) : SeqAt.shaped (wkD par x) = true := by
  have hs : PyData.strOk x = true := nameB_ok (hx.elim (fun e => e ▸ rt_name) (D.nm x))
  show ((wkD par x).canLay0 && decide ((wkD par x).depth ≤ 64)) = true
  rw [Bool.and_eq_true]
  exact ⟨by simp [wkD, PyData.canLay0, PyData.canLayAll0, hs], decide_eq_true (by have := (wkD_rp D hx).dp; omega)⟩
theorem wks_rp {ns : List Str} {par lab : Str → Str} (D : TD ns par lab) : RP (.list ((ordW ns par lab).map (wkD par))) 8 1048576 := by
  have Kd := chS_kids D.T.nd par lab
  have h := RPA.map (f := wkD par) (ordW ns par lab) fun x hx => wkD_rp D (pre_in D.T Kd (.inl rfl) hx)
  have l : (ordW ns par lab).length = ns.length + 1 := pre_len D.T Kd
  have few := D.few
  exact (RP.lst h).mono (by decide) (by rw [l]; omega)
theorem dps_wk {K : PySem.W.Frag} {H : Hp} {par : Str → Str} : ∀ (l : List Str) (as : List Addr), as.length = l.length → (∀ (j : Nat) (x : Str) (a : Addr), l[j]? = some x → as[j]? = some a → H a = some (.tup [.int (((W par Rt x).length : Int) - 1), .str x])) → DpAll K H (as.map V.ref) (l.map (wkD par))
  | [], [], _, _ => .nil
  | [], _ :: _, h, _ => by simp at h
  | _ :: _, [], h, _ => by simp at h
  | x :: l, a :: as, h, hat => .cons (.tup (SqT.of (hat 0 x a rfl rfl)) (.cons (.int _) (.cons (.str _) .nil))) (dps_wk l as (by simpa using h) fun j y b h1 h2 => hat (j + 1) y b h1 h2)
theorem range_getD (l : List Str) : (List.range l.length).map (fun i => V.str (l.getD i Rt)) = l.map V.str := by
  apply List.ext_getElem?
  intro i
  rw [List.getElem?_map, List.getElem?_map]
  by_cases h : i < l.length
  · rw [List.getElem?_range h, List.getElem?_eq_getElem h]
    show some (V.str (l.getD i Rt)) = _
    rw [List.getD_eq_getElem?_getD, List.getElem?_eq_getElem h]; rfl
  · rw [List.getElem?_eq_none (by simpa using h), List.getElem?_eq_none (by simpa using h)]; rfl
def spWalks (C : Addr) : Sp := fun vs H Q _ => ∃ (t p o : Addr) (ns : List Str) (par lab : Str → Str) (ad : Str → Addr), vs = [.ref t, .ref p, .ref o] ∧ TreeOk C H t ns par lab ∧ PlX H p ns par lab ad ∧ TD ns par lab ∧ H o = some (.lst ((ordW ns par lab).map V.str)) ∧ ∀ H', Same H H' → Q (.bl true) H'
section
variable {P : Program} {w : World} {K : PySem.W.Frag} {mg : Str → Option Value} {base : Heap} {C U : Addr}
theorem sc_s_walks_right : FnScope ["_law_tree", "_law_places_here", "_law_order", "_law_due_here", "_law_node", "_law_depth", "_law_level", "_law_other"] ["_law_tree", "_law_places_here", "_law_order"] (defScope s_walks_right) := ⟨rfl, rfl, rfl, by decide +kernel, rfl, by decide +kernel, by decide +kernel⟩
theorem ok_walks_right {f fw : Addr} {fd : FuncData} {cdw : Value} (T : Txt K mg C) (F : Fun K "_law_walks_right" "_law_walks_right" s_walks_right f fd) (hm : mg "_law_walks_right" = some (.ref f)) (c__law_way_up : Cal P w K mg base 1 "_law_way_up" spWayL) (Wk : WkOk K C fw cdw)
    (c_nodes_under : Met P w K mg base 4 C "nodes_under" (spBelow U C)) (c_depth_of : Met P w K mg base 5 C "depth_of" (spOf U C rDepth)) : CalG P w K mg base 11 "_law_walks_right" (spWalks C) := by
  refine ⟨f, fd, ["_law_tree", "_law_places_here", "_law_order"], ?_, hm, F.kp, F.binds (ps := ["_law_tree", "_law_places_here", "_law_order"]) fun _ _ _ _ _ _ us hl => match us, hl with | [_, _, _], _ => rfl⟩
  refine okG F sc_s_walks_right (fun vs H Q E h => ?_) (fun cdv A outer s H vs Q E hr hgu h => ?_)
  · obtain ⟨t, p, o, ns, par, lab, ad, rfl, _⟩ := h
    rfl
  · obtain ⟨t, p, o, ns, par, lab, ad, rfl, hT, hp, D, ho, q⟩ := h
    have hr10 : Room 10 (A.deeper (envOfC "_law_walks_right" (defScope s_walks_right) s.heap.objs.size f cdv)) := hr
    have hr7 := hr10.mono (by decide : 7 ≤ 10)
    have hloc : (cxOf (L2.CX P w) P w K mg base ["_law_tree", "_law_places_here", "_law_order", "_law_due_here", "_law_node", "_law_depth", "_law_level", "_law_other"] "_law_walks_right" (defScope s_walks_right) f cdv A outer s H E).nox.env.locals ∈ frs (cxOf (L2.CX P w) P w K mg base ["_law_tree", "_law_places_here", "_law_order", "_law_due_here", "_law_node", "_law_depth", "_law_level", "_law_other"] "_law_walks_right" (defScope s_walks_right) f cdv A outer s H E).nox.stack := List.mem_cons_self
    refine ⟨_, PSs.nox (pss_cons (ps_setLc (i := 3) (own := [("_law_node", 4)]) (g := gName 4) (tt := tYes) rfl sc_s_walks_right.nd rfl rfl (sw_true rfl rfl rfl (by decide +kernel)) (pi_list (pv 2)) (blkOk_by (own := [("_law_node", 4)]) (N := ["_law_tree", "_law_places_here", "_law_order", "_law_due_here", "_law_node", "_law_depth", "_law_level", "_law_other"]) (sc := defScope s_walks_right) (by decide +kernel)) (fun _ _ _ _ _ => pg_name (i := 4) sc_s_walks_right.nd rfl (Or.inl rfl)) (fun _ _ _ _ _ => pts_nil) (fun _ _ _ _ _ => (pe_tup (pa_cons (pe_op op_sub (pe_callB (call_len_seqK (K := K) rfl) (by rfl) T.g_len bt_len (pa_cons (pe_cl c__law_way_up hr (by decide) (by rfl) (pa_cons (pv 1) (pa_cons (pv 4) pa_nil))) pa_nil)) pe_int) (pa_cons (pv 4) pa_nil)))))
    (pss_cons (ps_if (pt_cmpR op_ne (pe_callB (call_reprD hgu hr) (by rfl) T.g_repr bt_repr (pa_cons (pe_listW T c_nodes_under c_depth_of Wk hr10 hloc (pv 0) (by rfl) T.g_list bt_list) pa_nil)) (pe_callB (call_reprD hgu hr) (by rfl) T.g_repr bt_repr (pa_cons (pv 3) pa_nil)) (nomark _)) (pss_one (ps_ret pe_bl)) pss_nil)
    (pss_cons (ps_forW T c_nodes_under c_depth_of Wk hr7 (fun _ _ h => h) PassesOwn.never hloc rfl (pv 0) (pg_tup rfl (pgs_cons (pg_name (i := 5) sc_s_walks_right.nd rfl (Or.inl rfl)) (pgs_cons (pg_name (i := 4) sc_s_walks_right.nd rfl (Or.inl rfl)) pgs_nil)))
    (pss_one (ps_if (PW.pt (pw_or (pt_cmpR (op_neD hr.units) (pe_lcW (own := [("_law_level", 6), ("_law_other", 7)]) T c_nodes_under c_depth_of Wk hr7 rfl sc_s_walks_right.nd (pv 0) (blkOk_by (own := [("_law_level", 6), ("_law_other", 7)]) (N := ["_law_tree", "_law_places_here", "_law_order", "_law_due_here", "_law_node", "_law_depth", "_law_level", "_law_other"]) (sc := defScope s_walks_right) (by decide +kernel)) (fun _ => rfl) (fun _ _ _ _ _ => pg_tupK (n := 2) (K := K) rfl rfl (pgs_cons (pg_name (i := 6) sc_s_walks_right.nd rfl (Or.inl rfl)) (pgs_cons (pg_name (i := 7) sc_s_walks_right.nd rfl (Or.inl rfl)) pgs_nil))) (fun _ _ _ _ _ => (pv 7))) (pv 2) (nomark _)) (pw_or1 (pt_cmpR (op_neD hr.units) (pe_tup (pa_cons (pv 5) (pa_cons (pv 4) pa_nil))) (pe_ix ix_list (pv 3) (pe_bm PySem.F.plainAttrs_list PySem.F.slot_list_index PySem.F.type_list_index mt_index (pv 2) (pa_cons (pv 4) pa_nil)) (fun _ _ => rfl)) (nomark _))))) (pss_one (ps_ret pe_bl)) pss_nil)) (by rfl))
    (pss_one (ps_ret pe_bl))))), ?_⟩
    have T0 := D.T
    have few := D.few
    have Kd := chS_kids T0.nd par lab
    have plen : (ordW ns par lab).length = ns.length + 1 := pre_len T0 Kd
    have pnd : (ordW ns par lab).Nodup := pre_nd T0 Kd Rt (.inl rfl)
    have pin : ∀ x, x ∈ ordW ns par lab → x = Rt ∨ x ∈ ns := fun x hx => pre_in T0 Kd (.inl rfl) hx
    have pok : ∀ x, x ∈ ordW ns par lab → PyData.strOk x = true := fun x hx => nameB_ok ((pin x hx).elim (fun e => e ▸ rt_name) (D.nm x))
    obtain ⟨fs, r0, hob, _, _⟩ := id hT.tn.ex
    obtain ⟨dx, hx⟩ := hob.at_
    refine ⟨_, rfl, o, rfl, ⟨_, SqL.of ho⟩, fun D0 hD0 => lc_freshD (walk_list (xs := (ordW ns par lab).map V.str)) hD0 (fun i a H' => ∃ x, (ordW ns par lab)[i]? = some x ∧ H' a = some (.tup [.int (((W par Rt x).length : Int) - 1), .str x])) (fun i a H1 H2 na s ⟨n, hn, h⟩ => ⟨n, hn, s a _ na h⟩) (fun i a H1 ⟨n, _, h⟩ e => by rw [h] at e; cases e) (by rw [List.length_map, plen, sz]; omega) (fun H' s => SqL.of (s _ _ ho)) ?_ ?_⟩
    · rintro i v Ha Hb Kt hi sab hDn ⟨rfl, hv⟩ k
      rw [List.getElem?_map] at hv
      obtain ⟨x, hxx, rfl⟩ := Option.map_eq_some_iff.mp hv
      have hxn := pin x (List.mem_of_getElem? hxx)
      refine ⟨rfl, _, rfl, _, rfl, p, x, ns, par, lab, ad, rfl, (hp.same sab).1, D, hxn, fun l' H' hl' s' hL' => ⟨_, _, rfl, .inl (SqL.of hL'), _, _, rfl, rfl, _, rfl, by show 2 ≤ sizeLine; decide, fun a ha => ?_⟩⟩
      refine k a _ (s'.trans (Same.new ha)) (s'.free ha) ⟨x, hxx, ?_⟩
      rw [upd_same, List.length_map]
    · intro H1 Tds s1 hD1 hlT handT hatT
      rw [List.length_map] at hlT
      have due : ∀ (j : Nat) (x : Str) (a : Addr), (ordW ns par lab)[j]? = some x → Tds[j]? = some a → H1 a = some (.tup [.int (((W par Rt x).length : Int) - 1), .str x]) := fun j x a h1 h2 => by
        obtain ⟨⟨y, hy, h3⟩, _⟩ := hatT j a h2
        rw [h1] at hy
        cases hy
        exact h3
      refine ⟨_, rfl, t, dx, fs, rfl, s1 _ _ hx, hob.no _ (by decide), ns, par, lab, hT.same s1, D, fun p1 Ts H2 s2 hp1 pr => ?_⟩
      have n1 := Same.new (o := .lst (Ts.map V.ref)) hp1
      refine ⟨p1, .list ((ordW ns par lab).map (wkD par)), rfl, .lst (SqL.of upd_same) (dps_wk _ _ pr.len fun j x a h1 h2 => n1 _ _ (pr.at_ j x a h1 h2)), wks_rp D, ?_⟩
      have s3 := s2.trans n1
      refine ⟨_, rfl, D0, .list ((ordW ns par lab).map (wkD par)), rfl, .lst (SqL.of (s3 _ _ hD1)) (dps_wk _ _ hlT fun j x a h1 h2 => s3 _ _ (due j x a h1 h2)), wks_rp D, rfl, _, rfl, iteND (fun h => absurd rfl h) fun _ => ?_⟩
      have s4 := s1.trans s3
      have d4 : ∀ (j : Nat) (x : Str) (a : Addr), (ordW ns par lab)[j]? = some x → Tds[j]? = some a → (upd H2 p1 (.lst (Ts.map V.ref))) a = some (.tup [.int (((W par Rt x).length : Int) - 1), .str x]) := fun j x a h1 h2 => s3 _ _ (due j x a h1 h2)
      have hD4 := s3 _ _ hD1
      generalize (upd H2 p1 (.lst (Ts.map V.ref))) = H4 at s4 d4 hD4
      refine ⟨_, rfl, t, dx, fs, rfl, s4 _ _ hx, hob.no _ (by decide), ns, par, lab, fun i σ H' => ∃ (v4 v5 v6 v7 : Option V), σ = [some (.ref t), some (.ref p), some (.ref o), some (.ref D0), v4, v5, v6, v7] ∧ Same H4 H', hT.same s4, D, ⟨_, _, _, _, rfl, Same.refl _⟩, fun i σ Ha Hb sab ⟨v4, v5, v6, v7, e, s⟩ => ⟨v4, v5, v6, v7, e, s.trans sab⟩, ?_, ?_⟩
      · rintro i x T1 σ H5 hi s45 ⟨v4, v5, v6, v7, rfl, s5⟩ hT1
        have hlt : i < (ordW ns par lab).length := (List.getElem?_eq_some_iff.mp hi).1
        refine ⟨T1, _, rfl, SqT.of hT1, rfl, _, _, rfl, _, _, rfl, rfl, Same.refl _, ?_⟩
        have sx := s4.trans s45
        refine ⟨_, rfl, t, dx, fs, rfl, sx _ _ hx, hob.no _ (by decide), ns, par, lab, fun j => .str ((ordW ns par lab).getD j Rt), hT.same sx, D, fun j y T2 H6 hj s56 hT2 => ?_, fun D1 H6 hD1' s56 hD6 => ?_⟩
        · refine ⟨T2, _, rfl, SqT.of hT2, rfl, _, _, rfl, _, _, rfl, rfl, rfl, rfl, _, rfl, rfl, ?_⟩
          show V.str y = V.str ((ordW ns par lab).getD j Rt)
          rw [List.getD_eq_getElem?_getD, hj]; rfl
        · rw [range_getD] at hD6
          have s6 := sx.trans s56
          refine ⟨_, rfl, .list ((ordW ns par lab).map PyData.str), .list ((ordW ns par lab).map PyData.str), .lst (SqL.of hD6) (dps_strs _), .lst (SqL.of (s6 _ _ ho)) (dps_strs _), strs_shaped _ pok, strs_shaped _ pok, _, rfl, ?_⟩
          rw [strs_eqv]
          refine iteND (fun h => absurd rfl h) fun _ => ?_
          obtain ⟨a, ha⟩ : ∃ a, Tds[i]? = some a := ⟨_, List.getElem?_eq_getElem (by rw [hlT]; exact hlt)⟩
          have s46 := s45.trans s56
          refine ⟨_, rfl, _, rfl, by show 2 ≤ sizeLine; decide, fun t2 ht2 => ?_⟩
          have n2 := Same.new (o := .tup [.int (((W par Rt x).length : Int) - 1), .str x]) ht2
          refine ⟨_, rfl, _, rfl, .inl ⟨rfl, _, SqL.of (n2 _ _ (s6 _ _ ho))⟩, _, rfl, o, _, .str x, i, .str x, rfl, rfl, SqL.of (n2 _ _ (s6 _ _ ho)), rfl, flat_strs _, by rw [List.getElem?_map, hi]; rfl, by simp [eqV], fun k z' hk hz => ?_, D0, _, i, .ref a, rfl, rfl, SqL.of (n2 _ _ (s46 _ _ hD4)), atI_nat (by rw [List.getElem?_map, ha]; rfl), wkD par x, wkD par x, .tup (SqT.of upd_same) (.cons (.int _) (.cons (.str _) .nil)), .tup (SqT.of (n2 _ _ (s46 _ _ (d4 i x a hi ha)))) (.cons (.int _) (.cons (.str _) .nil)), wkD_shaped D (pin x (List.mem_of_getElem? hi)), wkD_shaped D (pin x (List.mem_of_getElem? hi)), _, rfl, ?_⟩
          · rw [List.getElem?_map] at hz
            obtain ⟨y, hy, rfl⟩ := Option.map_eq_some_iff.mp hz
            have : y ≠ x := fun e => by
              have := nd_ix pnd (e ▸ hy) hi
              omega
            simp [eqV, this]
          · rw [wkD_eqv]
            exact iteF ⟨s56.trans n2, _, _, _, _, rfl, (s5.trans s56).trans n2⟩
      · rintro σ H5 s45 ⟨v4, v5, v6, v7, rfl, s5⟩
        exact q H5 (s4.trans s45)
end
end MG
/-! text LQ -/
set_option Elab.async false
set_option linter.all false
set_option maxRecDepth 100000
set_option maxHeartbeats 4200000
/-! dict(pairs), the keys tuples -/
namespace MG
open PySem PySem.Spec PyProof.Rows L2
def mergeT (acc more : List (List Key × V)) : List (List Key × V) := more.foldl (fun a kv => putK a kv.1 kv.2) acc
section
variable {X : Cx} {pins : List (Addr × Obj)} {σ : L2.St}
/-- the list at l as it stands in the heap -/
theorem lst_at {H : Hp} {s : Shared} {l : Addr} {ps : List Addr} (I : L2.Inv X pins σ H s) (hl : H l = some (.lst (ps.map V.ref))) : ps.length ≤ sizeLine ∧ ∃ (o : Obj) (n : Nat), s.heap.get? l = some o ∧ o.cls = .type "list" ∧ o.dict = none ∧ o.data = .seq (ps.map Value.ref).toArray n := by
  obtain ⟨its, rv, ⟨o, n, at_, cls, nod, dat⟩, few⟩ := I.list (SqL.of hl)
  cases refs_at rv
  rw [List.length_map] at few
  exact ⟨few, o, n, at_, cls, nod, dat⟩
theorem under_ud {A : Around} {a : Args} : A.under (.builtin "dict.update.loop" a) = A.in1 := Around.under_plainId ud_plain a
/-- dict.update is at the i-th of the pairs: rest is left, acc is in the dict at S -/
structure UpdAt (X : Cx) (pins : List (Addr × Obj)) (σ : L2.St) (S It l : Addr) (ps : List Addr) (H1 : Hp) (rest : List (List Key × V)) (i : Nat) (acc : List (List Key × V)) (s : Shared) (H : Hp) : Prop where
  inv : L2.Inv X pins σ H s
  sav : Sav S H1 H
  dic : H S = some (.dT acc)
  lst : H l = some (.lst (ps.map V.ref))
  prs : ∀ (j : Nat) (q : List Key × V), rest[j]? = some q → ∃ b k : Addr, ps[i + j]? = some b ∧ H b = some (.tup [.ref k, q.2]) ∧ H k = some (.tup (q.1.map kV))
  itr : s.heap.IsListIter It l i
  out : FpOk X pins H It
  len : ps.length = i + rest.length
  few : acc.length + rest.length ≤ sizeLine
theorem updT_loop {A : Around} {R : Result → Shared → Prop} {S It l : Addr} {ps : List Addr} {res : Value} {fin : List (List Key × V)} {H1 : Hp} (calm : A.handled = none) (hu : A.in1.units + 1 < cLine) (ends : ∀ s' H', L2.Inv X pins σ H' s' → Sav S H1 H' → H' S = some (.dT fin) → R (.ok (.ret res)) s') (rest : List (List Key × V)) :
    ∀ (i : Nat) (acc : List (List Key × V)) (ix : Int) (t : Tok) (s : Shared) (H : Hp), UpdAt X pins σ S It l ps H1 rest i acc s H → mergeT acc rest = fin → codeAny (model X.prog X.w) A (.builtin "dict.update.loop" ⟨[.ref S, .ref It, .int ix t, res], []⟩) R s := by
  induction rest with
  | nil =>
    intro i acc ix t s H u e
    obtain ⟨_, o, n, at_, cls, _, dat⟩ := lst_at u.inv u.lst
    have len : ps.length = i := u.len
    refine codeAny_builtin ud_entry (by
      rw [under_ud]
      refine wpAny_bind (m := pyNext (.ref It)) (wpAny_pyNext_list_end (A := A.in1) calm u.itr ⟨o, at_, cls, n, dat⟩ (by simp [len]) fun h' k => ?_)
      have J := u.inv.turned (t' := s.toks) (h' := h') (fun b o n z => k b o n z) u.out.1 u.out.2.1 u.out.2.2.2.1 u.out.2.2.2.2.1 u.out.2.2.2.2.2
      exact wpAny_bind (m := Builtin.Dict.addKeywords S []) (wpAny_pure (wpAny_pure (ends _ H J u.sav (by rw [← e]; exact u.dic)))))
  | cons q rest ih =>
    intro i acc ix t s H u e
    obtain ⟨b, k, eb, hb, hk⟩ := u.prs 0 q rfl
    have few := u.few
    have len := u.len
    rw [Nat.add_zero] at eb
    rw [List.length_cons] at few
    rw [List.length_cons] at len
    obtain ⟨_, o, n, at_, cls, _, dat⟩ := lst_at u.inv u.lst
    have lS : l ≠ S := fun z => by have y := u.lst; rw [z, u.dic] at y; cases y
    refine codeAny_builtin ud_entry (by
      rw [under_ud]
      refine wpAny_bind (m := pyNext (.ref It)) (wpAny_pyNext_list_item (x := .ref b) u.itr ⟨o, at_, cls, n, dat⟩ (by simp [eb]) fun h1 itr1 sb1 => ?_)
      -- the iterator has turned; the pair is opened
      have I1 := u.inv.turned (t' := s.toks) (h' := h1) (fun b o n z => (sb1.2 b n).trans z) u.out.1 u.out.2.1 u.out.2.2.2.1 u.out.2.2.2.2.1 u.out.2.2.2.2.2
      obtain ⟨its, rv, tup, _⟩ := I1.tuple (SqT.of (K := X.K) hb)
      obtain ⟨kw, vw, rfl, rk, rv2⟩ := vals2 rv
      cases rk
      obtain ⟨ot, at2, cls2, n2, dat2⟩ := tup
      refine wpAny_bind (m := holding [Value.ref b] _) (wpAny_holding (wpAny_bind (wpAny_tryCatch ?_)))
      unfold Builtin.Dict.pairItems
      refine wpAny_bind (wpAny_typeOf (T := "tuple") ⟨ot, at2, cls2⟩ ?_)
      rw [if_pos (by first | decide | rfl | simp only [])]
      refine wpAny_bind (wpAny_seqItems at2 dat2 (wpAny_pure ?_))
      obtain ⟨oI, atI, clsI, datI⟩ := id itr1
      have I2 := I1.pinned (fp := [It]) (fun c hc => by rw [List.mem_singleton.mp hc]; exact u.out) fun c hc => ⟨oI, by rw [List.mem_singleton.mp hc]; exact atI, fun v z => by rw [datI] at z; cases z⟩
      show wpAny _ A.in1 (holding [Value.ref k, vw] (dictSet S (.ref k) vw)) _ _ _
      refine wpAny_holding (d_dictSetT (k := q.1) (v := q.2) hu I2 u.dic hk (by omega) rfl rv2 fun s3 I3 => wpAny_pure ⟨plainId_quiet ud_plain _, ih (i + 1) (putK acc q.1 q.2) (ix + 1) 0 s3 (upd H S (.dT (putK acc q.1 q.2))) ?_ e⟩)
      have pin := I3.pin (It, oI) (List.mem_append_right _ (List.mem_append_right _ (mem_pinsAt List.mem_cons_self atI)))
      have keep : ∀ {c : Addr} {xs : List V}, H c = some (.tup xs) → (upd H S (.dT (putK acc q.1 q.2))) c = some (.tup xs) := fun {c xs} z => (upd_ne fun y => by rw [y, u.dic] at z; cases z).trans z
      have more := length_putK acc q.1 q.2
      exact {
        inv := I3.unpinned
        sav := u.sav.trans Sav.upd
        dic := upd_same
        lst := (upd_ne lS).trans u.lst
        prs := fun j q' z => by
          obtain ⟨b', k', h2, h3, h4⟩ := u.prs (j + 1) q' z
          exact ⟨b', k', by rw [Nat.add_right_comm, Nat.add_assoc]; exact h2, keep h3, keep h4⟩
        itr := ⟨oI, pin.1, clsI, datI⟩
        out := ⟨pin.2.1, u.out.2⟩
        len := by omega
        few := by omega })
/-- dict(xs) of a list of pairs (tuple, value) -/
theorem call_dictPT {j : Nat} (hr : Room j X.A) (calm : X.calm = true) : CallR X (.type "dict") (fun xs H Q => ∃ (a : Addr) (ps : List Addr) (kvs : List (List Key × V)), xs = [.ref a] ∧ H a = some (.lst (ps.map V.ref)) ∧ ps.length = kvs.length ∧
    (∀ (j : Nat) (q : List Key × V), kvs[j]? = some q → ∃ b k : Addr, ps[j]? = some b ∧ H b = some (.tup [.ref k, q.2]) ∧ H k = some (.tup (q.1.map kV))) ∧ ∀ (p : Addr) (H' : Hp), H p = none → Same H H' → H' p = some (.dT (mergeT [] kvs)) → Q (.ref p) H') := by
  rintro pins s σ H xs us Q I r ⟨l, ps, kvs, rfl, hl, len, prs, q⟩
  rcases vals1 r with ⟨_, rfl, rfl⟩
  have none_ : H s.heap.objs.size = none := I.hok.fresh (Nat.le_refl _)
  have keep := Same.new (o := .dT []) none_
  have hl1 := keep _ _ hl
  refine callType_codes (Q₁ := fun x t => x = .ref s.heap.objs.size ∧ t = { s with heap := s.heap.push { cls := .type "dict", data := .dict #[] } }) PySem.F.kt_called_dict (PySem.F.kt_typeCall_dict_1 _) PySem.F.entry_dict_init (kt_code_dict_new _ ⟨rfl, rfl⟩) ?_
  rintro _ _ ⟨rfl, rfl⟩
  have dic := Heap.DictOf.new (knd := mixKind X.prog X.w) s.heap
  have I1 := I.laid (t' := s.toks) (fun _ _ e => Heap.get?_push_of_some _ e) (Nat.le_refl _) (dt_empty s.heap I.big)
  obtain ⟨few, o, n, at_, cls, nod, dat⟩ := lst_at I1 hl1
  have un := hr.un
  -- the walk over the list's iterator, made at the state t
  have walk : ∀ (t : Shared), L2.Inv X pins σ (upd H s.heap.objs.size (.dT [])) t → t.os = s.os → codeAny (model X.prog X.w) X.A.in1 (.builtin "dict.update.loop" ⟨[.ref s.heap.objs.size, .ref t.heap.objs.size, .int 0 0, .none], []⟩) (wants (fun r s2 => r = .none ∧ EP X pins σ Q (.ref s.heap.objs.size) s2) X.xe) { t with heap := t.heap.push { cls := .type "list_iterator", data := .fields #[.ref l, .int 0 0] } } := fun t J _ => by
    have out : FpOk X pins (upd H s.heap.objs.size (.dT [])) t.heap.objs.size := J.fpOk (Nat.le_refl _) (J.hok.fresh (Nat.le_refl _))
    refine updT_loop (A := X.A.in1) (l := l) (ps := ps) (fin := mergeT [] kvs) (H1 := H) (I.ok.hd calm) (by show X.A.units + 1 + 1 + 1 < cLine; omega) (fun s' G J' sv hS => ⟨rfl, .ref s.heap.objs.size, G, J', rfl, q _ G none_ (Sav.same sv none_) hS⟩) kvs 0 [] 0 0 _ (upd H s.heap.objs.size (.dT [])) ?_ rfl
    exact {
      inv := J.kept (t' := t.toks) fun _ _ e => Heap.get?_push_of_some _ e
      sav := Sav.upd
      dic := upd_same
      lst := hl1
      prs := fun j q' e => by
        obtain ⟨b, k, e1, e2, e3⟩ := prs j q' e
        exact ⟨b, k, by rw [Nat.zero_add]; exact e1, keep _ _ e2, keep _ _ e3⟩
      itr := ⟨_, Heap.get?_push_size _ rfl, rfl, rfl⟩
      out := out
      len := by rw [len, Nat.zero_add]
      few := by rw [List.length_nil, Nat.zero_add, ← len]; exact few }
  refine ⟨dic.typeIs, PySem.F.args_dict_init_2 _ _, ?_⟩
  unfold Builtin.«dict.__init__» Builtin.Dict.selfAndRest
  refine wpAny_bind (wpAny_bind (wpAny_notOrdered_dict dic.typeIs (wpAny_pure (a := (s.heap.objs.size, [Value.ref l])) ?_)))
  show wpAny _ X.A.in1.in1 (Builtin.Dict.updateFrom "dict.__init__" s.heap.objs.size (Value.ref l) [] Value.none) _ _ _
  delta Builtin.Dict.updateFrom
  refine wpAny_bind (wpAny_typeOf (T := "list") ⟨o, at_, cls⟩ ?_)
  rw [if_pos (by first | decide | rfl | simp only [])]
  refine wpAny_bind (miss_list at_ cls dat nod (I.ok.hd calm) fun h1 t1 k1 => ?_)
  rw [if_pos (show Option.isNone (none : Option Value) = true from rfl)]
  refine wpAny_bind (wpAny_rule (wpAny_bind (wpAny_pyIter_list ⟨o, k1 _ _ at_, cls, n, dat⟩ ?_)))
  have go := walk { s with heap := h1, toks := t1 } (I1.kept (t' := t1) k1) rfl
  have both := And.intro (plainId_quiet ud_plain ⟨[.ref s.heap.objs.size, .ref h1.objs.size, .int 0 0, .none], []⟩) go
  exact (by first | exact wpAny_pure both | exact wpAny_bind (wpAny_pure (wpAny_pure both)))
end
theorem mergeT_app : ∀ (more acc : List (List Key × V)), ((acc ++ more).map (·.1)).Nodup → mergeT acc more = acc ++ more
  | [], acc, _ => by rw [List.append_nil]; rfl
  | p :: more, acc, h => by
    have hk : valV acc p.1 = none := val_none fun hm => by
      rw [List.map_append, List.map_cons] at h
      have h2 := (List.nodup_append.mp h).2.2
      exact h2 _ hm _ List.mem_cons_self rfl
    show mergeT (putK acc p.1 p.2) more = _
    rw [putK_new _ hk]
    have e : acc ++ p :: more = (acc ++ [(p.1, p.2)]) ++ more := by rw [List.append_assoc]; rfl
    rw [e] at h ⊢
    exact mergeT_app more _ h
end MG
/-! text LR0 -/
set_option Elab.async false
set_option linter.all false
set_option maxRecDepth 100000
set_option maxHeartbeats 4200000
/-! the tree and the places stand while one draws -/
namespace MG
open PySem PySem.Spec PyProof.Rows L2
theorem Rng.off {r b : Addr} {H : Hp} {o : HO} (h : Rng r H) (e : H b = some o) (ho : ∀ x y : Int, o ≠ .lst [.int x, .int y]) : b ≠ r := fun z => by
  obtain ⟨x, y, hr, _⟩ := h
  rw [z, hr] at e
  exact ho x y (Option.some.inj e).symm
theorem off_strs {l : List Str} : ∀ x y : Int, HO.lst (l.map V.str) ≠ .lst [.int x, .int y] := fun x y e => by
  have e := HO.lst.inj e
  cases l with
  | nil => cases e
  | cons a l => cases e
theorem PlX.rs {r p : Addr} {H H' : Hp} {ns : List Str} {par lab : Str → Str} {ad : Str → Addr} (h : PlX H p ns par lab ad) (hr : Rng r H) (s : RS r H H') : PlX H' p ns par lab ad := by
  have hp := s.at h.2 (hr.off h.2 fun _ _ e => by cases e)
  exact ⟨⟨.inl hp, fun n hn => s.at (h.1.t n hn) (hr.off (h.1.t n hn) fun _ _ e => by cases e)⟩, hp⟩
theorem Ob.rs {C r a : Addr} {H H' : Hp} {fs : List (Str × V)} (h : Ob C H a fs) (hr : Rng r H) (s : RS r H H') : Ob C H' a fs := by
  obtain ⟨dx, hx⟩ := h.at_
  exact ⟨⟨dx, s.at hx (hr.off hx fun _ _ e => by cases e)⟩, h.no, h.few⟩
theorem TreeOk.rs {C r a : Addr} {H H' : Hp} {ns : List Str} {par lab : Str → Str} (h : TreeOk C H a ns par lab) (hr : Rng r H) (s : RS r H H') : TreeOk C H' a ns par lab := by
  obtain ⟨⟨fs, p, ad, h1, h2, h3, h4⟩, ⟨fs2, p2, ca, g1, g2, g3, g4⟩, ⟨fs3, p3, k1, k2, k3⟩, ⟨fs4, hh, m1, m2, m3⟩⟩ := h
  have hx := PlX.rs ⟨h3, h4⟩ hr s
  exact ⟨⟨fs, p, ad, h1.rs hr s, h2, hx.1, hx.2⟩, ⟨fs2, p2, ca, g1.rs hr s, g2, s.at g3 (hr.off g3 fun _ _ e => by cases e), fun n hn => s.at (g4 n hn) (hr.off (g4 n hn) off_strs)⟩, ⟨fs3, p3, k1.rs hr s, k2, s.at k3 (hr.off k3 fun _ _ e => by cases e)⟩, ⟨fs4, hh, m1.rs hr s, m2, m3⟩⟩
end MG
/-! text LR -/
set_option Elab.async false
set_option linter.all false
set_option maxRecDepth 100000
set_option maxHeartbeats 4200000
/-! node_at of all paths -/
namespace MG
open PySem PySem.Spec PyProof.Rows L2
/-- the nodes by their paths -/
def knownT (ns : List Str) (par lab : Str → Str) : List (List Key × V) := (Rt :: ns).map fun n => ((path par lab Rt n).map fun x => (Sum.inr x : Key), V.str n)
theorem path_inj2 {ns : List Str} {par lab : Str → Str} (D : TD ns par lab) {n m : Str} (hn : n = Rt ∨ n ∈ ns) (hm : m = Rt ∨ m ∈ ns) (e : path par lab Rt n = path par lab Rt m) : n = m := by
  have h1 := (nodeAt_iff D.T D.ap (path par lab Rt n) n).mpr ⟨hn, rfl⟩
  have h2 := (nodeAt_iff D.T D.ap (path par lab Rt n) m).mpr ⟨hm, e.symm⟩
  rw [h1] at h2
  exact Option.some.inj h2
theorem keys_inj {l m : List Str} (e : (l.map fun x => (Sum.inr x : Key)) = m.map fun x => (Sum.inr x : Key)) : l = m := by
  induction l generalizing m with
  | nil => cases m with
    | nil => rfl
    | cons b m => cases e
  | cons a l ih => cases m with
    | nil => cases e
    | cons b m =>
      have e1 := List.cons.inj e
      rw [Sum.inr.inj e1.1, ih e1.2]
theorem knownT_nd {ns : List Str} {par lab : Str → Str} (D : TD ns par lab) : ((knownT ns par lab).map (·.1)).Nodup := by
  unfold knownT
  rw [List.map_map]
  refine List.Pairwise.map (R := fun a b => a ∈ Rt :: ns ∧ b ∈ Rt :: ns ∧ a ≠ b) _ (fun a b h e => ?_) (List.Pairwise.imp_of_mem (fun ha hb h => ⟨ha, hb, h⟩) (List.nodup_cons.mpr ⟨D.T.nr, D.T.nd⟩))
  exact h.2.2 (path_inj2 D (List.mem_cons.mp h.1) (List.mem_cons.mp h.2.1) (keys_inj e))
theorem known_val (par lab : Str → Str) (l : List Str) : ∀ ms : List Str, valV (ms.map fun n => ((path par lab Rt n).map fun x => (Sum.inr x : Key), V.str n)) (l.map fun x => (Sum.inr x : Key)) = (ms.find? fun n => decide (path par lab Rt n = l)).map V.str
  | [] => rfl
  | m :: ms => by
    rw [List.map_cons, List.find?_cons]
    by_cases h : path par lab Rt m = l
    · rw [decide_eq_true h]
      exact valV_pos (p := ((path par lab Rt m).map fun x => (Sum.inr x : Key), V.str m)) (by rw [h])
    · rw [decide_eq_false h, ← known_val par lab l ms]
      exact valV_neg (p := ((path par lab Rt m).map fun x => (Sum.inr x : Key), V.str m)) fun e => h (keys_inj e)
theorem Told.rs {r : Addr} {H H' : Hp} {v : V} (h : Told H v) (hv : v ≠ .ref r) (s : RS r H H') : Told H' v := by
  cases v with
  | ref a =>
    have ha : a ≠ r := fun e => hv (by rw [e])
    rcases h with ⟨xs, h⟩ | ⟨xs, h⟩ | ⟨xs, h⟩
    · exact .inl ⟨xs, s.at h ha⟩
    · exact .inr (.inl ⟨xs, s.at h ha⟩)
    · exact .inr (.inr ⟨xs, s.at h ha⟩)
  | _ => exact h
theorem cut_mem {xs : List V} {lo : Option Int} {z : V} (h : z ∈ cutV xs lo none) : z ∈ xs := by
  unfold cutV at h
  exact List.mem_of_mem_drop (List.mem_of_mem_take h)
theorem cut_le (xs : List V) (k : Nat) : (cutV xs none (some (k : Int))).length ≤ k := by
  unfold cutV
  have e1 : HT.sIx xs.length 0 none = 0 := rfl
  rw [e1, HT.sIx_nat, List.drop_zero, Nat.sub_zero, List.length_take]
  omega
theorem cut_memT {xs : List V} {hi : Option Int} {z : V} (h : z ∈ cutV xs none hi) : z ∈ xs := by
  unfold cutV at h
  exact List.mem_of_mem_drop (List.mem_of_mem_take h)
theorem all_strs : ∀ zs : List V, (zs.map strV).all id = true → ∃ ls : List Str, zs = ls.map V.str
  | [], _ => ⟨[], rfl⟩
  | z :: zs, h => by
    rw [List.map_cons, List.all_cons, Bool.and_eq_true] at h
    obtain ⟨ls, rfl⟩ := all_strs zs h.2
    obtain ⟨l, rfl⟩ := strV_yes h.1
    exact ⟨l :: ls, rfl⟩
theorem not_strs : ∀ zs : List V, (zs.map strV).all id = false → none ∈ zs.map lblOf
  | [], h => by cases h
  | z :: zs, h => by
    rw [List.map_cons]
    rw [List.map_cons, List.all_cons] at h
    cases e : strV z with
    | false => rw [strV_lbl e]; exact List.mem_cons_self
    | true =>
      have e' : id (strV z) = true := e
      rw [e', Bool.true_and] at h
      exact List.mem_cons_of_mem _ (not_strs zs h)
def spPaths (C : Addr) : Sp := fun vs H Q _ => ∃ (r t p : Addr) (ns : List Str) (par lab : Str → Str) (ad : Str → Addr), vs = [.ref r, .ref t, .ref p] ∧ Rng r H ∧ TreeOk C H t ns par lab ∧ PlX H p ns par lab ad ∧ TD ns par lab ∧ ∀ H', RS r H H' → Q (.bl true) H'
section
variable {P : Program} {w : World} {K : PySem.W.Frag} {mg : Str → Option Value} {base : Heap} {C U : Addr}
theorem sc_s_paths_right : FnScope ["_law_rng_here", "_law_tree", "_law_places_here", "_law_known", "_law_node", "_law_path_here", "_law_odd", "_law_longer", "_law_due_here", "_law_one"] ["_law_rng_here", "_law_tree", "_law_places_here"] (defScope s_paths_right) := ⟨rfl, rfl, rfl, by decide +kernel, rfl, by decide +kernel, by decide +kernel⟩
theorem ok_paths_right {f : Addr} {fd : FuncData} (T : Txt K mg C) (F : Fun K "_law_paths_right" "_law_paths_right" s_paths_right f fd) (hm : mg "_law_paths_right" = some (.ref f)) (c__law_draw : Cal P w K mg base 1 "_law_draw" spDraw) (c__law_choice : Cal P w K mg base 2 "_law_choice" spChoice) (c__law_path : Cal P w K mg base 2 "_law_path" spPathL)
    (c__law_at : Cal P w K mg base 2 "_law_at" (spAtL C)) : Cal P w K mg base 3 "_law_paths_right" (spPaths C) := by
  refine ⟨f, fd, ["_law_rng_here", "_law_tree", "_law_places_here"], ?_, hm, F.kp, F.binds (ps := ["_law_rng_here", "_law_tree", "_law_places_here"]) fun _ _ _ _ _ _ us hl => match us, hl with | [_, _, _], _ => rfl⟩
  refine F.okX sc_s_paths_right (fun vs H Q E h => ?_) (fun cdv A outer s H vs Q E hr h => ?_)
  · obtain ⟨r, t, p, ns, par, lab, ad, rfl, _⟩ := h
    rfl
  · obtain ⟨r, t, p, ns, par, lab, ad, rfl, hR, hT, hp, D, q⟩ := h
    refine ⟨_, PSs.nox (pss_cons (ps_set (i := 3) sc_s_paths_right.nd rfl (Or.inl rfl) (pe_callTy (call_dictPT hr rfl) (by rfl) T.g_dict bt_dict (pa_cons (pe_lc (own := [("_law_node", 4)]) (g := gName 4) (tt := tYes) rfl sc_s_paths_right.nd (pi_list (pe_op op_cat (pe_lst (pa_cons pe_str pa_nil)) (pe_callTy (call_list_dK rfl) (by rfl) T.g_list bt_list (pa_cons (pv 2) pa_nil)))) (blkOk_by (own := [("_law_node", 4)]) (N := ["_law_rng_here", "_law_tree", "_law_places_here", "_law_known", "_law_node", "_law_path_here", "_law_odd", "_law_longer", "_law_due_here", "_law_one"]) (sc := defScope s_paths_right) (by decide +kernel)) (fun _ _ _ _ _ => pg_name (i := 4) sc_s_paths_right.nd rfl (Or.inl rfl)) (fun _ _ _ _ _ => pts_nil) (fun _ _ _ _ _ => (pe_tup (pa_cons (pe_cl c__law_path hr (by decide) (by rfl) (pa_cons (pv 2) (pa_cons (pv 4) pa_nil))) (pa_cons (pv 4) pa_nil))))) pa_nil)))
    (pss_cons (ps_lock (ps_for PassesOwn.never rfl (pi_keys (pv 3)) (pg_name (i := 5) sc_s_paths_right.nd rfl (Or.inl rfl))
    (pss_cons (ps_if (PW.pt (pw_and (pt_cmpR op_lt (pe_callB call_len_seq (by rfl) T.g_len bt_len (pa_cons (pv 5) pa_nil)) pe_int (nomark _)) (pw_and1 (pt_cmpR op_ne (pe_cl c__law_at hr (by decide) (by rfl) (pa_cons (pv 1) (pa_cons (pe_callTy call_list_of (by rfl) T.g_list bt_list (pa_cons (pv 5) pa_nil)) pa_nil))) (pe_dget (hu_of hr) (pv 3) (pv 5) (fun _ _ => rfl)) (nomark _))))) (pss_one (ps_ret pe_bl)) pss_nil)
    (pss_cons (ps_set (i := 6) sc_s_paths_right.nd rfl (Or.inl rfl) (pe_cl c__law_choice hr (by decide) (by rfl) (pa_cons (pv 0) (pa_cons (pe_lst (pa_cons pe_non (pa_cons pe_int (pa_cons pe_bl (pa_cons pe_str (pa_cons pe_str (pa_cons (pe_tup pa_nil) (pa_cons (pe_lst pa_nil) (pa_cons pe_dnewK (pa_cons (pe_tup (pa_cons pe_str pa_nil)) (pa_cons (pe_lst (pa_cons pe_str pa_nil)) (pa_cons pe_str (pa_cons pe_str (pa_cons pe_str (pa_cons (pe_op op_pow pe_int pe_int) pa_nil))))))))))))))) pa_nil))))
    (pss_cons (ps_set (i := 7) sc_s_paths_right.nd rfl (Or.inl rfl) (pe_slice sl_list (pe_op op_cat (pe_slice sl_list (pe_callTy call_list_of (by rfl) T.g_list bt_list (pa_cons (pv 5) pa_nil)) po_none (po_some pe_int)) (pe_lst (pa_cons (pv 6) pa_nil))) (po_some (pe_un un_neg (pe_cl c__law_draw hr (by decide) (by rfl) (pa_cons (pv 0) (pa_cons pe_int pa_nil))))) po_none))
    (pss_cons (ps_set (i := 8) sc_s_paths_right.nd rfl (Or.inl rfl) (pe_ifExp (pt_val (pe_callB (cr_all rfl) (by rfl) T.g_all bt_all (pa_cons (pe_lc (own := [("_law_one", 9)]) (g := gName 9) (tt := tYes) rfl sc_s_paths_right.nd (pi_list (pv 7)) (blkOk_by (own := [("_law_one", 9)]) (N := ["_law_rng_here", "_law_tree", "_law_places_here", "_law_known", "_law_node", "_law_path_here", "_law_odd", "_law_longer", "_law_due_here", "_law_one"]) (sc := defScope s_paths_right) (by decide +kernel)) (fun _ _ _ _ _ => pg_name (i := 9) sc_s_paths_right.nd rfl (Or.inl rfl)) (fun _ _ _ _ _ => pts_nil) (fun _ _ _ _ _ => (pe_callB (call_isiK (K := K) rfl) (by rfl) T.g_isinstance bt_isinstance (pa_cons (pv 9) (pa_cons (pe_bltn (v := .ty "str") (by rfl) T.g_str bt_str rfl) pa_nil))))) pa_nil))) (pe_dget1 (hu_of hr) (pv 3) (pe_callTy call_tuple_of (by rfl) T.g_tuple bt_tuple (pa_cons (pv 7) pa_nil)) ⟨rfl, rfl, rfl, rfl⟩) pe_non))
    (pss_one (ps_if (pt_cmpR op_ne (pe_cl c__law_at hr (by decide) (by rfl) (pa_cons (pv 1) (pa_cons (pv 7) pa_nil))) (pv 8) (nomark _)) (pss_one (ps_ret pe_bl)) pss_nil))))))))
    (pss_one (ps_ret pe_bl)))), ?_⟩
    have T0 := D.T
    have few := D.few
    have ek : (ns.map fun n => ((Sum.inr n : Key), V.ref (ad n))).map (fun kv => kV kv.1) = ns.map V.str := by rw [List.map_map]; rfl
    have n1 : ∀ {H' : Hp} {b : Addr}, RS r H H' → H' b = none → b ≠ r := fun s h e => s.rg.ne (e ▸ h)
    refine ⟨by show 1 ≤ sizeLine; decide, fun q1 hq1 => ?_⟩
    have m1 := Same.new (o := .lst [.str Rt]) hq1
    refine ⟨_, rfl, p, _, rfl, m1 _ _ hp.2, fun q2 hq2 => ?_⟩
    rw [ek]
    have m2 := m1.trans (Same.new (o := .lst (ns.map V.str)) hq2)
    refine ⟨q1, q2, [.str Rt], ns.map V.str, rfl, rfl, Same.new hq2 _ _ upd_same, upd_same, by rw [List.length_map, sz]; show 1 + _ ≤ _; omega, fun q3 hq3 => ?_⟩
    have m3 := m2.trans (Same.new (o := .lst ([.str Rt] ++ ns.map V.str)) hq3)
    refine ⟨q3, rfl, ⟨_, SqL.of upd_same⟩, fun D0 hD0 => lc_freshD (walk_list (xs := (Rt :: ns).map V.str)) hD0 (fun i a H' => ∃ n k, (Rt :: ns)[i]? = some n ∧ H' a = some (.tup [.ref k, .str n]) ∧ H' k = some (.tup ((path par lab Rt n).map V.str)) ∧ k ≠ D0) (fun i a H1 H2 na s ⟨n, k, hn, h1, h2, h3⟩ => ⟨n, k, hn, s a _ na h1, s k _ h3 h2, h3⟩) (fun i a H1 ⟨n, k, _, h, _⟩ e => by rw [h] at e; cases e)
      (by rw [List.length_map, List.length_cons, sz]; omega) (fun H' s => SqL.of (s _ _ upd_same)) ?_ ?_⟩
    · rintro i v Ha Hb Kt hi sab hDn ⟨rfl, hv⟩ k
      rw [List.getElem?_map] at hv
      obtain ⟨n, hn, rfl⟩ := Option.map_eq_some_iff.mp hv
      have hnn := List.mem_cons.mp (List.mem_of_getElem? hn)
      refine ⟨rfl, _, rfl, _, rfl, p, n, ns, par, lab, ad, rfl, (hp.same (m3.trans sab)).1, D, hnn, fun k1 H2 hk1 s2 hkv => ⟨_, rfl, by show 2 ≤ sizeLine; decide, fun a ha => ?_⟩⟩
      exact k a _ (s2.trans (Same.new ha)) (s2.free ha) ⟨n, k1, hn, upd_same, Same.new ha _ _ hkv, fun e => hDn (e ▸ hk1)⟩
    · intro H1 as s1 hD1 hla hand hat
      rw [List.length_map] at hla
      refine ⟨D0, as, knownT ns par lab, rfl, hD1, by rw [hla]; exact (List.length_map ..).symm, fun j qq e => ?_, fun kd Hk hkd sk hkv => ?_⟩
      · unfold knownT at e
        rw [List.getElem?_map] at e
        obtain ⟨n, hn, rfl⟩ := Option.map_eq_some_iff.mp e
        have hj : j < as.length := by rw [hla]; exact (List.getElem?_eq_some_iff.mp hn).1
        obtain ⟨⟨m, k, h1, h2, h3, _⟩, _⟩ := hat j as[j] (List.getElem?_eq_getElem hj)
        rw [hn] at h1
        cases h1
        exact ⟨as[j], k, List.getElem?_eq_getElem hj, h2, by rw [List.map_map]; exact h3⟩
      rw [show mergeT [] (knownT ns par lab) = knownT ns par lab from mergeT_app _ [] (knownT_nd D)] at hkv
      have sH : Same H Hk := (m3.trans s1).trans sk
      have k0 : H kd = none := (m3.trans s1).free hkd
      have kr : kd ≠ r := fun e => hR.ne (e ▸ k0)
      have sR : RS r H Hk := RS.of sH hR
      refine ⟨kd, _, hkv, trivial, fun od => ?_⟩
      have sB : RS r H (upd Hk kd (.frz od (.dT (knownT ns par lab)))) := sR.mut k0 kr
      have hTb := hT.rs hR sB
      refine ⟨_, rfl, kd, od, rfl, .inr ⟨_, upd_same, for_it walk_keysT (fun i σ H' => ∃ (v4 v5 v6 v7 v8 v9 : Option V), σ = [some (.ref r), some (.ref t), some (.ref p), some (.ref kd), v4, v5, v6, v7, v8, v9] ∧ RS r (upd Hk kd (.frz od (.dT (knownT ns par lab)))) H') ⟨_, _, _, _, _, _, rfl, RS.refl sB.rg⟩ (fun i σ H' _ ⟨_, _, _, _, _, _, _, s⟩ => s.at upd_same kr) ?_ ?_⟩⟩
      · rintro i x σ H2 H3 hi ⟨v4, v5, v6, v7, v8, v9, rfl, s2⟩ ⟨rfl, k, v, qk, hkv2, rfl, hq⟩
        unfold knownT at hkv2
        rw [List.getElem?_map] at hkv2
        obtain ⟨n, hn, e0⟩ := Option.map_eq_some_iff.mp hkv2
        obtain ⟨rfl, rfl⟩ := Prod.mk.inj e0
        have hnn := List.mem_cons.mp (List.mem_of_getElem? hn)
        have hq : H3 qk = some (.tup ((path par lab Rt n).map V.str)) := by rw [hq, List.map_map]; rfl
        have qr : qk ≠ r := s2.rg.off hq fun _ _ e => by cases e
        have hkd3 := s2.at upd_same kr
        refine ⟨_, rfl, qk, _, rfl, .inr (SqT.of hq), _, _, rfl, rfl, _, rfl, ?_⟩
        have eN : optV (nodeAt ns par lab Rt (((path par lab Rt n).map V.str).map lblOf)) = .str n := by
          rw [List.map_map]
          exact congrArg optV ((nodeAt_iff T0 D.ap (path par lab Rt n) n).mpr ⟨hnn, rfl⟩)
        refine iteD (fun h6 => ?_) (fun h6 => ?_)
        · rw [List.length_map] at h6
          refine ⟨_, rfl, _, rfl, qk, _, rfl, .inr (SqT.of hq), fun l5 hl5 => ?_⟩
          have w1 := Same.new (o := .lst ((path par lab Rt n).map V.str)) hl5
          have sT := s2.trans (RS.of w1 s2.rg)
          refine ⟨t, l5, _, ns, par, lab, rfl, upd_same, by rw [List.length_map]; omega, (hTb.rs sB.rg sT).tn, few, fun z hz => ?_, fun H4 s4 => ?_⟩
          · obtain ⟨y, _, rfl⟩ := List.mem_map.mp hz
            trivial
          rw [eN]
          have w2 := w1.trans s4
          have hkd4 := w2 _ _ hkd3
          have hq4 := w2 _ _ hq
          have kv : valV (knownT ns par lab) ((path par lab Rt n).map fun x => (Sum.inr x : Key)) = some (.str n) := by
            unfold knownT
            rw [known_val, ← nodeAt_table T0 D.ap, (nodeAt_iff T0 D.ap (path par lab Rt n) n).mpr ⟨hnn, rfl⟩]; rfl
          refine ⟨_, rfl, _, rfl, kd, .str n, rfl, .inr ⟨knownT ns par lab, (path par lab Rt n).map fun x => (Sum.inr x : Key), qk, .inr ⟨od, hkd4⟩, rfl, by rw [List.map_map]; exact hq4, kv.symm⟩, rfl, _, rfl, iteND (fun h => absurd rfl h) fun _ => ?_⟩
          have s5 := s2.trans (RS.of w2 s2.rg)
          have u0 : RS r H3 _ := RS.of w2 s2.rg
          refine ⟨_, rfl, by show 0 ≤ sizeLine; decide, fun t1 ht1 => ?_⟩
          have u1 := u0.trans (RS.new (o := .tup []) u0.rg ht1)
          refine ⟨by show 0 ≤ sizeLine; decide, fun t2 ht2 => ?_⟩
          have u2 := u1.trans (RS.new (o := .lst []) u1.rg ht2)
          refine fun t3 ht3 => ?_
          have u3 := u2.trans (RS.new (o := .dK []) u2.rg ht3)
          refine ⟨by show 1 ≤ sizeLine; decide, fun t4 ht4 => ?_⟩
          have u4 := u3.trans (RS.new (o := .tup [.str "a"]) u3.rg ht4)
          refine ⟨by show 1 ≤ sizeLine; decide, fun t5 ht5 => ?_⟩
          have u5 := u4.trans (RS.new (o := .lst [.str "a"]) u4.rg ht5)
          refine ⟨_, _, rfl, rfl, ⟨by decide, by decide, by decide⟩, by show 14 ≤ sizeLine; decide, fun l6 hl6 => ?_⟩
          refine ⟨r, l6, _, rfl, (RS.new u5.rg hl6).rg, fun e => u5.rg.ne (e ▸ hl6), upd_same, by show 0 < 14; decide, by show 14 ≤ 1000; decide, fun d y H7 s7 hy => ?_⟩
          have toldy : Told H7 y ∧ y ≠ .ref r := by
            have g1 : t1 ≠ r := fun e => u0.rg.ne (e ▸ ht1)
            have g2 : t2 ≠ r := fun e => u1.rg.ne (e ▸ ht2)
            have g3 : t3 ≠ r := fun e => u2.rg.ne (e ▸ ht3)
            have g4 : t4 ≠ r := fun e => u3.rg.ne (e ▸ ht4)
            have g5 : t5 ≠ r := fun e => u4.rg.ne (e ▸ ht5)
            have k1 := s7.at (Same.new hl6 _ _ (Same.new ht5 _ _ (Same.new ht4 _ _ (Same.new ht3 _ _ (Same.new ht2 _ _ (upd_same (a := t1) (o := .tup []))))))) g1
            have k2 := s7.at (Same.new hl6 _ _ (Same.new ht5 _ _ (Same.new ht4 _ _ (Same.new ht3 _ _ (upd_same (a := t2) (o := .lst [])))))) g2
            have k3 := s7.at (Same.new hl6 _ _ (Same.new ht5 _ _ (Same.new ht4 _ _ (upd_same (a := t3) (o := .dK []))))) g3
            have k4 := s7.at (Same.new hl6 _ _ (Same.new ht5 _ _ (upd_same (a := t4) (o := .tup [.str "a"])))) g4
            have k5 := s7.at (Same.new hl6 _ _ (upd_same (a := t5) (o := .lst [.str "a"]))) g5
            have hm := List.mem_of_getElem? hy
            simp only [List.mem_cons, List.not_mem_nil, or_false] at hm
            have nr : ∀ a : Addr, a ≠ r → V.ref a ≠ .ref r := fun a h e => h (V.ref.inj e)
            rcases hm with h | h | h | h | h | h | h | h | h | h | h | h | h | h
            · subst h; exact ⟨trivial, fun e => by cases e⟩
            · subst h; exact ⟨trivial, fun e => by cases e⟩
            · subst h; exact ⟨trivial, fun e => by cases e⟩
            · subst h; exact ⟨trivial, fun e => by cases e⟩
            · subst h; exact ⟨trivial, fun e => by cases e⟩
            · subst h; exact ⟨.inr (.inl ⟨_, k1⟩), nr _ g1⟩
            · subst h; exact ⟨.inl ⟨_, k2⟩, nr _ g2⟩
            · subst h; exact ⟨.inr (.inr ⟨_, k3⟩), nr _ g3⟩
            · subst h; exact ⟨.inr (.inl ⟨_, k4⟩), nr _ g4⟩
            · subst h; exact ⟨.inl ⟨_, k5⟩, nr _ g5⟩
            · subst h; exact ⟨trivial, fun e => by cases e⟩
            · subst h; exact ⟨trivial, fun e => by cases e⟩
            · subst h; exact ⟨trivial, fun e => by cases e⟩
            · subst h; exact ⟨trivial, fun e => by cases e⟩
          obtain ⟨toldy, yr⟩ := toldy
          have u7 := (u5.trans (RS.new (o := _) u5.rg hl6)).trans s7
          clear hy s7
          have hq7 := u7.at hq qr
          refine ⟨_, rfl, qk, _, rfl, .inr (SqT.of hq7), fun a1 ha1 => ?_⟩
          have x1 := Same.new (o := .lst ((path par lab Rt n).map V.str)) ha1
          refine ⟨_, rfl, a1, _, rfl, SqL.of upd_same, fun a2 ha2 => ?_⟩
          have x2 := x1.trans (Same.new (o := .lst (cutV ((path par lab Rt n).map V.str) none (some 4))) ha2)
          refine ⟨_, rfl, by show 1 ≤ sizeLine; decide, fun a3 ha3 => ?_⟩
          have x3 := x2.trans (Same.new (o := .lst [y]) ha3)
          have c4 : (cutV ((path par lab Rt n).map V.str) none (some 4)).length ≤ 4 := cut_le _ 4
          refine ⟨a2, a3, _, _, rfl, rfl, Same.new ha3 _ _ upd_same, upd_same, by rw [sz]; show _ + 1 ≤ _; omega, fun a4 ha4 => ?_⟩
          have x4 := x3.trans (Same.new (o := .lst (cutV ((path par lab Rt n).map V.str) none (some 4) ++ [y])) ha4)
          have u8 := u7.trans (RS.of x4 u7.rg)
          have a4r : a4 ≠ r := fun e => (u7.trans (RS.of x3 u7.rg)).rg.ne (e ▸ ha4)
          refine ⟨_, rfl, r, 6, rfl, u8.rg, by decide, by decide, fun d6 H8 s8 hd6 => ?_⟩
          have u9 := u8.trans s8
          have h44 := s8.at (upd_same (a := a4)) a4r
          have ty8 : Told H8 y := (toldy.same x4).rs yr s8
          refine ⟨_, rfl, _, rfl, a4, _, rfl, SqL.of h44, fun a5 ha5 => ?_⟩
          have hzl := cutV_length (cutV ((path par lab Rt n).map V.str) none (some 4) ++ [y]) (some (-(d6 : Int))) none
          have hzm : ∀ z, z ∈ cutV (cutV ((path par lab Rt n).map V.str) none (some 4) ++ [y]) (some (-(d6 : Int))) none → (∃ x, z = .str x) ∨ z = y := fun z hz => by
            rcases List.mem_append.mp (cut_mem hz) with h | h
            · obtain ⟨x, _, e⟩ := List.mem_map.mp (cut_memT h)
              exact .inl ⟨x, e.symm⟩
            · exact .inr (List.mem_singleton.mp h)
          rw [List.length_append] at hzl
          have hz5 : (cutV (cutV ((path par lab Rt n).map V.str) none (some 4) ++ [y]) (some (-(d6 : Int))) none).length ≤ 5 := Nat.le_trans hzl (by show _ + 1 ≤ 5; omega)
          generalize (cutV (cutV ((path par lab Rt n).map V.str) none (some 4) ++ [y]) (some (-(d6 : Int))) none) = zs at hzm hz5
          have y5 := Same.new (o := .lst zs) ha5
          have u10 := u9.trans (RS.of y5 u9.rg)
          have tz : ∀ z, z ∈ zs → Told (upd H8 a5 (.lst zs)) z := fun z hz => by
            rcases hzm z hz with ⟨x, rfl⟩ | rfl
            · trivial
            · exact ty8.same y5
          have h55 : (upd H8 a5 (.lst zs)) a5 = some (.lst zs) := upd_same
          generalize (upd H8 a5 (.lst zs)) = H9 at u10 tz h55
          refine ⟨_, rfl, a5, rfl, ⟨_, SqL.of h55⟩, fun D1 hD1 => lc_each (walk_list (xs := zs)) hD1 (fun i => (zs.take i).map fun z => V.bl (strV z)) rfl (fun i hi => ?_) (fun H' s => SqL.of (s _ _ h55)) ?_ ?_⟩
          · rw [List.length_map, List.length_take, sz]; omega
          · rintro j v Ha Hb Kt hj sab ⟨rfl, hv⟩ k
            obtain ⟨nk, hk, hb⟩ := ((tz v (List.mem_of_getElem? hv)).same sab).kind (K := K)
            exact ⟨rfl, _, rfl, _, _, _, _, _, rfl, .ty _, hk, kit_ty hb, k _ _ (Same.refl _) (take_map _ _ _ hv)⟩
          · intro H10 s10 hD10
            rw [List.take_of_length_le (Nat.le_refl _)] at hD10
            have u11 := u10.trans (RS.of s10 u10.rg)
            have hD10 : H10 D1 = some (.lst ((zs.map strV).map V.bl)) := by rw [hD10, List.map_map]; rfl
            refine ⟨D1, zs.map strV, rfl, SqL.of hD10, _, rfl, iteB (fun eb => ?_) fun eb => ?_⟩
            · obtain ⟨ls, els⟩ := all_strs zs eb
              have hkd10 := u11.at hkd3 kr
              refine ⟨_, rfl, kd, rfl, .inr ⟨_, .inr ⟨od, hkd10⟩⟩, _, rfl, a5, _, rfl, .inl ⟨SqL.of (s10 _ _ h55), fun tt htt => ?_⟩⟩
              have y6 := Same.new (o := .tup zs) htt
              have ev : (valV (knownT ns par lab) (ls.map fun x => (Sum.inr x : Key))).getD .non = optV (nodeAt ns par lab Rt (zs.map lblOf)) := by
                rw [els, List.map_map, show (lblOf ∘ V.str) = some from rfl, nodeAt_table T0 D.ap]
                unfold knownT
                rw [known_val]
                cases ((Rt :: ns).find? fun n => decide (path par lab Rt n = ls)) <;> rfl
              refine ⟨_, .inr ⟨knownT ns par lab, ls.map fun x => (Sum.inr x : Key), tt, .inr ⟨od, y6 _ _ hkd10⟩, rfl, by rw [upd_same, els, List.map_map]; rfl, rfl⟩, ?_⟩
              rw [ev]
              have u12 := u11.trans (RS.of y6 u11.rg)
              refine ⟨_, rfl, _, rfl, t, a5, zs, ns, par, lab, rfl, (y6 _ _ (s10 _ _ h55)), hz5, (hTb.rs sB.rg (s2.trans u12)).tn, few, fun z hz => (tz z hz).same (s10.trans y6), fun H12 s12 => ?_⟩
              refine ⟨_, rfl, by cases nodeAt ns par lab Rt (zs.map lblOf) <;> rfl, _, rfl, iteND (fun h => absurd rfl h) fun _ => ⟨_, _, _, _, _, _, rfl, s2.trans (u12.trans (RS.of s12 (u12).rg))⟩⟩
            · have ev : V.non = optV (nodeAt ns par lab Rt (zs.map lblOf)) := by rw [nodeAt_none _ (not_strs zs eb)]; rfl
              rw [ev]
              refine ⟨_, rfl, _, rfl, t, a5, zs, ns, par, lab, rfl, (s10 _ _ h55), hz5, (hTb.rs sB.rg (s2.trans u11)).tn, few, fun z hz => (tz z hz).same s10, fun H12 s12 => ?_⟩
              refine ⟨_, rfl, by cases nodeAt ns par lab Rt (zs.map lblOf) <;> rfl, _, rfl, iteND (fun h => absurd rfl h) fun _ => ⟨_, _, _, _, _, _, rfl, s2.trans (u11.trans (RS.of s12 (u11).rg))⟩⟩
        · have u0 : RS r H3 H3 := RS.refl s2.rg
          refine ⟨_, rfl, by show 0 ≤ sizeLine; decide, fun t1 ht1 => ?_⟩
          have u1 := u0.trans (RS.new (o := .tup []) u0.rg ht1)
          refine ⟨by show 0 ≤ sizeLine; decide, fun t2 ht2 => ?_⟩
          have u2 := u1.trans (RS.new (o := .lst []) u1.rg ht2)
          refine fun t3 ht3 => ?_
          have u3 := u2.trans (RS.new (o := .dK []) u2.rg ht3)
          refine ⟨by show 1 ≤ sizeLine; decide, fun t4 ht4 => ?_⟩
          have u4 := u3.trans (RS.new (o := .tup [.str "a"]) u3.rg ht4)
          refine ⟨by show 1 ≤ sizeLine; decide, fun t5 ht5 => ?_⟩
          have u5 := u4.trans (RS.new (o := .lst [.str "a"]) u4.rg ht5)
          refine ⟨_, _, rfl, rfl, ⟨by decide, by decide, by decide⟩, by show 14 ≤ sizeLine; decide, fun l6 hl6 => ?_⟩
          refine ⟨r, l6, _, rfl, (RS.new u5.rg hl6).rg, fun e => u5.rg.ne (e ▸ hl6), upd_same, by show 0 < 14; decide, by show 14 ≤ 1000; decide, fun d y H7 s7 hy => ?_⟩
          have toldy : Told H7 y ∧ y ≠ .ref r := by
            have g1 : t1 ≠ r := fun e => u0.rg.ne (e ▸ ht1)
            have g2 : t2 ≠ r := fun e => u1.rg.ne (e ▸ ht2)
            have g3 : t3 ≠ r := fun e => u2.rg.ne (e ▸ ht3)
            have g4 : t4 ≠ r := fun e => u3.rg.ne (e ▸ ht4)
            have g5 : t5 ≠ r := fun e => u4.rg.ne (e ▸ ht5)
            have k1 := s7.at (Same.new hl6 _ _ (Same.new ht5 _ _ (Same.new ht4 _ _ (Same.new ht3 _ _ (Same.new ht2 _ _ (upd_same (a := t1) (o := .tup []))))))) g1
            have k2 := s7.at (Same.new hl6 _ _ (Same.new ht5 _ _ (Same.new ht4 _ _ (Same.new ht3 _ _ (upd_same (a := t2) (o := .lst [])))))) g2
            have k3 := s7.at (Same.new hl6 _ _ (Same.new ht5 _ _ (Same.new ht4 _ _ (upd_same (a := t3) (o := .dK []))))) g3
            have k4 := s7.at (Same.new hl6 _ _ (Same.new ht5 _ _ (upd_same (a := t4) (o := .tup [.str "a"])))) g4
            have k5 := s7.at (Same.new hl6 _ _ (upd_same (a := t5) (o := .lst [.str "a"]))) g5
            have hm := List.mem_of_getElem? hy
            simp only [List.mem_cons, List.not_mem_nil, or_false] at hm
            have nr : ∀ a : Addr, a ≠ r → V.ref a ≠ .ref r := fun a h e => h (V.ref.inj e)
            rcases hm with h | h | h | h | h | h | h | h | h | h | h | h | h | h
            · subst h; exact ⟨trivial, fun e => by cases e⟩
            · subst h; exact ⟨trivial, fun e => by cases e⟩
            · subst h; exact ⟨trivial, fun e => by cases e⟩
            · subst h; exact ⟨trivial, fun e => by cases e⟩
            · subst h; exact ⟨trivial, fun e => by cases e⟩
            · subst h; exact ⟨.inr (.inl ⟨_, k1⟩), nr _ g1⟩
            · subst h; exact ⟨.inl ⟨_, k2⟩, nr _ g2⟩
            · subst h; exact ⟨.inr (.inr ⟨_, k3⟩), nr _ g3⟩
            · subst h; exact ⟨.inr (.inl ⟨_, k4⟩), nr _ g4⟩
            · subst h; exact ⟨.inl ⟨_, k5⟩, nr _ g5⟩
            · subst h; exact ⟨trivial, fun e => by cases e⟩
            · subst h; exact ⟨trivial, fun e => by cases e⟩
            · subst h; exact ⟨trivial, fun e => by cases e⟩
            · subst h; exact ⟨trivial, fun e => by cases e⟩
          obtain ⟨toldy, yr⟩ := toldy
          have u7 := (u5.trans (RS.new (o := _) u5.rg hl6)).trans s7
          clear hy s7
          have hq7 := u7.at hq qr
          refine ⟨_, rfl, qk, _, rfl, .inr (SqT.of hq7), fun a1 ha1 => ?_⟩
          have x1 := Same.new (o := .lst ((path par lab Rt n).map V.str)) ha1
          refine ⟨_, rfl, a1, _, rfl, SqL.of upd_same, fun a2 ha2 => ?_⟩
          have x2 := x1.trans (Same.new (o := .lst (cutV ((path par lab Rt n).map V.str) none (some 4))) ha2)
          refine ⟨_, rfl, by show 1 ≤ sizeLine; decide, fun a3 ha3 => ?_⟩
          have x3 := x2.trans (Same.new (o := .lst [y]) ha3)
          have c4 : (cutV ((path par lab Rt n).map V.str) none (some 4)).length ≤ 4 := cut_le _ 4
          refine ⟨a2, a3, _, _, rfl, rfl, Same.new ha3 _ _ upd_same, upd_same, by rw [sz]; show _ + 1 ≤ _; omega, fun a4 ha4 => ?_⟩
          have x4 := x3.trans (Same.new (o := .lst (cutV ((path par lab Rt n).map V.str) none (some 4) ++ [y])) ha4)
          have u8 := u7.trans (RS.of x4 u7.rg)
          have a4r : a4 ≠ r := fun e => (u7.trans (RS.of x3 u7.rg)).rg.ne (e ▸ ha4)
          refine ⟨_, rfl, r, 6, rfl, u8.rg, by decide, by decide, fun d6 H8 s8 hd6 => ?_⟩
          have u9 := u8.trans s8
          have h44 := s8.at (upd_same (a := a4)) a4r
          have ty8 : Told H8 y := (toldy.same x4).rs yr s8
          refine ⟨_, rfl, _, rfl, a4, _, rfl, SqL.of h44, fun a5 ha5 => ?_⟩
          have hzl := cutV_length (cutV ((path par lab Rt n).map V.str) none (some 4) ++ [y]) (some (-(d6 : Int))) none
          have hzm : ∀ z, z ∈ cutV (cutV ((path par lab Rt n).map V.str) none (some 4) ++ [y]) (some (-(d6 : Int))) none → (∃ x, z = .str x) ∨ z = y := fun z hz => by
            rcases List.mem_append.mp (cut_mem hz) with h | h
            · obtain ⟨x, _, e⟩ := List.mem_map.mp (cut_memT h)
              exact .inl ⟨x, e.symm⟩
            · exact .inr (List.mem_singleton.mp h)
          rw [List.length_append] at hzl
          have hz5 : (cutV (cutV ((path par lab Rt n).map V.str) none (some 4) ++ [y]) (some (-(d6 : Int))) none).length ≤ 5 := Nat.le_trans hzl (by show _ + 1 ≤ 5; omega)
          generalize (cutV (cutV ((path par lab Rt n).map V.str) none (some 4) ++ [y]) (some (-(d6 : Int))) none) = zs at hzm hz5
          have y5 := Same.new (o := .lst zs) ha5
          have u10 := u9.trans (RS.of y5 u9.rg)
          have tz : ∀ z, z ∈ zs → Told (upd H8 a5 (.lst zs)) z := fun z hz => by
            rcases hzm z hz with ⟨x, rfl⟩ | rfl
            · trivial
            · exact ty8.same y5
          have h55 : (upd H8 a5 (.lst zs)) a5 = some (.lst zs) := upd_same
          generalize (upd H8 a5 (.lst zs)) = H9 at u10 tz h55
          refine ⟨_, rfl, a5, rfl, ⟨_, SqL.of h55⟩, fun D1 hD1 => lc_each (walk_list (xs := zs)) hD1 (fun i => (zs.take i).map fun z => V.bl (strV z)) rfl (fun i hi => ?_) (fun H' s => SqL.of (s _ _ h55)) ?_ ?_⟩
          · rw [List.length_map, List.length_take, sz]; omega
          · rintro j v Ha Hb Kt hj sab ⟨rfl, hv⟩ k
            obtain ⟨nk, hk, hb⟩ := ((tz v (List.mem_of_getElem? hv)).same sab).kind (K := K)
            exact ⟨rfl, _, rfl, _, _, _, _, _, rfl, .ty _, hk, kit_ty hb, k _ _ (Same.refl _) (take_map _ _ _ hv)⟩
          · intro H10 s10 hD10
            rw [List.take_of_length_le (Nat.le_refl _)] at hD10
            have u11 := u10.trans (RS.of s10 u10.rg)
            have hD10 : H10 D1 = some (.lst ((zs.map strV).map V.bl)) := by rw [hD10, List.map_map]; rfl
            refine ⟨D1, zs.map strV, rfl, SqL.of hD10, _, rfl, iteB (fun eb => ?_) fun eb => ?_⟩
            · obtain ⟨ls, els⟩ := all_strs zs eb
              have hkd10 := u11.at hkd3 kr
              refine ⟨_, rfl, kd, rfl, .inr ⟨_, .inr ⟨od, hkd10⟩⟩, _, rfl, a5, _, rfl, .inl ⟨SqL.of (s10 _ _ h55), fun tt htt => ?_⟩⟩
              have y6 := Same.new (o := .tup zs) htt
              have ev : (valV (knownT ns par lab) (ls.map fun x => (Sum.inr x : Key))).getD .non = optV (nodeAt ns par lab Rt (zs.map lblOf)) := by
                rw [els, List.map_map, show (lblOf ∘ V.str) = some from rfl, nodeAt_table T0 D.ap]
                unfold knownT
                rw [known_val]
                cases ((Rt :: ns).find? fun n => decide (path par lab Rt n = ls)) <;> rfl
              refine ⟨_, .inr ⟨knownT ns par lab, ls.map fun x => (Sum.inr x : Key), tt, .inr ⟨od, y6 _ _ hkd10⟩, rfl, by rw [upd_same, els, List.map_map]; rfl, rfl⟩, ?_⟩
              rw [ev]
              have u12 := u11.trans (RS.of y6 u11.rg)
              refine ⟨_, rfl, _, rfl, t, a5, zs, ns, par, lab, rfl, (y6 _ _ (s10 _ _ h55)), hz5, (hTb.rs sB.rg (s2.trans u12)).tn, few, fun z hz => (tz z hz).same (s10.trans y6), fun H12 s12 => ?_⟩
              refine ⟨_, rfl, by cases nodeAt ns par lab Rt (zs.map lblOf) <;> rfl, _, rfl, iteND (fun h => absurd rfl h) fun _ => ⟨_, _, _, _, _, _, rfl, s2.trans (u12.trans (RS.of s12 (u12).rg))⟩⟩
            · have ev : V.non = optV (nodeAt ns par lab Rt (zs.map lblOf)) := by rw [nodeAt_none _ (not_strs zs eb)]; rfl
              rw [ev]
              refine ⟨_, rfl, _, rfl, t, a5, zs, ns, par, lab, rfl, (s10 _ _ h55), hz5, (hTb.rs sB.rg (s2.trans u11)).tn, few, fun z hz => (tz z hz).same s10, fun H12 s12 => ?_⟩
              refine ⟨_, rfl, by cases nodeAt ns par lab Rt (zs.map lblOf) <;> rfl, _, rfl, iteND (fun h => absurd rfl h) fun _ => ⟨_, _, _, _, _, _, rfl, s2.trans (u11.trans (RS.of s12 (u11).rg))⟩⟩
      · rintro σ H2 ⟨v4, v5, v6, v7, v8, v9, rfl, s2⟩
        exact ⟨s2.at upd_same kr, q _ ((sB.trans s2).mut k0 kr)⟩
end
end MG
/-! text LU -/
set_option Elab.async false
set_option linter.all false
set_option maxRecDepth 100000
set_option maxHeartbeats 4200000
/-! what stays while lambdas are made -/
namespace MG
open PySem PySem.Spec PyProof.Rows L2 LamX
theorem TabS_rs {r P : Addr} {q : Str} {H H' : Hp} (t : TabS H P q) (hr : Rng r H) (s : RS r H H') : TabS H' P q := by
  obtain ⟨ps, h1, h2, h3⟩ := t
  refine ⟨ps, s.at h1 (hr.off h1 fun _ _ e => by cases e), h2, fun pos cv hc => ?_⟩
  obtain ⟨c, e1, e2⟩ := h3 pos cv hc
  exact ⟨c, e1, s.at e2 (hr.off e2 fun _ _ e => by unfold CodeO at e; cases e)⟩
theorem Tabs_rs {T : List (Addr × Str)} {r : Addr} {H H' : Hp} (t : Tabs T H) (hr : Rng r H) (s : RS r H H') : Tabs T H' := fun p hp => TabS_rs (t p hp) hr s
/-- r drew, tables may have grown; all else is as before -/
structure RSN (T : List (Addr × Str)) (r : Addr) (H H' : Hp) : Prop where
  sv : ∀ b o, b ≠ r → H b = some o → (∀ ps, o ≠ .tbl ps) → H' b = some o
  rg : Rng r H'
  tb : Tabs T H → Tabs T H'
theorem RSN.of {T : List (Addr × Str)} {r : Addr} {H H' : Hp} (s : RS r H H') (hr : Rng r H) : RSN T r H H' := ⟨fun b o hb e _ => s.sv b o hb e, s.rg, fun t => Tabs_rs t hr s⟩
theorem RSN.trans {T : List (Addr × Str)} {r : Addr} {H H1 H2 : Hp} (a : RSN T r H H1) (b : RSN T r H1 H2) : RSN T r H H2 := ⟨fun c o n h q => b.sv c o n (a.sv c o n h q) q, b.rg, fun t => b.tb (a.tb t)⟩
def spStr (T : List (Addr × Str)) (C : Addr) : Sp := fun vs H Q _ => ∃ (r t p : Addr) (ns : List Str) (par lab : Str → Str) (ad : Str → Addr), vs = [.ref r, .ref t, .ref p] ∧ Rng r H ∧ TreeOk C H t ns par lab ∧ PlX H p ns par lab ad ∧ TD ns par lab ∧ Tabs T H ∧ ∀ H', RSN T r H H' → Q (.bl true) H'
end MG
/-! text LV -/
set_option Elab.async false
set_option linter.all false
set_option maxRecDepth 100000
set_option maxHeartbeats 4200000
/-! a call within try -/
namespace MG
open PySem PySem.Spec PyProof.Rows L2 LamX
section
variable {X : Cx} {j : Nat}
/-- repr of what can be read -/
def rReprX (X : Cx) : List V → Hp → VK → Prop := fun xs H Q => ∃ a d, xs = [.ref a] ∧ (∀ (pins : List (Addr × Obj)) (σ : L2.St) (s : Shared), L2.Inv X pins σ H s → ∃ as, Reads s.heap (.ref a) d as ∧ (d.hasDict = true → sysModules ∉ as)) ∧ d.showable = true ∧ d.depth ≤ 8 ∧ d.shown.length ≤ sizeLine ∧ Q (.str d.shown) H
theorem call_reprX (hg : X.A.guards = some []) (hr : Room j X.A) : CallR X (.builtin "repr") (rReprX X) := by
  rintro pins s σ H xs us Q I r ⟨a, d, rfl, hd, hsh, hdp, hz, q⟩
  rcases vals1 r with ⟨_, rfl, rfl⟩
  obtain ⟨as, r1, r2⟩ := hd pins σ s I
  have hun := hr.un
  exact repr_of_reads' r1 hsh r2 hg (by omega) (fun _ _ e => e) (fun h' u tk hk => ⟨.str d.shown, H, I.kept (t' := tk) hk, ⟨_, rfl⟩, q⟩) hz
end
end MG
/-! text LW -/
set_option Elab.async false
set_option linter.all false
set_option maxRecDepth 100000
set_option maxHeartbeats 4200000
/-! what is said of a stranger -/
namespace MG
open PySem PySem.Spec PyProof.Rows L2 LamX
/-- v is told as d: none, a bool, an int, a text, a list or a tuple of texts, an empty dict -/
inductive OddK (H : Hp) : V → PyData → Prop
  | non : OddK H .non .none
  | bl (b : Bool) : OddK H (.bl b) (.bool b)
  | int (i : Int) : OddK H (.int i) (.int i)
  | str (x : Str) : OddK H (.str x) (.str x)
  | lst {a : Addr} (xs : List Str) : H a = some (.lst (xs.map V.str)) → OddK H (.ref a) (.list (xs.map .str))
  | tup {a : Addr} (xs : List Str) : H a = some (.tup (xs.map V.str)) → OddK H (.ref a) (.tuple (xs.map .str))
  | dic {a : Addr} : H a = some (.dK []) → OddK H (.ref a) (.dict [])
theorem OddK.ext {H H' : Hp} {v : V} {d : PyData} (h : OddK H v d) (e : ExtN H H') : OddK H' v d := by
  cases h with
  | non => exact .non
  | bl b => exact .bl b
  | int i => exact .int i
  | str x => exact .str x
  | lst xs h => exact .lst xs (e _ _ h fun _ z => by cases z)
  | tup xs h => exact .tup xs (e _ _ h fun _ z => by cases z)
  | dic h => exact .dic (e _ _ h fun _ z => by cases z)
theorem OddK.told {H : Hp} {v : V} {d : PyData} (h : OddK H v d) : Told H v := by
  cases h with
  | non => trivial
  | bl b => trivial
  | int i => trivial
  | str x => trivial
  | lst xs h => exact .inl ⟨_, h⟩
  | tup xs h => exact .inr (.inl ⟨_, h⟩)
  | dic h => exact .inr (.inr ⟨_, h⟩)
def sayD (d : PyData) : PyData := .list [.str "unknown", d]
def say (d : PyData) : Str := (sayD d).shown
structure OddD (d : PyData) : Prop where
  sh : (sayD d).showable = true
  dp : (sayD d).depth ≤ 8
  ls : (say d).length ≤ sizeLine
  ok : PyData.strOk (say d) = true
structure Odd (H : Hp) (v : V) (d : PyData) : Prop where
  k : OddK H v d
  d : OddD d
theorem Odd.ext {H H' : Hp} {v : V} {d : PyData} (h : Odd H v d) (e : ExtN H H') : Odd H' v d := ⟨h.k.ext e, h.d⟩
theorem noD_strs : ∀ xs : List Str, PyData.hasDictAll (xs.map .str) = false
  | [] => by simp [PyData.hasDictAll]
  | x :: xs => by rw [List.map_cons, PyData.hasDictAll, noD_strs xs]; simp [PyData.hasDict]
section
variable {X : Cx} {j : Nat} {pins : List (Addr × Obj)} {σ : L2.St} {H : Hp} {s : Shared} {v : V} {u : Value} {d : PyData}
theorem no_hsm {d : PyData} {as : List Addr} (h : d.hasDict = false) : d.hasDict = true → sysModules ∉ as := fun e => by rw [h] at e; cases e
theorem OddK.reads (I : L2.Inv X pins σ H s) (h : OddK H v d) (r : RelV v u) : ∃ as, Reads s.heap u d as ∧ (d.hasDict = true → sysModules ∉ as) := by
  cases h with
  | non => obtain ⟨as, h⟩ := Dp.reads I _ _ _ (.non) r; exact ⟨as, h, no_hsm (by simp [PyData.hasDict])⟩
  | bl b => obtain ⟨as, h⟩ := Dp.reads I _ _ _ (.bl b) r; exact ⟨as, h, no_hsm (by simp [PyData.hasDict])⟩
  | int i => obtain ⟨as, h⟩ := Dp.reads I _ _ _ (.int i) r; exact ⟨as, h, no_hsm (by simp [PyData.hasDict])⟩
  | str x => obtain ⟨as, h⟩ := Dp.reads I _ _ _ (.str x) r; exact ⟨as, h, no_hsm (by simp [PyData.hasDict])⟩
  | lst xs h => obtain ⟨as, h⟩ := Dp.reads I _ _ _ (.lst (SqL.of h) (dp_all xs)) r; exact ⟨as, h, no_hsm (by rw [PyData.hasDict]; exact noD_strs xs)⟩
  | tup xs h => obtain ⟨as, h⟩ := Dp.reads I _ _ _ (.tup (SqT.of h) (dp_all xs)) r; exact ⟨as, h, no_hsm (by rw [PyData.hasDict]; exact noD_strs xs)⟩
  | @dic a h =>
    obtain rfl : u = Value.ref a := r
    obtain ⟨_, sm, vs, kv, o, es, ep, ho, hx, hd, _, pr, _⟩ := dk_of I.hok h
    cases kv
    have e0 : es.toList = [] := by
      generalize es.toList = l at pr
      cases pr
      rfl
    refine ⟨_, Reads.dict (kvs := []) ho hx.1 hd (by rw [e0]; exact ReadsAll.nil) (by rw [e0]; exact ReadsAll.nil), fun _ hm => ?_⟩
    have hm : sysModules ∈ [a] := hm
    rw [List.mem_singleton] at hm
    rw [hm] at sm
    simp at sm
/-- repr of ["unknown", v] -/
def rReprU : List V → Hp → VK → Prop := fun xs H Q => ∃ a v d, xs = [.ref a] ∧ (a == sysModules) = false ∧ H a = some (.lst [.str "unknown", v]) ∧ Odd H v d ∧ Q (.str (say d)) H
theorem call_reprU (hg : X.A.guards = some []) (hr : Room j X.A) : CallR X (.builtin "repr") rReprU := by
  rintro pins s σ H xs us Q I r ⟨a, v, d, rfl, sm, ha, ho, q⟩
  refine call_reprX hg hr pins s σ H _ us Q I r ⟨a, sayD d, rfl, fun pins' σ' s' I' => ?_, ho.d.sh, ho.d.dp, ho.d.ls, q⟩
  obtain ⟨its, rv, ⟨o, n, eo, hc, _, hd⟩, _⟩ := I'.list (SqL.of ha)
  cases rv with
  | cons r1 r2 =>
    cases r2 with
    | cons r2 r3 =>
      cases r3
      obtain ⟨t, rfl⟩ := r1
      obtain ⟨as, h1, h2⟩ := OddK.reads I' ho.k r2
      refine ⟨_, Reads.list eo hc hd (ReadsAll.cons (Reads.str _ t) (ReadsAll.cons h1 ReadsAll.nil)), fun e hm => ?_⟩
      have e' : d.hasDict = true := by
        have e : (sayD d).hasDict = true := e
        simpa [sayD, PyData.hasDict, PyData.hasDictAll] using e
      rw [List.nil_append, List.append_nil] at hm
      rcases List.mem_cons.mp hm with z | z
      · rw [z] at sm; simp at sm
      · exact h2 e' z
end
/-- a list of written items, its address is not that of the modules -/
def tLstS (t : TA) : TE := fun σ H Q => t σ H fun xs H1 => xs.length ≤ sizeLine ∧ ∀ p, H1 p = none → (p == sysModules) = false → Q (.ref p) (upd H1 p (.lst xs))
theorem pe_lstS {X : Cx} {es : List Expr} {t : TA} {pos : Pos} (h : PA X es t) : PE X (.List es pos) (tLstS t) := by
  refine ⟨fun pins s σ H Q I hq => wpAny_List_spliced (thn (h.run pos pins s σ H _ I hq) fun us s1 hh => ?_)⟩
  obtain ⟨xs, H1, I1, r, z, q⟩ := hh
  have big : (s1.heap.objs.size == sysModules) = false := beq_eq_false_iff_ne.mpr (Nat.ne_of_gt I1.big)
  exact ⟨by rw [← r.length]; exact z, .ref s1.heap.objs.size, upd H1 s1.heap.objs.size (.lst xs), I1.laid (t' := s1.toks) (fun b u e => Heap.get?_push_of_some _ e) (Nat.le_refl _) ⟨z, us, 0, r, Heap.get?_push_size _ rfl⟩, rfl, q _ (I1.hok.fresh (Nat.le_refl _)) big⟩
/-- a state has as many places as names -/
theorem takes_len {X : Cx} {W : WX} (tk : L2.Takes X W) : L2.Takes X (fun cls d σ H => σ.length = X.N.length → W cls d σ H) := fun u s' x => by
  obtain ⟨a, B, sI, pins, σ, H, cls, d, e, I, nb, up, sky, na, os, ag, w⟩ := x
  exact tk u s' ⟨a, B, sI, pins, σ, H, cls, d, e, I, nb, up, sky, na, os, ag, w I.len⟩
section
variable {X : Cx} {k : Nat}
def NU : List Str := ["_law_call", "_law_told_here", "e"]
theorem sc_unknown : FnScope ["_law_call", "_law_told_here", "e"] ["_law_call"] (defScope s_unknown) := ⟨rfl, rfl, rfl, by decide +kernel, rfl, by decide +kernel, by decide +kernel⟩
/-- the lambda's call raises the class at U with a value that can be shown; that is told -/
def UnkTo (U : Addr) : (XK → Hp → VK → Prop) → Hp → VK → Prop := fun tl H Q => ∀ H1, Same H H1 → ∀ Q', tl (fun cls dd H' => cls = .ref U ∧ ∃ d v dat, dd = some d ∧ H' d = some (.xd [("value", v)]) ∧ Odd H' v dat ∧ ∀ H2, Same H' H2 → Q (.str (say dat)) H2) H1 Q'
theorem unknown_gives {C U : Addr} {g : Addr} {cdg : Value} {q : Str} (T : Txt X.K X.mg C) (hU : X.mg "UnknownNode" = some (.ref U)) (hXf : XfC X.K U) (hno : PySem.W.findIn X.K (.ref U) "value" = some none) (hex : PySem.W.exmOne X.K (.ref U) (.ref U) = some true) (hgu : X.A.guards = some [])
    (hr : Room (k + 1) X.A) : GivesTo X NU "_law_unknown" (defScope s_unknown) g cdg (defBody s_unknown) "_law_call" q (UnkTo U) := by
  intro f c' s H Q tl act hc h
  have hr' : Room k (X.A.deeper (envOfC "_law_unknown" (defScope s_unknown) s.heap.objs.size g cdg)) := hr.deeper _
  refine ⟨_, pss_cons (ps_set (i := 1) sc_unknown.nd rfl (Or.inl rfl) (pe_lst (pa_cons pe_str pa_nil))) (pss_cons (L2.ps_try_as (X := (cxOf C8.CX0 X.prog X.w X.K X.mg X.base NU "_law_unknown" (defScope s_unknown) g cdg X.A X.stack s H C8.E0).nox) (c := .ref U) (i := 2)
    (tb := fun W D σ H => ∃ Ech : XK, (∀ cls d σ' H', Ech cls d H' → σ'.length = 3 → W cls d σ' H') ∧ tAsg (tLst (tCons (tC (.str "told")) (tCons (fun σZ HZ Q => σZ[0]? = some (some (.ref f)) ∧ HZ c' = some (CodeO c' q) ∧ tl Ech HZ Q) tNil))) (gName 1) D σ H)
    rfl rfl sc_unknown.nd rfl rfl ⟨rfl, rfl, .inl hU⟩ LamX.takes0 (fun W pn xe tk _ => ⟨fun pins s' σ H' D I h' => by
      obtain ⟨Ech, hW, h1⟩ := h'
      exact (pss_one (ps_set (i := 1) sc_unknown.nd rfl (Or.inl rfl) (pe_lst (pa_cons pe_str (pa_cons (act _ pn xe Ech _ _ (takes_len tk) (fun cls d σ' H' e hl => hW cls d σ' H' e hl)) pa_nil))))).run pins s' σ H' D I h1⟩)
    (fun a oe cls d pn hz hf => pss_one (ps_set (i := 1) sc_unknown.nd rfl (Or.inl rfl) (pe_lstS (pa_cons pe_str (pa_cons (pe_xf hXf hno hz hf (pv 2)) pa_nil))))))
    (pss_one (ps_ret (pe_callB (call_reprU hgu hr') (by rfl) T.g_repr bt_repr (pa_cons (pv 1) pa_nil))))), ?_⟩
  refine ⟨by show 1 ≤ sizeLine; decide, fun l0 hl0 => ?_⟩
  have n0 := Same.new (o := .lst [.str "other"]) hl0
  refine ⟨fun cls dd H' => cls = .ref U ∧ ∃ d v dat, dd = some d ∧ H' d = some (.xd [("value", v)]) ∧ Odd H' v dat ∧ ∀ H2, Same H' H2 → Q (.str (say dat)) H2, ?_, ?_⟩
  · rintro cls dd σ' H' ⟨rfl, d, v, dat, rfl, hd, ho, q⟩ hl
    refine ⟨true, hex, fun _ a ha => ?_, fun e => by cases e⟩
    obtain ⟨v0, v1, v2, rfl⟩ : ∃ v0 v1 v2, σ' = [v0, v1, v2] := by
      match σ', hl with
      | [x, y, z], _ => exact ⟨x, y, z, rfl⟩
    refine ⟨_, rfl, rfl, rfl, d, _, v, rfl, hd, by simp, by show 2 ≤ sizeLine; decide, fun la hla sm => ?_⟩
    refine ⟨_, rfl, la, v, dat, rfl, sm, upd_same, ho.ext (ExtN.of (Same.new hla)), q _ (Same.new hla)⟩
  · exact ⟨rfl, Same.new hl0 _ _ hc, h _ n0 _⟩
end
end MG
/-! text LS -/
set_option Elab.async false
set_option linter.all false
set_option maxRecDepth 100000
set_option maxHeartbeats 4200000
/-! one cell of the law -/
namespace MG
open PySem PySem.Spec PyProof.Rows L2
def spRight (TB : List (Addr × Str)) : Sp := fun vs H Q _ => ∃ r : Addr, vs = [.ref r] ∧ Rng r H ∧ LamX.Tabs TB H ∧ ∀ H', RSN TB r H H' → Q (.bl true) H'
section
variable {P : Program} {w : World} {K : PySem.W.Frag} {mg : Str → Option Value} {base : Heap} {C U : Addr} {TB : List (Addr × Str)}
theorem sc_s_right : FnScope ["_law_rng_here", "_law_many", "_law_places_here", "_law_names_here", "_law_k", "_law_name_here", "_law_tree", "_law_order", "_law_turn", "_law_node"] ["_law_rng_here"] (defScope s_right) := ⟨rfl, rfl, rfl, by decide +kernel, rfl, by decide +kernel, by decide +kernel⟩
theorem ok_right {f : Addr} {fd : FuncData} (T : Txt K mg C) (F : Fun K "_law_right" "_law_right" s_right f fd) (hm : mg "_law_right" = some (.ref f)) (c__law_draw : Cal P w K mg base 1 "_law_draw" spDraw) (c__law_places : Cal P w K mg base 4 "_law_places" spPlacesL) (c_Tree : MkT P w K mg base C 7)
    (c__law_walked : Cal P w K mg base 1 "_law_walked" spWalkedL) (c__law_told : CalG P w K mg base 6 "_law_told" (spTold C)) (c__law_due : CalG P w K mg base 3 "_law_due" spDue) (c__law_walks_right : CalG P w K mg base 11 "_law_walks_right" (spWalks C)) (c__law_paths_right : Cal P w K mg base 3 "_law_paths_right" (spPaths C))
    (c__law_strangers_right : CalG P w K mg base 11 "_law_strangers_right" (spStr TB C)) (c__law_deep_right : Cal P w K mg base 10 "_law_deep_right" spDeep) : CalG P w K mg base 12 "_law_right" (spRight TB) := by
  refine ⟨f, fd, ["_law_rng_here"], ?_, hm, F.kp, F.binds (ps := ["_law_rng_here"]) fun _ _ _ _ _ _ us hl => match us, hl with | [_], _ => rfl⟩
  refine okG F sc_s_right (fun vs H Q E h => ?_) (fun cdv A outer s H vs Q E hr hgu h => ?_)
  · obtain ⟨r, rfl, _⟩ := h
    rfl
  · obtain ⟨r, rfl, hR, hTB, q⟩ := h
    refine ⟨_, PSs.nox (pss_cons (ps_set (i := 1) sc_s_right.nd rfl (Or.inl rfl) (pe_ifExp (pt_cmpR op_eq (pe_cl c__law_draw hr (by decide) (by rfl) (pa_cons (pv 0) (pa_cons pe_int pa_nil))) pe_int (nomark _)) pe_int (pe_cl c__law_draw hr (by decide) (by rfl) (pa_cons (pv 0) (pa_cons pe_int pa_nil)))))
    (pss_cons (ps_set (i := 2) sc_s_right.nd rfl (Or.inl rfl) (pe_cl c__law_places hr (by decide) (by rfl) (pa_cons (pv 0) (pa_cons (pv 1) pa_nil))))
    (pss_cons (ps_if (pt_cmpR op_eq (pe_cl c__law_draw hr (by decide) (by rfl) (pa_cons (pv 0) (pa_cons pe_int pa_nil))) pe_int (nomark _)) (pss_cons (ps_set (i := 3) sc_s_right.nd rfl (Or.inr rfl) (pe_callTy (call_list_dK rfl) (by rfl) T.g_list bt_list (pa_cons (pv 2) pa_nil)))
    (pss_one (ps_set (i := 2) sc_s_right.nd rfl (Or.inl rfl) (pe_callTy (call_dictP rfl) (by rfl) T.g_dict bt_dict (pa_cons (pe_lc (own := [("_law_k", 4), ("_law_name_here", 5)]) (tt := tYes) rfl sc_s_right.nd (pi_enum (by rfl) T.g_enumerate (pa_cons (pv 3) pa_nil)) (blkOk_by (own := [("_law_k", 4), ("_law_name_here", 5)]) (N := ["_law_rng_here", "_law_many", "_law_places_here", "_law_names_here", "_law_k", "_law_name_here", "_law_tree", "_law_order", "_law_turn", "_law_node"]) (sc := defScope s_right) (by decide +kernel)) (fun _ _ _ _ _ => pg_tupK (n := 2) (K := K) rfl rfl (pgs_cons (pg_name (i := 4) sc_s_right.nd rfl (Or.inl rfl)) (pgs_cons (pg_name (i := 5) sc_s_right.nd rfl (Or.inl rfl)) pgs_nil))) (fun _ _ _ _ _ => pts_nil) (fun _ _ _ _ _ => (pe_tup (pa_cons (pv 5) (pa_cons (pe_tup (pa_cons (pe_ix (ix_tupK (K := K) rfl) (pe_tup (pa_cons pe_str (pa_cons (pe_ix (ix_listK (K := K) rfl) (pv 3) (pe_op op_sub (pv 4) pe_int) (fun _ _ => rfl)) pa_nil))) (pe_callTy call_int1 (by rfl) T.g_int bt_int (pa_cons (pe_cmpR op_gt (pv 4) pe_int (nomark _)) pa_nil)) (fun _ _ => rfl)) (pa_cons pe_str pa_nil))) pa_nil))))) pa_nil))))) pss_nil)
    (pss_cons (ps_par (i := 6) (j := 7) (by rfl) sc_s_right.nd rfl rfl (by decide) rfl rfl (pa_cons (pe_mkl c_Tree hr (by decide) (by rfl) (pa_cons (pv 2) pa_nil)) (pa_cons (pe_cl c__law_walked hr (by decide) (by rfl) (pa_cons (pv 2) pa_nil)) pa_nil)) (by rfl))
    (pss_cons (ps_for PassesOwn.never rfl (pi_range1 (by rfl) T.g_range (pa_cons pe_int pa_nil)) (pg_name (i := 8) sc_s_right.nd rfl (Or.inl rfl))
    (pss_one (ps_for PassesOwn.never rfl (pi_list (pe_op op_cat (pe_lst (pa_cons pe_str pa_nil)) (pe_callTy (call_list_dK rfl) (by rfl) T.g_list bt_list (pa_cons (pv 2) pa_nil)))) (pg_name (i := 9) sc_s_right.nd rfl (Or.inl rfl))
    (pss_one (ps_if (pt_cmpR op_ne (pe_clG c__law_told hr (by decide) hgu (by rfl) (pa_cons (pv 6) (pa_cons (pv 9) pa_nil))) (pe_clG c__law_due hr (by decide) hgu (by rfl) (pa_cons (pv 2) (pa_cons (pv 7) (pa_cons (pv 9) pa_nil)))) (nomark _)) (pss_one (ps_ret pe_bl)) pss_nil)))))
    (pss_cons (ps_if (PW.pt (pw_or (pt_not (pt_val (pe_clG c__law_walks_right hr (by decide) hgu (by rfl) (pa_cons (pv 6) (pa_cons (pv 2) (pa_cons (pv 7) pa_nil)))))) (pw_or1 (pt_not (pt_val (pe_cl c__law_paths_right hr (by decide) (by rfl) (pa_cons (pv 0) (pa_cons (pv 6) (pa_cons (pv 2) pa_nil))))))))) (pss_one (ps_ret pe_bl)) pss_nil)
    (pss_one (ps_ret (pe_and (pe_clG c__law_strangers_right hr (by decide) hgu (by rfl) (pa_cons (pv 0) (pa_cons (pv 6) (pa_cons (pv 2) pa_nil)))) (pe_one (pe_cl c__law_deep_right hr (by decide) (by rfl) (pa_cons (pv 0) pa_nil)))))))))))), ?_⟩
    refine ⟨_, rfl, r, 8, rfl, hR, by decide, by decide, fun d1 H10 s1 hd1 => ⟨rfl, _, rfl, ?_⟩⟩
    refine iteD (fun _ => ?_) (fun _ => ?_)
    · have s10 := s1
      refine ⟨_, rfl, _, rfl, r, (40 : Nat), rfl, s10.rg, by decide, fun p ns par lab ad H12 hp0 s12 hpl D hlen => ?_⟩
      have T0 := D.T
      have few := D.few
      have hnd := T0.nd
      have hns : ∀ x ∈ ns, nameB x = true ∧ x ≠ Rt := fun x hx => ⟨D.nm x hx, fun e => T0.nr (e ▸ hx)⟩
      have ekeys : ∀ (ad : Str → Addr), (ns.map fun n => ((Sum.inr n : Key), V.ref (ad n))).map (fun kv => kV kv.1) = ns.map V.str := fun ad => by rw [List.map_map]; rfl
      have sA := s10.trans s12
      refine ⟨_, rfl, r, 4, rfl, s12.rg, by decide, by decide, fun d3 H13 s13 hd3 => ⟨rfl, _, rfl, ?_⟩⟩
      have sB := sA.trans s13
      have hpl13 := hpl.rs s12.rg s13
      refine iteD (fun _ => ?_) (fun _ => ?_)
      · refine ⟨_, rfl, p, _, rfl, hpl13.2, fun L hL0 => ?_⟩
        rw [ekeys]
        have sL := Same.new (o := .lst (ns.map V.str)) hL0
        have hLv : (upd H13 L (.lst (ns.map V.str))) L = some (.lst (ns.map V.str)) := upd_same
        have sC := sB.trans (RS.of sL sB.rg)
        generalize (upd H13 L (.lst (ns.map V.str))) = H1 at hLv sC
        refine ⟨_, rfl, L, ns.map V.str, rfl, SqL.of hLv, fun D0 hD0 => lc_freshD (walk_enum (xs := ns.map V.str)) hD0 (LineP ns D0) LineP.keep LineP.there (by rw [List.length_map, sz]; omega) (fun H' s => SqL.of (s _ _ hLv)) ?_ ?_⟩
        · rintro i x H2 H3 Kt hi s3 hDn ⟨T1, y, z, rfl, hT1, rfl, hy, hz⟩ k
          cases hy
          have hz : (ns.map V.str)[i]? = some z := hz
          rw [List.getElem?_map] at hz
          obtain ⟨n, hn, rfl⟩ := Option.map_eq_some_iff.mp hz
          have hi : i < ns.length := (List.getElem?_eq_some_iff.mp hn).1
          have s4 := s3.trans (Same.new (o := .tup [.int (i : Nat), .str n]) hT1)
          refine ⟨T1, _, rfl, SqT.of upd_same, rfl, _, _, rfl, _, _, rfl, rfl, rfl, ?_⟩
          refine ⟨_, rfl, _, rfl, _, rfl, _, _, rfl, rfl, L, _, _, _, rfl, rfl, SqL.of (s4 _ _ hLv), at_prev hi, by show 2 ≤ sizeLine; decide, fun t1 ht1 => ?_⟩
          have s5 := s4.trans (Same.new (o := .tup [.str Rt, .str (if i = 0 then ns.getD (ns.length - 1) Rt else lp ns i)]) ht1)
          refine ⟨_, rfl, _, _, rfl, rfl, .inr ⟨_, rfl, t1, _, _, .str (lp ns i), rfl, rfl, SqT.of upd_same, ?_, by show 2 ≤ sizeLine; decide, fun b hb => ⟨by show 2 ≤ sizeLine; decide, fun a ha => ?_⟩⟩⟩
          · by_cases h0 : i = 0
            · subst h0; rfl
            · have e1 : decide (((i : Nat) : Int) > 0) = true := decide_eq_true (by omega)
              rw [e1, if_neg h0]; rfl
          · have n1 := (Same.new (o := .tup [.int (i : Nat), .str n]) hT1).trans (Same.new (o := .tup [.str Rt, .str (if i = 0 then ns.getD (ns.length - 1) Rt else lp ns i)]) ht1)
            have n2 := n1.trans (Same.new (o := .tup [.str (lp ns i), .str "x"]) hb)
            have bD : b ≠ D0 := fun e => hDn (e ▸ n1.free hb)
            exact k a _ (n2.trans (Same.new ha)) (n2.free ha) ⟨n, b, hn, upd_same, Same.new ha _ _ upd_same, bD⟩
        · intro H2 as s3 hD2 hla hand hat
          rw [List.length_map] at hla
          obtain ⟨par2, lab2, ad2, hpa, line, hxx, TDn, had⟩ := line_end (K := K) hnd few hns hla fun j a h => (hat j a h).1
          refine ⟨D0, as, _, rfl, SqL.of hD2, hpa, fun p2 hp2 => ?_⟩
          rw [line_keys hnd]
          have m1 := Same.new (o := .dK (ns.map fun n => ((Sum.inr n : Key), V.ref (ad2 n)))) hp2
          have hpl2 : PlX (upd H2 p2 (.dK (ns.map fun n => ((Sum.inr n : Key), V.ref (ad2 n))))) p2 ns par2 lab2 ad2 := ⟨⟨.inl upd_same, fun n hn => m1 _ _ (had n hn)⟩, upd_same⟩
          have sD := sC.trans (RS.of (s3.trans m1) sC.rg)
          generalize (upd H2 p2 (.dK (ns.map fun n => ((Sum.inr n : Key), V.ref (ad2 n))))) = H14 at hpl2 sD
          have s20 := sD
          have Dd := TDn
          have few := Dd.few
          have hplx := hpl2
          refine ⟨_, rfl, fun x dx hx0 hdx0 hne => ?_⟩
          have m3 := (Same.new (o := .own x) hdx0).trans (Same.new (o := .ins C dx []) (by rw [upd_ne (Ne.symm hne)]; exact hx0))
          refine ⟨x, _, dx, ns, _, _, _, rfl, upd_same, hplx.same m3, Dd, fun H15 sv tr => ⟨rfl, ?_⟩⟩
          have hpl15 := (hplx.same m3).sav (fs := []) upd_same sv
          have r15 : RS r H H15 := s20.trans ⟨fun b ob _ e => sv b ob (ne_of_none e hx0) (m3 _ _ e), by
            obtain ⟨a1, b1, e1, h1⟩ := s20.rg
            exact ⟨a1, b1, sv r _ (ne_of_none e1 hx0) (m3 _ _ e1), h1⟩⟩
          refine ⟨_, rfl, _, ns, _, _, _, rfl, hpl15, Dd, fun o H16 ho0 s16 ho => ⟨_, _, rfl, ?_⟩⟩
          have r16 := r15.trans (RS.of s16 r15.rg)
          have tr16 := tr.same s16
          have hpl16 := hpl15.same s16
          refine ⟨2, rfl, by decide, by decide, for_it walk_range (fun i σ H' => ∃ (v3 v4 v5 v8 v9 : Option V), σ = [some (.ref r), some (.int (40 : Nat)), some (.ref p2), v3, v4, v5, some (.ref x), some (.ref o), v8, v9] ∧ Same H16 H') ⟨_, _, _, _, _, rfl, Same.refl _⟩ (fun _ _ _ _ _ => trivial) ?_ ?_⟩
          · rintro i0 y0 σ H17 H18 hi0 ⟨v3, v4, v5, v8, v9, rfl, s17⟩ ⟨rfl, rfl⟩
            refine ⟨by show 1 ≤ sizeLine; decide, fun q1 hq1 => ?_⟩
            have m1 := Same.new (o := .lst [.str Rt]) hq1
            refine ⟨_, rfl, _, _, rfl, m1 _ _ (s17 _ _ hpl16.2), fun q2 hq2 => ?_⟩
            rw [ekeys]
            have m2 := m1.trans (Same.new (o := .lst (ns.map V.str)) hq2)
            refine ⟨q1, q2, [.str Rt], ns.map V.str, rfl, rfl, Same.new hq2 _ _ upd_same, upd_same, by rw [List.length_map, sz]; show 1 + _ ≤ _; omega, fun q3 hq3 => ?_⟩
            have m3' := m2.trans (Same.new (o := .lst ([.str Rt] ++ ns.map V.str)) hq3)
            have hq3v : (upd (upd (upd H18 q1 (.lst [.str Rt])) q2 (.lst (ns.map V.str))) q3 (.lst ([.str Rt] ++ ns.map V.str))) q3 = some (.lst ((Rt :: ns).map V.str)) := upd_same
            refine ⟨q3, rfl, ⟨_, SqL.of hq3v⟩, for_it (walk_list (xs := (Rt :: ns).map V.str)) (fun i σ H' => ∃ (v3 v4 v5 v8 v9 : Option V), σ = [some (.ref r), some (.int (40 : Nat)), some (.ref p2), v3, v4, v5, some (.ref x), some (.ref o), v8, v9] ∧ Same (upd (upd (upd H18 q1 (.lst [.str Rt])) q2 (.lst (ns.map V.str))) q3 (.lst ([.str Rt] ++ ns.map V.str))) H') ⟨_, _, _, _, _, rfl, Same.refl _⟩ (fun i σ H' _ ⟨_, _, _, _, _, _, s⟩ => SqL.of (s _ _ hq3v)) ?_ ?_⟩
            · rintro i1 y1 σ H19 H20 hi1 ⟨v3, v4, v5, v8, v9, rfl, s19⟩ ⟨rfl, hv⟩
              rw [List.getElem?_map] at hv
              obtain ⟨n, hn, rfl⟩ := Option.map_eq_some_iff.mp hv
              have hnn := List.mem_cons.mp (List.mem_of_getElem? hn)
              have sx := (s17.trans m3').trans s19
              refine ⟨_, rfl, _, rfl, x, n, ns, _, _, rfl, tr16.same sx, Dd, hnn, fun H21 s21 => ?_⟩
              have sy := sx.trans s21
              refine ⟨_, rfl, _, rfl, _, rfl, _, o, n, ns, _, _, _, rfl, hpl16.same sy, Dd, hnn, sy _ _ ho, fun H22 s22 => ⟨rfl, _, rfl, iteND (fun h => absurd rfl h) fun _ => ⟨_, _, _, _, _, rfl, (s19.trans s21).trans s22⟩⟩⟩
            · rintro σ H19 ⟨v3, v4, v5, v8, v9, rfl, s19⟩
              exact ⟨_, _, _, _, _, rfl, (s17.trans m3').trans s19⟩
          · rintro σ H17 ⟨v3, v4, v5, v8, v9, rfl, s17⟩
            have r17 := r16.trans (RS.of s17 r16.rg)
            refine ⟨_, rfl, _, rfl, _, rfl, x, _, o, ns, _, _, _, rfl, tr16.same s17, hpl16.same s17, Dd, s17 _ _ ho, fun H18 s18 => ⟨_, rfl, iteNB (fun e => by cases e) fun _ => ?_⟩⟩
            have s18' := s17.trans s18
            have r18 := r17.trans (RS.of s18 r17.rg)
            refine ⟨_, rfl, _, rfl, _, rfl, r, x, _, ns, _, _, _, rfl, r18.rg, tr16.same s18', hpl16.same s18', Dd, fun H19 s19 => ⟨_, rfl, iteNB (fun e => by cases e) fun _ => ?_⟩⟩
            refine ⟨_, rfl, _, rfl, _, rfl, r, x, _, ns, _, _, _, rfl, s19.rg, (tr16.same s18').rs r18.rg s19, (hpl16.same s18').rs r18.rg s19, Dd, Tabs_rs hTB hR (r18.trans s19), fun H20 s20 => ⟨_, rfl, iteT ⟨_, rfl, r, rfl, s20.rg, fun H21 s21 => q H21 (((RSN.of (r18.trans s19) hR).trans s20).trans (RSN.of s21 s20.rg))⟩⟩⟩
      · have s20 := sB
        have Dd := D
        have few := Dd.few
        have hplx := hpl13
        refine ⟨_, rfl, fun x dx hx0 hdx0 hne => ?_⟩
        have m3 := (Same.new (o := .own x) hdx0).trans (Same.new (o := .ins C dx []) (by rw [upd_ne (Ne.symm hne)]; exact hx0))
        refine ⟨x, _, dx, ns, _, _, _, rfl, upd_same, hplx.same m3, Dd, fun H15 sv tr => ⟨rfl, ?_⟩⟩
        have hpl15 := (hplx.same m3).sav (fs := []) upd_same sv
        have r15 : RS r H H15 := s20.trans ⟨fun b ob _ e => sv b ob (ne_of_none e hx0) (m3 _ _ e), by
          obtain ⟨a1, b1, e1, h1⟩ := s20.rg
          exact ⟨a1, b1, sv r _ (ne_of_none e1 hx0) (m3 _ _ e1), h1⟩⟩
        refine ⟨_, rfl, _, ns, _, _, _, rfl, hpl15, Dd, fun o H16 ho0 s16 ho => ⟨_, _, rfl, ?_⟩⟩
        have r16 := r15.trans (RS.of s16 r15.rg)
        have tr16 := tr.same s16
        have hpl16 := hpl15.same s16
        refine ⟨2, rfl, by decide, by decide, for_it walk_range (fun i σ H' => ∃ (v3 v4 v5 v8 v9 : Option V), σ = [some (.ref r), some (.int (40 : Nat)), some (.ref p), v3, v4, v5, some (.ref x), some (.ref o), v8, v9] ∧ Same H16 H') ⟨_, _, _, _, _, rfl, Same.refl _⟩ (fun _ _ _ _ _ => trivial) ?_ ?_⟩
        · rintro i0 y0 σ H17 H18 hi0 ⟨v3, v4, v5, v8, v9, rfl, s17⟩ ⟨rfl, rfl⟩
          refine ⟨by show 1 ≤ sizeLine; decide, fun q1 hq1 => ?_⟩
          have m1 := Same.new (o := .lst [.str Rt]) hq1
          refine ⟨_, rfl, _, _, rfl, m1 _ _ (s17 _ _ hpl16.2), fun q2 hq2 => ?_⟩
          rw [ekeys]
          have m2 := m1.trans (Same.new (o := .lst (ns.map V.str)) hq2)
          refine ⟨q1, q2, [.str Rt], ns.map V.str, rfl, rfl, Same.new hq2 _ _ upd_same, upd_same, by rw [List.length_map, sz]; show 1 + _ ≤ _; omega, fun q3 hq3 => ?_⟩
          have m3' := m2.trans (Same.new (o := .lst ([.str Rt] ++ ns.map V.str)) hq3)
          have hq3v : (upd (upd (upd H18 q1 (.lst [.str Rt])) q2 (.lst (ns.map V.str))) q3 (.lst ([.str Rt] ++ ns.map V.str))) q3 = some (.lst ((Rt :: ns).map V.str)) := upd_same
          refine ⟨q3, rfl, ⟨_, SqL.of hq3v⟩, for_it (walk_list (xs := (Rt :: ns).map V.str)) (fun i σ H' => ∃ (v3 v4 v5 v8 v9 : Option V), σ = [some (.ref r), some (.int (40 : Nat)), some (.ref p), v3, v4, v5, some (.ref x), some (.ref o), v8, v9] ∧ Same (upd (upd (upd H18 q1 (.lst [.str Rt])) q2 (.lst (ns.map V.str))) q3 (.lst ([.str Rt] ++ ns.map V.str))) H') ⟨_, _, _, _, _, rfl, Same.refl _⟩ (fun i σ H' _ ⟨_, _, _, _, _, _, s⟩ => SqL.of (s _ _ hq3v)) ?_ ?_⟩
          · rintro i1 y1 σ H19 H20 hi1 ⟨v3, v4, v5, v8, v9, rfl, s19⟩ ⟨rfl, hv⟩
            rw [List.getElem?_map] at hv
            obtain ⟨n, hn, rfl⟩ := Option.map_eq_some_iff.mp hv
            have hnn := List.mem_cons.mp (List.mem_of_getElem? hn)
            have sx := (s17.trans m3').trans s19
            refine ⟨_, rfl, _, rfl, x, n, ns, _, _, rfl, tr16.same sx, Dd, hnn, fun H21 s21 => ?_⟩
            have sy := sx.trans s21
            refine ⟨_, rfl, _, rfl, _, rfl, _, o, n, ns, _, _, _, rfl, hpl16.same sy, Dd, hnn, sy _ _ ho, fun H22 s22 => ⟨rfl, _, rfl, iteND (fun h => absurd rfl h) fun _ => ⟨_, _, _, _, _, rfl, (s19.trans s21).trans s22⟩⟩⟩
          · rintro σ H19 ⟨v3, v4, v5, v8, v9, rfl, s19⟩
            exact ⟨_, _, _, _, _, rfl, (s17.trans m3').trans s19⟩
        · rintro σ H17 ⟨v3, v4, v5, v8, v9, rfl, s17⟩
          have r17 := r16.trans (RS.of s17 r16.rg)
          refine ⟨_, rfl, _, rfl, _, rfl, x, _, o, ns, _, _, _, rfl, tr16.same s17, hpl16.same s17, Dd, s17 _ _ ho, fun H18 s18 => ⟨_, rfl, iteNB (fun e => by cases e) fun _ => ?_⟩⟩
          have s18' := s17.trans s18
          have r18 := r17.trans (RS.of s18 r17.rg)
          refine ⟨_, rfl, _, rfl, _, rfl, r, x, _, ns, _, _, _, rfl, r18.rg, tr16.same s18', hpl16.same s18', Dd, fun H19 s19 => ⟨_, rfl, iteNB (fun e => by cases e) fun _ => ?_⟩⟩
          refine ⟨_, rfl, _, rfl, _, rfl, r, x, _, ns, _, _, _, rfl, s19.rg, (tr16.same s18').rs r18.rg s19, (hpl16.same s18').rs r18.rg s19, Dd, Tabs_rs hTB hR (r18.trans s19), fun H20 s20 => ⟨_, rfl, iteT ⟨_, rfl, r, rfl, s20.rg, fun H21 s21 => q H21 (((RSN.of (r18.trans s19) hR).trans s20).trans (RSN.of s21 s20.rg))⟩⟩⟩
    · refine ⟨_, rfl, r, 13, rfl, s1.rg, by decide, by decide, fun d2 H11 s2 hd2 => ?_⟩
      have s10 := (s1.trans s2)
      refine ⟨_, rfl, _, rfl, r, d2, rfl, s10.rg, by omega, fun p ns par lab ad H12 hp0 s12 hpl D hlen => ?_⟩
      have T0 := D.T
      have few := D.few
      have hnd := T0.nd
      have hns : ∀ x ∈ ns, nameB x = true ∧ x ≠ Rt := fun x hx => ⟨D.nm x hx, fun e => T0.nr (e ▸ hx)⟩
      have ekeys : ∀ (ad : Str → Addr), (ns.map fun n => ((Sum.inr n : Key), V.ref (ad n))).map (fun kv => kV kv.1) = ns.map V.str := fun ad => by rw [List.map_map]; rfl
      have sA := s10.trans s12
      refine ⟨_, rfl, r, 4, rfl, s12.rg, by decide, by decide, fun d3 H13 s13 hd3 => ⟨rfl, _, rfl, ?_⟩⟩
      have sB := sA.trans s13
      have hpl13 := hpl.rs s12.rg s13
      refine iteD (fun _ => ?_) (fun _ => ?_)
      · refine ⟨_, rfl, p, _, rfl, hpl13.2, fun L hL0 => ?_⟩
        rw [ekeys]
        have sL := Same.new (o := .lst (ns.map V.str)) hL0
        have hLv : (upd H13 L (.lst (ns.map V.str))) L = some (.lst (ns.map V.str)) := upd_same
        have sC := sB.trans (RS.of sL sB.rg)
        generalize (upd H13 L (.lst (ns.map V.str))) = H1 at hLv sC
        refine ⟨_, rfl, L, ns.map V.str, rfl, SqL.of hLv, fun D0 hD0 => lc_freshD (walk_enum (xs := ns.map V.str)) hD0 (LineP ns D0) LineP.keep LineP.there (by rw [List.length_map, sz]; omega) (fun H' s => SqL.of (s _ _ hLv)) ?_ ?_⟩
        · rintro i x H2 H3 Kt hi s3 hDn ⟨T1, y, z, rfl, hT1, rfl, hy, hz⟩ k
          cases hy
          have hz : (ns.map V.str)[i]? = some z := hz
          rw [List.getElem?_map] at hz
          obtain ⟨n, hn, rfl⟩ := Option.map_eq_some_iff.mp hz
          have hi : i < ns.length := (List.getElem?_eq_some_iff.mp hn).1
          have s4 := s3.trans (Same.new (o := .tup [.int (i : Nat), .str n]) hT1)
          refine ⟨T1, _, rfl, SqT.of upd_same, rfl, _, _, rfl, _, _, rfl, rfl, rfl, ?_⟩
          refine ⟨_, rfl, _, rfl, _, rfl, _, _, rfl, rfl, L, _, _, _, rfl, rfl, SqL.of (s4 _ _ hLv), at_prev hi, by show 2 ≤ sizeLine; decide, fun t1 ht1 => ?_⟩
          have s5 := s4.trans (Same.new (o := .tup [.str Rt, .str (if i = 0 then ns.getD (ns.length - 1) Rt else lp ns i)]) ht1)
          refine ⟨_, rfl, _, _, rfl, rfl, .inr ⟨_, rfl, t1, _, _, .str (lp ns i), rfl, rfl, SqT.of upd_same, ?_, by show 2 ≤ sizeLine; decide, fun b hb => ⟨by show 2 ≤ sizeLine; decide, fun a ha => ?_⟩⟩⟩
          · by_cases h0 : i = 0
            · subst h0; rfl
            · have e1 : decide (((i : Nat) : Int) > 0) = true := decide_eq_true (by omega)
              rw [e1, if_neg h0]; rfl
          · have n1 := (Same.new (o := .tup [.int (i : Nat), .str n]) hT1).trans (Same.new (o := .tup [.str Rt, .str (if i = 0 then ns.getD (ns.length - 1) Rt else lp ns i)]) ht1)
            have n2 := n1.trans (Same.new (o := .tup [.str (lp ns i), .str "x"]) hb)
            have bD : b ≠ D0 := fun e => hDn (e ▸ n1.free hb)
            exact k a _ (n2.trans (Same.new ha)) (n2.free ha) ⟨n, b, hn, upd_same, Same.new ha _ _ upd_same, bD⟩
        · intro H2 as s3 hD2 hla hand hat
          rw [List.length_map] at hla
          obtain ⟨par2, lab2, ad2, hpa, line, hxx, TDn, had⟩ := line_end (K := K) hnd few hns hla fun j a h => (hat j a h).1
          refine ⟨D0, as, _, rfl, SqL.of hD2, hpa, fun p2 hp2 => ?_⟩
          rw [line_keys hnd]
          have m1 := Same.new (o := .dK (ns.map fun n => ((Sum.inr n : Key), V.ref (ad2 n)))) hp2
          have hpl2 : PlX (upd H2 p2 (.dK (ns.map fun n => ((Sum.inr n : Key), V.ref (ad2 n))))) p2 ns par2 lab2 ad2 := ⟨⟨.inl upd_same, fun n hn => m1 _ _ (had n hn)⟩, upd_same⟩
          have sD := sC.trans (RS.of (s3.trans m1) sC.rg)
          generalize (upd H2 p2 (.dK (ns.map fun n => ((Sum.inr n : Key), V.ref (ad2 n))))) = H14 at hpl2 sD
          have s20 := sD
          have Dd := TDn
          have few := Dd.few
          have hplx := hpl2
          refine ⟨_, rfl, fun x dx hx0 hdx0 hne => ?_⟩
          have m3 := (Same.new (o := .own x) hdx0).trans (Same.new (o := .ins C dx []) (by rw [upd_ne (Ne.symm hne)]; exact hx0))
          refine ⟨x, _, dx, ns, _, _, _, rfl, upd_same, hplx.same m3, Dd, fun H15 sv tr => ⟨rfl, ?_⟩⟩
          have hpl15 := (hplx.same m3).sav (fs := []) upd_same sv
          have r15 : RS r H H15 := s20.trans ⟨fun b ob _ e => sv b ob (ne_of_none e hx0) (m3 _ _ e), by
            obtain ⟨a1, b1, e1, h1⟩ := s20.rg
            exact ⟨a1, b1, sv r _ (ne_of_none e1 hx0) (m3 _ _ e1), h1⟩⟩
          refine ⟨_, rfl, _, ns, _, _, _, rfl, hpl15, Dd, fun o H16 ho0 s16 ho => ⟨_, _, rfl, ?_⟩⟩
          have r16 := r15.trans (RS.of s16 r15.rg)
          have tr16 := tr.same s16
          have hpl16 := hpl15.same s16
          refine ⟨2, rfl, by decide, by decide, for_it walk_range (fun i σ H' => ∃ (v3 v4 v5 v8 v9 : Option V), σ = [some (.ref r), some (.int d2), some (.ref p2), v3, v4, v5, some (.ref x), some (.ref o), v8, v9] ∧ Same H16 H') ⟨_, _, _, _, _, rfl, Same.refl _⟩ (fun _ _ _ _ _ => trivial) ?_ ?_⟩
          · rintro i0 y0 σ H17 H18 hi0 ⟨v3, v4, v5, v8, v9, rfl, s17⟩ ⟨rfl, rfl⟩
            refine ⟨by show 1 ≤ sizeLine; decide, fun q1 hq1 => ?_⟩
            have m1 := Same.new (o := .lst [.str Rt]) hq1
            refine ⟨_, rfl, _, _, rfl, m1 _ _ (s17 _ _ hpl16.2), fun q2 hq2 => ?_⟩
            rw [ekeys]
            have m2 := m1.trans (Same.new (o := .lst (ns.map V.str)) hq2)
            refine ⟨q1, q2, [.str Rt], ns.map V.str, rfl, rfl, Same.new hq2 _ _ upd_same, upd_same, by rw [List.length_map, sz]; show 1 + _ ≤ _; omega, fun q3 hq3 => ?_⟩
            have m3' := m2.trans (Same.new (o := .lst ([.str Rt] ++ ns.map V.str)) hq3)
            have hq3v : (upd (upd (upd H18 q1 (.lst [.str Rt])) q2 (.lst (ns.map V.str))) q3 (.lst ([.str Rt] ++ ns.map V.str))) q3 = some (.lst ((Rt :: ns).map V.str)) := upd_same
            refine ⟨q3, rfl, ⟨_, SqL.of hq3v⟩, for_it (walk_list (xs := (Rt :: ns).map V.str)) (fun i σ H' => ∃ (v3 v4 v5 v8 v9 : Option V), σ = [some (.ref r), some (.int d2), some (.ref p2), v3, v4, v5, some (.ref x), some (.ref o), v8, v9] ∧ Same (upd (upd (upd H18 q1 (.lst [.str Rt])) q2 (.lst (ns.map V.str))) q3 (.lst ([.str Rt] ++ ns.map V.str))) H') ⟨_, _, _, _, _, rfl, Same.refl _⟩ (fun i σ H' _ ⟨_, _, _, _, _, _, s⟩ => SqL.of (s _ _ hq3v)) ?_ ?_⟩
            · rintro i1 y1 σ H19 H20 hi1 ⟨v3, v4, v5, v8, v9, rfl, s19⟩ ⟨rfl, hv⟩
              rw [List.getElem?_map] at hv
              obtain ⟨n, hn, rfl⟩ := Option.map_eq_some_iff.mp hv
              have hnn := List.mem_cons.mp (List.mem_of_getElem? hn)
              have sx := (s17.trans m3').trans s19
              refine ⟨_, rfl, _, rfl, x, n, ns, _, _, rfl, tr16.same sx, Dd, hnn, fun H21 s21 => ?_⟩
              have sy := sx.trans s21
              refine ⟨_, rfl, _, rfl, _, rfl, _, o, n, ns, _, _, _, rfl, hpl16.same sy, Dd, hnn, sy _ _ ho, fun H22 s22 => ⟨rfl, _, rfl, iteND (fun h => absurd rfl h) fun _ => ⟨_, _, _, _, _, rfl, (s19.trans s21).trans s22⟩⟩⟩
            · rintro σ H19 ⟨v3, v4, v5, v8, v9, rfl, s19⟩
              exact ⟨_, _, _, _, _, rfl, (s17.trans m3').trans s19⟩
          · rintro σ H17 ⟨v3, v4, v5, v8, v9, rfl, s17⟩
            have r17 := r16.trans (RS.of s17 r16.rg)
            refine ⟨_, rfl, _, rfl, _, rfl, x, _, o, ns, _, _, _, rfl, tr16.same s17, hpl16.same s17, Dd, s17 _ _ ho, fun H18 s18 => ⟨_, rfl, iteNB (fun e => by cases e) fun _ => ?_⟩⟩
            have s18' := s17.trans s18
            have r18 := r17.trans (RS.of s18 r17.rg)
            refine ⟨_, rfl, _, rfl, _, rfl, r, x, _, ns, _, _, _, rfl, r18.rg, tr16.same s18', hpl16.same s18', Dd, fun H19 s19 => ⟨_, rfl, iteNB (fun e => by cases e) fun _ => ?_⟩⟩
            refine ⟨_, rfl, _, rfl, _, rfl, r, x, _, ns, _, _, _, rfl, s19.rg, (tr16.same s18').rs r18.rg s19, (hpl16.same s18').rs r18.rg s19, Dd, Tabs_rs hTB hR (r18.trans s19), fun H20 s20 => ⟨_, rfl, iteT ⟨_, rfl, r, rfl, s20.rg, fun H21 s21 => q H21 (((RSN.of (r18.trans s19) hR).trans s20).trans (RSN.of s21 s20.rg))⟩⟩⟩
      · have s20 := sB
        have Dd := D
        have few := Dd.few
        have hplx := hpl13
        refine ⟨_, rfl, fun x dx hx0 hdx0 hne => ?_⟩
        have m3 := (Same.new (o := .own x) hdx0).trans (Same.new (o := .ins C dx []) (by rw [upd_ne (Ne.symm hne)]; exact hx0))
        refine ⟨x, _, dx, ns, _, _, _, rfl, upd_same, hplx.same m3, Dd, fun H15 sv tr => ⟨rfl, ?_⟩⟩
        have hpl15 := (hplx.same m3).sav (fs := []) upd_same sv
        have r15 : RS r H H15 := s20.trans ⟨fun b ob _ e => sv b ob (ne_of_none e hx0) (m3 _ _ e), by
          obtain ⟨a1, b1, e1, h1⟩ := s20.rg
          exact ⟨a1, b1, sv r _ (ne_of_none e1 hx0) (m3 _ _ e1), h1⟩⟩
        refine ⟨_, rfl, _, ns, _, _, _, rfl, hpl15, Dd, fun o H16 ho0 s16 ho => ⟨_, _, rfl, ?_⟩⟩
        have r16 := r15.trans (RS.of s16 r15.rg)
        have tr16 := tr.same s16
        have hpl16 := hpl15.same s16
        refine ⟨2, rfl, by decide, by decide, for_it walk_range (fun i σ H' => ∃ (v3 v4 v5 v8 v9 : Option V), σ = [some (.ref r), some (.int d2), some (.ref p), v3, v4, v5, some (.ref x), some (.ref o), v8, v9] ∧ Same H16 H') ⟨_, _, _, _, _, rfl, Same.refl _⟩ (fun _ _ _ _ _ => trivial) ?_ ?_⟩
        · rintro i0 y0 σ H17 H18 hi0 ⟨v3, v4, v5, v8, v9, rfl, s17⟩ ⟨rfl, rfl⟩
          refine ⟨by show 1 ≤ sizeLine; decide, fun q1 hq1 => ?_⟩
          have m1 := Same.new (o := .lst [.str Rt]) hq1
          refine ⟨_, rfl, _, _, rfl, m1 _ _ (s17 _ _ hpl16.2), fun q2 hq2 => ?_⟩
          rw [ekeys]
          have m2 := m1.trans (Same.new (o := .lst (ns.map V.str)) hq2)
          refine ⟨q1, q2, [.str Rt], ns.map V.str, rfl, rfl, Same.new hq2 _ _ upd_same, upd_same, by rw [List.length_map, sz]; show 1 + _ ≤ _; omega, fun q3 hq3 => ?_⟩
          have m3' := m2.trans (Same.new (o := .lst ([.str Rt] ++ ns.map V.str)) hq3)
          have hq3v : (upd (upd (upd H18 q1 (.lst [.str Rt])) q2 (.lst (ns.map V.str))) q3 (.lst ([.str Rt] ++ ns.map V.str))) q3 = some (.lst ((Rt :: ns).map V.str)) := upd_same
          refine ⟨q3, rfl, ⟨_, SqL.of hq3v⟩, for_it (walk_list (xs := (Rt :: ns).map V.str)) (fun i σ H' => ∃ (v3 v4 v5 v8 v9 : Option V), σ = [some (.ref r), some (.int d2), some (.ref p), v3, v4, v5, some (.ref x), some (.ref o), v8, v9] ∧ Same (upd (upd (upd H18 q1 (.lst [.str Rt])) q2 (.lst (ns.map V.str))) q3 (.lst ([.str Rt] ++ ns.map V.str))) H') ⟨_, _, _, _, _, rfl, Same.refl _⟩ (fun i σ H' _ ⟨_, _, _, _, _, _, s⟩ => SqL.of (s _ _ hq3v)) ?_ ?_⟩
          · rintro i1 y1 σ H19 H20 hi1 ⟨v3, v4, v5, v8, v9, rfl, s19⟩ ⟨rfl, hv⟩
            rw [List.getElem?_map] at hv
            obtain ⟨n, hn, rfl⟩ := Option.map_eq_some_iff.mp hv
            have hnn := List.mem_cons.mp (List.mem_of_getElem? hn)
            have sx := (s17.trans m3').trans s19
            refine ⟨_, rfl, _, rfl, x, n, ns, _, _, rfl, tr16.same sx, Dd, hnn, fun H21 s21 => ?_⟩
            have sy := sx.trans s21
            refine ⟨_, rfl, _, rfl, _, rfl, _, o, n, ns, _, _, _, rfl, hpl16.same sy, Dd, hnn, sy _ _ ho, fun H22 s22 => ⟨rfl, _, rfl, iteND (fun h => absurd rfl h) fun _ => ⟨_, _, _, _, _, rfl, (s19.trans s21).trans s22⟩⟩⟩
          · rintro σ H19 ⟨v3, v4, v5, v8, v9, rfl, s19⟩
            exact ⟨_, _, _, _, _, rfl, (s17.trans m3').trans s19⟩
        · rintro σ H17 ⟨v3, v4, v5, v8, v9, rfl, s17⟩
          have r17 := r16.trans (RS.of s17 r16.rg)
          refine ⟨_, rfl, _, rfl, _, rfl, x, _, o, ns, _, _, _, rfl, tr16.same s17, hpl16.same s17, Dd, s17 _ _ ho, fun H18 s18 => ⟨_, rfl, iteNB (fun e => by cases e) fun _ => ?_⟩⟩
          have s18' := s17.trans s18
          have r18 := r17.trans (RS.of s18 r17.rg)
          refine ⟨_, rfl, _, rfl, _, rfl, r, x, _, ns, _, _, _, rfl, r18.rg, tr16.same s18', hpl16.same s18', Dd, fun H19 s19 => ⟨_, rfl, iteNB (fun e => by cases e) fun _ => ?_⟩⟩
          refine ⟨_, rfl, _, rfl, _, rfl, r, x, _, ns, _, _, _, rfl, s19.rg, (tr16.same s18').rs r18.rg s19, (hpl16.same s18').rs r18.rg s19, Dd, Tabs_rs hTB hR (r18.trans s19), fun H20 s20 => ⟨_, rfl, iteT ⟨_, rfl, r, rfl, s20.rg, fun H21 s21 => q H21 (((RSN.of (r18.trans s19) hR).trans s20).trans (RSN.of s21 s20.rg))⟩⟩⟩
end
end MG
/-! text LT -/
set_option Elab.async false
set_option linter.all false
set_option maxRecDepth 100000
set_option maxHeartbeats 4200000
/-! the law -/
namespace MG
open PySem PySem.Spec PyProof.Rows L2
def spRngK (K : PySem.W.Frag) : Sp := fun vs H Q _ => ∃ (l : Addr) (ns : List Int) (k : Nat) , vs = [.ref l, .int k] ∧ SqL K H l (ns.map V.int) ∧ k ≤ 3 ∧ ns.length ≤ 63 ∧ ∀ (r : Addr) (H' : Hp), H r = none → Same H H' → Rng r H' → Q (.ref r) H'
def spLaw (TB : List (Addr × Str)) (K : PySem.W.Frag) : Sp := fun vs H Q _ => ∃ (l : Addr) (ns : List Int), vs = [.ref l] ∧ SqL K H l (ns.map V.int) ∧ ns.length ≤ 63 ∧ LamX.Tabs TB H ∧ ∀ H', Q (.bl true) H'
theorem SameSq {K : PySem.W.Frag} {H H' : Hp} {l : Addr} {xs : List V} (s : Same H H') (h : SqL K H l xs) : SqL K H' l xs := by
  rcases h with h | h
  · exact .inl (Same.rd s h)
  · exact .inr h
section
variable {P : Program} {w : World} {K : PySem.W.Frag} {mg : Str → Option Value} {base : Heap} {C U : Addr} {TB : List (Addr × Str)}

theorem ok_rngK {f : Addr} {fd : FuncData} (T : Txt K mg C) (F : Fun K "_law_rng" "_law_rng" s_rng f fd) (hm : mg "_law_rng" = some (.ref f)) : Cal P w K mg base 1 "_law_rng" (spRngK K) := by
  refine ⟨f, fd, ["_law_script", "_law_k"], ?_, hm, F.kp, F.binds (ps := ["_law_script", "_law_k"]) fun _ _ _ _ _ _ us hl => match us, hl with | [_, _], _ => rfl⟩
  refine F.okX sc_s_rng (fun vs H Q E h => ?_) (fun cdv A outer s H vs Q E hr h => ?_)
  · obtain ⟨l, ns, k, rfl, _⟩ := h
    rfl
  · obtain ⟨l, ns, k, rfl, hl, hk, hn, q⟩ := h
    refine ⟨_, PSs.nox (pss_cons (ps_set (i := 2) sc_s_rng.nd rfl (Or.inl rfl) (pe_ifExp (pt_cmpR op_lt (pv 1) (pe_callB call_len_seq (by rfl) T.g_len bt_len (pa_cons (pv 0) pa_nil)) (nomark _)) (pe_callB call_abs (by rfl) T.g_abs bt_abs (pa_cons (pe_ix ix_list (pv 0) (pv 1) (fun _ _ => rfl)) pa_nil)) pe_int))
    (pss_one (ps_ret (pe_lst (pa_cons (pe_callB (call_max2 rfl) (by rfl) T.g_max bt_max (pa_cons pe_int (pa_cons (pe_op op_sub (pv 2) (pe_op op_pow pe_int pe_int)) pa_nil))) (pa_cons (pe_op op_add (pe_op op_mod (pe_op op_pow (pe_op op_add (pe_op op_add (pe_op op_mod (pv 2) pe_int) (pe_op op_mul pe_int (pv 1))) pe_int) pe_int) pe_int) pe_int) pa_nil)))))), ?_⟩
    have hlen : (ns.map V.int).length = ns.length := List.length_map ..
    have cpow : ∀ c : Int, 0 ≤ c → CPow (c % 2147483543 + 101 * ↑k + 7) 2 := fun c hc => by
      have h1 := Int.emod_nonneg c (show (2147483543 : Int) ≠ 0 by decide)
      have h2 := Int.emod_lt_of_pos c (show (0 : Int) < 2147483543 by decide)
      refine ⟨by decide, by decide, ?_⟩
      have e : (2 : Nat) ^ 64 = 18446744073709551616 := by decide
      rw [e]
      omega
    have maxnn : ∀ z : Int, 0 ≤ (if z > 0 then z else 0) := fun z => by split <;> omega
    have modb : ∀ z : Int, 0 ≤ z % 2147483497 + 1 ∧ z % 2147483497 + 1 < 2147483648 := fun z => by
      have h1 := Int.emod_nonneg z (show (2147483497 : Int) ≠ 0 by decide)
      have h2 := Int.emod_lt_of_pos z (show (0 : Int) < 2147483497 by decide)
      omega
    refine ⟨_, rfl, ⟨_, rfl, _, _, rfl, .inl (hl), ⟨_, _, rfl, rfl, ?_⟩⟩⟩
    have e1 : (↑k : Int) < ↑((ns.map V.int).length) ↔ k < ns.length := by rw [List.length_map]; omega
    by_cases hlt : k < ns.length
    · refine ⟨_, rfl, ifT (e1.mpr hlt) ⟨_, rfl, _, rfl, _, _, _, .int ns[k], rfl, rfl, hl, ?_, _, rfl, ?_⟩⟩
      · exact atI_nat (by rw [List.getElem?_map, List.getElem?_eq_getElem hlt]; rfl)
      have h0 : (0 : Int) ≤ (if ns[k] < 0 then -ns[k] else ns[k]) := by split <;> omega
      refine ⟨_, rfl, _, _, rfl, rfl, ⟨by decide, by decide, by decide⟩, _, _, rfl, rfl, _, _, rfl, _, rfl, _, _, rfl, rfl, (by show (0 : Int) < 2147483543; decide), _, rfl, _, _, rfl, rfl, .inl ⟨by decide, by decide⟩, _, _, rfl, rfl, _, _, rfl, rfl, _, _, rfl, rfl, cpow _ h0, _, _, rfl, rfl, (by show (0 : Int) < 2147483497; decide), _, _, rfl, rfl, by show 2 ≤ sizeLine; decide, fun r hr => ?_⟩
      exact q r _ hr (Same.new hr) ⟨_, _, upd_same, maxnn _, (modb _).1, (modb _).2⟩
    · refine ⟨_, rfl, ifF (fun h => hlt (e1.mp h)) ?_⟩
      have h0 : (0 : Int) ≤ 0 := Int.le_refl _
      refine ⟨_, rfl, _, _, rfl, rfl, ⟨by decide, by decide, by decide⟩, _, _, rfl, rfl, _, _, rfl, _, rfl, _, _, rfl, rfl, (by show (0 : Int) < 2147483543; decide), _, rfl, _, _, rfl, rfl, .inl ⟨by decide, by decide⟩, _, _, rfl, rfl, _, _, rfl, rfl, _, _, rfl, rfl, cpow 0 h0, _, _, rfl, rfl, (by show (0 : Int) < 2147483497; decide), _, _, rfl, rfl, by show 2 ≤ sizeLine; decide, fun r hr => ?_⟩
      exact q r _ hr (Same.new hr) ⟨_, _, upd_same, maxnn _, (modb _).1, (modb _).2⟩
theorem sc_s_law : FnScope ["_law_script", "_law_k"] ["_law_script"] (defScope s_law) := ⟨rfl, rfl, rfl, by decide +kernel, rfl, by decide +kernel, by decide +kernel⟩
theorem ok_law {f : Addr} {fd : FuncData} (T : Txt K mg C) (F : Fun K "law" "law" s_law f fd) (hm : mg "law" = some (.ref f)) (c__law_rng : Cal P w K mg base 1 "_law_rng" (spRngK K)) (c__law_right : CalG P w K mg base 12 "_law_right" (spRight TB)) : CalG P w K mg base 13 "law" (spLaw TB K) := by
  refine ⟨f, fd, ["_law_script"], ?_, hm, F.kp, F.binds (ps := ["_law_script"]) fun _ _ _ _ _ _ us hl => match us, hl with | [_], _ => rfl⟩
  refine okG F sc_s_law (fun vs H Q E h => ?_) (fun cdv A outer s H vs Q E hr hgu h => ?_)
  · obtain ⟨l, ns, rfl, _⟩ := h
    rfl
  · obtain ⟨l, ns, rfl, hl, hn, hTB, q⟩ := h
    refine ⟨_, PSs.nox (pss_one (ps_ret (pe_callB (cr_all rfl) (by rfl) T.g_all bt_all (pa_cons (pe_lc (own := [("_law_k", 1)]) (g := gName 1) (tt := tYes) rfl sc_s_law.nd (pi_range1 (by rfl) T.g_range (pa_cons (pe_callB (call_max2 rfl) (by rfl) T.g_max bt_max (pa_cons pe_int (pa_cons (pe_callB (call_min2 rfl) (by rfl) T.g_min bt_min (pa_cons (pe_callB call_len_seq (by rfl) T.g_len bt_len (pa_cons (pv 0) pa_nil)) (pa_cons pe_int pa_nil))) pa_nil))) pa_nil)) (blkOk_by (own := [("_law_k", 1)]) (N := ["_law_script", "_law_k"]) (sc := defScope s_law) (by decide +kernel)) (fun _ _ _ _ _ => pg_name (i := 1) sc_s_law.nd rfl (Or.inl rfl)) (fun _ _ _ _ _ => pts_nil) (fun _ _ _ _ _ => (pe_clG c__law_right hr (by decide) hgu (by rfl) (pa_cons (pe_cl c__law_rng hr (by decide) (by rfl) (pa_cons (pv 0) (pa_cons (pv 1) pa_nil))) pa_nil)))) pa_nil)))), ?_⟩
    have sq : ∀ {H' : Hp}, (∀ b o, H b = some o → (∀ ps, o ≠ .tbl ps) → H' b = some o) → SqL K H' l (ns.map V.int) := fun {H'} s => by
      rcases hl with h | h
      · rcases h with h | ⟨ob, h⟩
        · exact .inl (.inl (s _ _ h fun ps e => by cases e))
        · exact .inl (.inr ⟨ob, s _ _ h fun ps e => by cases e⟩)
      · exact .inr h
    have hj : ∀ a : Nat, ∃ k : Nat, (if (if (4 : Int) < (a : Int) then (4 : Int) else (a : Int)) > 1 then (if (4 : Int) < (a : Int) then (4 : Int) else (a : Int)) else 1) = (k : Int) ∧ k ≤ 4 := fun a => by
      by_cases h1 : (4 : Int) < (a : Int)
      · rw [if_pos h1]; exact ⟨4, rfl, by decide⟩
      · rw [if_neg h1]
        by_cases h2 : (a : Int) > 1
        · rw [if_pos h2]; exact ⟨a, rfl, by omega⟩
        · rw [if_neg h2]; exact ⟨1, rfl, by decide⟩
    have hj2 : ∀ a : Nat, ∃ k : Nat, (if (if (4 : Int) < (a : Int) then (4 : Int) else (a : Int)) > 1 then (if (4 : Int) < (a : Int) then (4 : Int) else (a : Int)) else 1) = (k : Int) ∧ k ≤ 4 := hj
    obtain ⟨kk, ek, hk4⟩ := hj ((ns.map V.int).length)
    refine ⟨_, rfl, l, _, rfl, .inl hl, _, _, rfl, _, _, rfl, (kk : Int), congrArg (fun z => [V.int z]) ek, by omega, by omega, fun D hD => lc_it walk_range (fun i H' => H' D = some (.lst ((List.replicate i true).map V.bl)) ∧ (∀ b o, H b = some o → (∀ ps, o ≠ .tbl ps) → H' b = some o) ∧ LamX.Tabs TB H') ⟨upd_same, fun b o e _ => Same.new hD b o e, LamX.Tabs.ext hTB (Same.new hD)⟩ (fun _ _ _ _ => trivial) ?_ ?_⟩
    · rintro i x H1 H2 hi ⟨hD1, s1, tb1⟩ ⟨rfl, rfl⟩
      rw [Int.toNat_natCast] at hi
      have Dn : ∀ b, H b ≠ none → b ≠ D := fun b h e => h (e ▸ hD)
      refine ⟨rfl, _, rfl, _, rfl, l, ns, i, (by show [V.ref l, V.int (0 + (i : Int))] = _; rw [Int.zero_add]), sq s1, by omega, hn, fun r H3 hr0 s3 rg => ⟨r, rfl, rg, LamX.Tabs.ext tb1 s3, fun H4 s4 => ?_⟩⟩
      have s14 : ∀ b o, H2 b = some o → (∀ ps, o ≠ .tbl ps) → H4 b = some o := fun b o e n => s4.sv b o (ne_of_none e hr0) (s3 b o e) n
      have hD4 := s14 _ _ hD1 fun ps e => by cases e
      have tb4 := s4.tb (LamX.Tabs.ext tb1 s3)
      refine ⟨_, hD4, by rw [List.length_map, List.length_replicate, sz]; omega, by rw [upd_same, List.replicate_succ', List.map_append]; rfl, fun b o e n => by rw [upd_ne (Dn b (by rw [e]; simp))]; exact s14 b o (s1 b o e n) n, fun p hp => ?_⟩
      obtain ⟨ps, h1, h2, h3⟩ := tb4 p hp
      refine ⟨ps, by rw [upd_ne (fun e => by rw [e, hD4] at h1; cases h1)]; exact h1, h2, fun pos cv hc => ?_⟩
      obtain ⟨c, e1, e2⟩ := h3 pos cv hc
      exact ⟨c, e1, by rw [upd_ne (fun e => by rw [e, hD4] at e2; unfold LamX.CodeO at e2; cases e2)]; exact e2⟩
    · rintro H1 ⟨hD1, s1, _⟩
      refine ⟨D, List.replicate _ true, rfl, SqL.of hD1, ?_⟩
      have e : (List.replicate ((kk : Int).toNat) true).all id = true := by
        rw [List.all_eq_true]
        intro x hx
        rw [List.eq_of_mem_replicate hx]; rfl
      rw [e]
      exact q H1
end
end MG
/-! text LX -/
set_option Elab.async false
set_option linter.all false
set_option maxRecDepth 100000
set_option maxHeartbeats 4200000
/-! the strangers -/
namespace MG
open PySem PySem.Spec PyProof.Rows L2 LamX
theorem okGc {P : Program} {w : World} {K : PySem.W.Frag} {mg : Str → Option Value} {base : Heap} {x qual : Str} {st : Stmt} {f c : Addr} {fd : FuncData} {N ps : List Str} {k : Nat} {sp : Sp} (F : Fun K x qual st f fd) (hc : fd.code = .ref c) (S : FnScope N ps (defScope st)) (len : ∀ vs H Q E, sp vs H Q E → vs.length = ps.length)
    (hbody : ∀ (A : Around) (outer : List Env) (s : Shared) (H : Hp) (vs : List V) (Q : VK) (E : XK), Room k (A.deeper (envOfC qual (defScope st) s.heap.objs.size f (.ref c))) → (A.deeper (envOfC qual (defScope st) s.heap.objs.size f (.ref c))).guards = some [] → sp vs H Q E →
      ∃ t, PSs (cxOf (L2.CX P w) P w K mg base N qual (defScope st) f (.ref c) A outer s H E) (defBody st) t ∧ t { nx := fun _ H' => Q .non H', rt := Q } (L2.start N vs) H) : FnOkG P w K mg base (k + 1) f fd ps sp := by
  obtain ⟨oc, od, kV, doc, pm, an, cdv, ct, slots, rfl, lk, hcd⟩ := F.ex
  obtain rfl : cdv = .ref c := hc
  exact ⟨len, fun A outer s H args us vs Q E hr hg e0 hb r h => LamX.run_ofS lk hcd S hr e0 hb r (len _ _ _ _ h) fun hr' => hbody A outer s H vs Q E hr' hg h⟩
theorem pe_unk {X : Cx} {TB : List (Addr × Str)} {C U g c PT : Addr} {fdg : FuncData} {params : Arguments} {body : Expr} {scope : Scope} {t : XK → TE} {p lpos pos : Pos} (T : Txt X.K X.mg C) (F : Fun X.K "_law_unknown" "_law_unknown" s_unknown g fdg) (hm : X.mg "_law_unknown" = some (.ref g))
    (hU : X.mg "UnknownNode" = some (.ref U)) (hXf : XfC X.K U) (hno : PySem.W.findIn X.K (.ref U) "value" = some none) (hex : PySem.W.exmOne X.K (.ref U) (.ref U) = some true) (hgu : X.A.guards = some []) (hr : Room 7 X.A) (hg : Gl X "_law_unknown")
    (hTB : TabB X.base X.mg c PT) (hcode : X.env.code = .ref c) (hmT : (PT, X.env.qual ++ "<lambda>") ∈ TB) (hu : ∀ p ∈ TB, p.1 = PT → p.2 = X.env.qual ++ "<lambda>") (L : LamS X.env.scope scope) (hdef : defaultsOf params X.env = ([], [])) (hbind : ∀ (q : Str) (cl : List (Str × Addr)) (pm cv ctv : Value), bindArgs (PySem.W.kla_fn "<lambda>" q params body scope cl pm cv ctv) ⟨[], []⟩ = pure [])
    (hbody : ∀ (A : Around) (outer : List Env) (s : Shared) (H : Hp) (E : XK) (f c' : Addr), Room 5 (A.deeper (lamEnv X scope s.heap.objs.size f c')) → PE (lamCx X A outer s H E scope f c') body (t E)) :
    PE X (.Call (.Name "_law_unknown" p) [.Lambda params body scope lpos] [] pos) (tLam TB (UnkTo U) t) := by
  have hb := F.binds (ps := ["_law_call"]) fun _ _ _ _ _ _ us hl => match us, hl with | [_], _ => rfl
  obtain ⟨oc, od, kV, doc, pm, an, cdv, ct, slots, rfl, lk, hcd⟩ := F.ex
  exact pe_lamcall (Ng := NU) (a := "_law_call") hg hm F.kp lk hcd hb sc_unknown rfl (.inl rfl) (unknown_gives T hU hXf hno hex hgu hr) hTB hcode hmT hu hr L hdef hbind hbody
/-! ### what stays -/
section
variable {H H' : Hp} {C a p : Addr} {ns : List Str} {par lab : Str → Str} {ad : Str → Addr}
theorem PlX.ext (h : PlX H p ns par lab ad) (e : ExtN H H') : PlX H' p ns par lab ad := by
  have hp := e _ _ h.2 fun _ z => by cases z
  exact ⟨⟨.inl hp, fun n hn => e _ _ (h.1.t n hn) fun _ z => by cases z⟩, hp⟩
theorem Ob.ext {fs : List (Str × V)} (h : Ob C H a fs) (e : ExtN H H') : Ob C H' a fs := by
  obtain ⟨dx, hx⟩ := h.at_
  exact ⟨⟨dx, e _ _ hx fun _ z => by cases z⟩, h.no, h.few⟩
theorem TreeOk.ext (h : TreeOk C H a ns par lab) (s : ExtN H H') : TreeOk C H' a ns par lab := by
  obtain ⟨⟨fs, p, ad, h1, h2, h3, h4⟩, ⟨fs2, p2, ca, g1, g2, g3, g4⟩, ⟨fs3, p3, k1, k2, k3⟩, ⟨fs4, hh, m1, m2, m3⟩⟩ := h
  have hx := PlX.ext ⟨h3, h4⟩ s
  exact ⟨⟨fs, p, ad, h1.ext s, h2, hx.1, hx.2⟩, ⟨fs2, p2, ca, g1.ext s, g2, s _ _ g3 (fun _ e => by cases e), fun n hn => s _ _ (g4 n hn) fun _ e => by cases e⟩, ⟨fs3, p3, k1.ext s, k2, s _ _ k3 (fun _ e => by cases e)⟩, ⟨fs4, hh, m1.ext s, m2, m3⟩⟩
end
theorem knownB_odd {ns : List Str} {par lab : Str → Str} (D : TD ns par lab) {x : Str} (h : nameB x = false) : knownB ns (.str x) = false := by
  cases e : knownB ns (.str x) with
  | false => rfl
  | true =>
    obtain ⟨n, en, hn⟩ := knownB_of e
    cases en
    have : nameB x = true := hn.elim (fun e => e ▸ rt_name) (D.nm x)
    rw [h] at this
    cases this
/-- a call of the law's lambda has told of the stranger -/
structure Said (TB : List (Addr × Str)) (H H' : Hp) : Prop where
  e : ExtN H H'
  t : Tabs TB H'
theorem Said.same {TB : List (Addr × Str)} {H H1 H2 : Hp} (s : Said TB H H1) (e : Same H1 H2) : Said TB H H2 := ⟨s.e.trans (ExtN.of e), Tabs.ext s.t e⟩
theorem Odd.rs {r : Addr} {H H' : Hp} {v : V} {d : PyData} (h : Odd H v d) (hv : v ≠ .ref r) (s : RS r H H') : Odd H' v d := by
  have ne : ∀ {a : Addr}, v = .ref a → a ≠ r := fun e z => hv (by rw [e, z])
  refine ⟨?_, h.d⟩
  cases h.k with
  | non => exact .non
  | bl b => exact .bl b
  | int i => exact .int i
  | str x => exact .str x
  | lst xs hk => exact .lst xs (s.at hk (ne rfl))
  | tup xs hk => exact .tup xs (s.at hk (ne rfl))
  | dic hk => exact .dic (s.at hk (ne rfl))
theorem Said.put {TB : List (Addr × Str)} {H H' : Hp} {L : Addr} {xs ys : List V} (s : Said TB H H') (nl : ∀ o, H L = some o → (∀ ps, o ≠ .tbl ps) → False) (hL : H' L = some (.lst xs)) : Said TB H (upd H' L (.lst ys)) := by
  refine ⟨fun b o e n => ?_, fun p hp => ?_⟩
  · have hb : b ≠ L := fun z => nl o (by rw [← z]; exact e) n
    rw [upd_ne hb]
    exact s.e b o e n
  · obtain ⟨ps, h1, h2, h3⟩ := s.t p hp
    refine ⟨ps, by rw [upd_ne (fun e => by rw [e, hL] at h1; cases h1)]; exact h1, h2, fun pos cv hc => ?_⟩
    obtain ⟨c, e1, e2⟩ := h3 pos cv hc
    exact ⟨c, e1, by rw [upd_ne (fun e => by rw [e, hL] at e2; unfold LamX.CodeO at e2; cases e2)]; exact e2⟩
theorem Said.free {TB : List (Addr × Str)} {H H' : Hp} {L : Addr} (s : Said TB H H') (h : H' L = none) : ∀ o, H L = some o → (∀ ps, o ≠ .tbl ps) → False := fun o e n => by
  have := s.e L o e n
  rw [h] at this
  cases this
theorem od_non : OddD .none := ⟨by decide +kernel, by decide +kernel, by decide +kernel, by decide +kernel⟩
theorem od_int : OddD (.int 0) := ⟨by decide +kernel, by decide +kernel, by decide +kernel, by decide +kernel⟩
theorem od_bl : OddD (.bool true) := ⟨by decide +kernel, by decide +kernel, by decide +kernel, by decide +kernel⟩
theorem od_s1 : OddD (.str "") := ⟨by decide +kernel, by decide +kernel, by decide +kernel, by decide +kernel⟩
theorem od_s2 : OddD (.str "A") := ⟨by decide +kernel, by decide +kernel, by decide +kernel, by decide +kernel⟩
theorem od_s3 : OddD (.str "ninechars") := ⟨by decide +kernel, by decide +kernel, by decide +kernel, by decide +kernel⟩
theorem od_s4 : OddD (.str "a b") := ⟨by decide +kernel, by decide +kernel, by decide +kernel, by decide +kernel⟩
theorem od_l0 : OddD (.list []) := ⟨by decide +kernel, by decide +kernel, by decide +kernel, by decide +kernel⟩
theorem od_l1 : OddD (.list [.str "a"]) := ⟨by decide +kernel, by decide +kernel, by decide +kernel, by decide +kernel⟩
theorem od_t0 : OddD (.tuple []) := ⟨by decide +kernel, by decide +kernel, by decide +kernel, by decide +kernel⟩
theorem od_t1 : OddD (.tuple [.str "a"]) := ⟨by decide +kernel, by decide +kernel, by decide +kernel, by decide +kernel⟩
theorem od_d0 : OddD (.dict []) := ⟨by decide +kernel, by decide +kernel, by decide +kernel, by decide +kernel⟩
end MG
namespace MG
open PySem PySem.Spec PyProof.Rows L2 LamX
def lamQ : Str := (("_law_strangers_right" : Str) ++ ".<locals>.") ++ "<lambda>"
section
variable {P : Program} {w : World} {K : PySem.W.Frag} {mg : Str → Option Value} {base : Heap} {C U : Addr} {TB : List (Addr × Str)}
theorem sc_s_strangers : FnScope ["_law_rng_here", "_law_tree", "_law_places_here", "_law_odd", "_law_node", "_law_told_here"] ["_law_rng_here", "_law_tree", "_law_places_here"] (defScope s_strangers) := ⟨rfl, rfl, rfl, by decide +kernel, rfl, by decide +kernel, by decide +kernel⟩
theorem ok_strangers {f c PT g : Addr} {fd fdg : FuncData} (T : Txt K mg C) (F : Fun K "_law_strangers_right" "_law_strangers_right" s_strangers f fd) (hm : mg "_law_strangers_right" = some (.ref f)) (hc : fd.code = .ref c) (Fu : Fun K "_law_unknown" "_law_unknown" s_unknown g fdg) (hmu : mg "_law_unknown" = some (.ref g))
    (hU : mg "UnknownNode" = some (.ref U)) (hXf : XfC K U) (hno : PySem.W.findIn K (.ref U) "value" = some none) (hex : PySem.W.exmOne K (.ref U) (.ref U) = some true) (hTBb : TabB base mg c PT) (hmT : (PT, lamQ) ∈ TB) (huT : ∀ p ∈ TB, p.1 = PT → p.2 = lamQ)
    (c__law_choice : Cal P w K mg base 2 "_law_choice" spChoice) (c_way_up : Met P w K mg base 4 C "way_up" (spOf U C rWay)) (c_depth_of : Met P w K mg base 5 C "depth_of" (spOf U C rDepth)) (c_path_of : Met P w K mg base 5 C "path_of" (spOf U C rPath))
    (c_nodes_under : Met P w K mg base 4 C "nodes_under" (spBelow U C)) (c_is_under : Met P w K mg base 5 C "is_under" (spUnder U C)) : CalG P w K mg base 11 "_law_strangers_right" (spStr TB C) := by
  refine ⟨f, fd, ["_law_rng_here", "_law_tree", "_law_places_here"], ?_, hm, F.kp, F.binds (ps := ["_law_rng_here", "_law_tree", "_law_places_here"]) fun _ _ _ _ _ _ us hl => match us, hl with | [_, _, _], _ => rfl⟩
  refine okGc F hc sc_s_strangers (fun vs H Q E h => ?_) (fun A outer s H vs Q E hr hgu h => ?_)
  · obtain ⟨r, t, p, ns, par, lab, ad, rfl, _⟩ := h
    rfl
  · obtain ⟨r, t, p, ns, par, lab, ad, rfl, hR, hT, hp, D, hTb, q⟩ := h
    have hr10 : Room 10 (A.deeper (envOfC "_law_strangers_right" (defScope s_strangers) s.heap.objs.size f (.ref c))) := hr
    have hr7 := hr10.mono (by decide : 7 ≤ 10)
    refine ⟨_, PSs.nox (pss_cons (ps_set (i := 3) sc_s_strangers.nd rfl (Or.inr rfl) (pe_cl c__law_choice hr (by decide) (by rfl) (pa_cons (pv 0) (pa_cons (pe_lst (pa_cons pe_non (pa_cons pe_int (pa_cons pe_bl (pa_cons pe_str (pa_cons pe_str (pa_cons (pe_lst pa_nil) (pa_cons (pe_tup pa_nil) (pa_cons pe_dnewK (pa_cons (pe_tup (pa_cons pe_str pa_nil)) (pa_cons (pe_lst (pa_cons pe_str pa_nil)) (pa_cons pe_str (pa_cons pe_str pa_nil))))))))))))) pa_nil))))
    (pss_cons (ps_set (i := 4) sc_s_strangers.nd rfl (Or.inr rfl) (pe_cl c__law_choice hr (by decide) (by rfl) (pa_cons (pv 0) (pa_cons (pe_op op_cat (pe_lst (pa_cons pe_str pa_nil)) (pe_callTy (call_list_dK rfl) (by rfl) T.g_list bt_list (pa_cons (pv 2) pa_nil))) pa_nil))))
    (pss_cons (ps_set (i := 5) sc_s_strangers.nd rfl (Or.inl rfl) (pe_lst (pa_cons (pe_unk T Fu hmu hU hXf hno hex hgu hr7 (by rfl) hTBb rfl hmT huT (lamS_by (sc := defScope s_strangers) (by decide +kernel)) rfl (fun _ _ _ _ _ => rfl) (fun _ _ _ _ _ _ _ hr2 => (pe_mlX c_way_up hr2 (by decide) (passes_call (takes_of rfl rfl rfl rfl) fun _ _ _ _ h => h) (pv 1) (pa_cons (pv 3) pa_nil)))) pa_nil)))
    (pss_cons (ps_expr (pe_bm PySem.F.plainAttrs_list PySem.F.slot_list_append PySem.F.type_list_append mt_append (pv 5) (pa_cons (pe_unk T Fu hmu hU hXf hno hex hgu hr7 (by rfl) hTBb rfl hmT huT (lamS_by (sc := defScope s_strangers) (by decide +kernel)) rfl (fun _ _ _ _ _ => rfl) (fun _ _ _ _ _ _ _ hr2 => (pe_mlX c_depth_of hr2 (by decide) (passes_call (takes_of rfl rfl rfl rfl) fun _ _ _ _ h => h) (pv 1) (pa_cons (pv 3) pa_nil)))) pa_nil)))
    (pss_cons (ps_expr (pe_bm PySem.F.plainAttrs_list PySem.F.slot_list_append PySem.F.type_list_append mt_append (pv 5) (pa_cons (pe_unk T Fu hmu hU hXf hno hex hgu hr7 (by rfl) hTBb rfl hmT huT (lamS_by (sc := defScope s_strangers) (by decide +kernel)) rfl (fun _ _ _ _ _ => rfl) (fun _ _ _ _ _ _ _ hr2 => (pe_mlX c_path_of hr2 (by decide) (passes_call (takes_of rfl rfl rfl rfl) fun _ _ _ _ h => h) (pv 1) (pa_cons (pv 3) pa_nil)))) pa_nil)))
    (pss_cons (ps_expr (pe_bm PySem.F.plainAttrs_list PySem.F.slot_list_append PySem.F.type_list_append mt_append (pv 5) (pa_cons (pe_unk T Fu hmu hU hXf hno hex hgu hr7 (by rfl) hTBb rfl hmT huT (lamS_by (sc := defScope s_strangers) (by decide +kernel)) rfl (fun _ _ _ _ _ => rfl) (fun _ _ _ _ _ _ _ hr2 => (pe_mlX c_nodes_under hr2 (by decide) (passes_call (takes_of rfl rfl rfl rfl) fun _ _ _ _ h => h) (pv 1) (pa_cons (pv 3) pa_nil)))) pa_nil)))
    (pss_cons (ps_expr (pe_bm PySem.F.plainAttrs_list PySem.F.slot_list_append PySem.F.type_list_append mt_append (pv 5) (pa_cons (pe_unk T Fu hmu hU hXf hno hex hgu hr7 (by rfl) hTBb rfl hmT huT (lamS_by (sc := defScope s_strangers) (by decide +kernel)) rfl (fun _ _ _ _ _ => rfl) (fun _ _ _ _ _ _ _ hr2 => (pe_mlX c_is_under hr2 (by decide) (passes_call (takes_of rfl rfl rfl rfl) fun _ _ _ _ h => h) (pv 1) (pa_cons (pv 3) (pa_cons pe_non pa_nil))))) pa_nil)))
    (pss_cons (ps_expr (pe_bm PySem.F.plainAttrs_list PySem.F.slot_list_append PySem.F.type_list_append mt_append (pv 5) (pa_cons (pe_unk T Fu hmu hU hXf hno hex hgu hr7 (by rfl) hTBb rfl hmT huT (lamS_by (sc := defScope s_strangers) (by decide +kernel)) rfl (fun _ _ _ _ _ => rfl) (fun _ _ _ _ _ _ _ hr2 => (pe_mlX c_is_under hr2 (by decide) (passes_call (takes_of rfl rfl rfl rfl) fun _ _ _ _ h => h) (pv 1) (pa_cons (pv 4) (pa_cons (pv 3) pa_nil))))) pa_nil)))
    (pss_one (ps_ret (pe_cmpR (op_eqD hr.units) (pv 5) (pe_op op_rep (pe_lst (pa_cons (pe_callB (call_reprU hgu hr) (by rfl) T.g_repr bt_repr (pa_cons (pe_lstS (pa_cons pe_str (pa_cons (pv 3) pa_nil))) pa_nil)) pa_nil)) pe_int) (nomark _)))))))))))), ?_⟩
    have few := D.few
    have ek : (ns.map fun n => ((Sum.inr n : Key), V.ref (ad n))).map (fun kv => kV kv.1) = ns.map V.str := by rw [List.map_map]; rfl
    refine ⟨_, rfl, by show 0 ≤ sizeLine; decide, fun t1 ht1 => ?_⟩
    have u1 := RS.new (o := .lst []) hR ht1
    refine ⟨by show 0 ≤ sizeLine; decide, fun t2 ht2 => ?_⟩
    have u2 := u1.trans (RS.new (o := .tup []) u1.rg ht2)
    refine fun t3 ht3 => ?_
    have u3 := u2.trans (RS.new (o := .dK []) u2.rg ht3)
    refine ⟨by show 1 ≤ sizeLine; decide, fun t4 ht4 => ?_⟩
    have u4 := u3.trans (RS.new (o := .tup [.str "a"]) u3.rg ht4)
    refine ⟨by show 1 ≤ sizeLine; decide, fun t5 ht5 => ?_⟩
    have u5 := u4.trans (RS.new (o := .lst [.str "a"]) u4.rg ht5)
    refine ⟨by show 12 ≤ sizeLine; decide, fun l6 hl6 => ?_⟩
    refine ⟨r, l6, _, rfl, (RS.new u5.rg hl6).rg, fun e => u5.rg.ne (e ▸ hl6), upd_same, by show 0 < 12; decide, by show 12 ≤ 1000; decide, fun d y H7 s7 hy => ?_⟩
    obtain ⟨dat, odd7, yr, kn⟩ : ∃ dat, Odd H7 y dat ∧ y ≠ .ref r ∧ knownB ns y = false := by
      have g1 : t1 ≠ r := fun e => hR.ne (e ▸ ht1)
      have g2 : t2 ≠ r := fun e => u1.rg.ne (e ▸ ht2)
      have g3 : t3 ≠ r := fun e => u2.rg.ne (e ▸ ht3)
      have g4 : t4 ≠ r := fun e => u3.rg.ne (e ▸ ht4)
      have g5 : t5 ≠ r := fun e => u4.rg.ne (e ▸ ht5)
      have k1 := s7.at (Same.new hl6 _ _ (Same.new ht5 _ _ (Same.new ht4 _ _ (Same.new ht3 _ _ (Same.new ht2 _ _ (upd_same (a := t1) (o := .lst []))))))) g1
      have k2 := s7.at (Same.new hl6 _ _ (Same.new ht5 _ _ (Same.new ht4 _ _ (Same.new ht3 _ _ (upd_same (a := t2) (o := .tup [])))))) g2
      have k3 := s7.at (Same.new hl6 _ _ (Same.new ht5 _ _ (Same.new ht4 _ _ (upd_same (a := t3) (o := .dK []))))) g3
      have k4 := s7.at (Same.new hl6 _ _ (Same.new ht5 _ _ (upd_same (a := t4) (o := .tup [.str "a"])))) g4
      have k5 := s7.at (Same.new hl6 _ _ (upd_same (a := t5) (o := .lst [.str "a"]))) g5
      have hm := List.mem_of_getElem? hy
      simp only [List.mem_cons, List.not_mem_nil, or_false] at hm
      have nr : ∀ a : Addr, a ≠ r → V.ref a ≠ .ref r := fun a h e => h (V.ref.inj e)
      rcases hm with h | h | h | h | h | h | h | h | h | h | h | h
      · subst h; exact ⟨_, ⟨.non, od_non⟩, (fun e => by cases e), rfl⟩
      · subst h; exact ⟨_, ⟨.int _, od_int⟩, (fun e => by cases e), rfl⟩
      · subst h; exact ⟨_, ⟨.bl _, od_bl⟩, (fun e => by cases e), rfl⟩
      · subst h; exact ⟨_, ⟨.str _, od_s1⟩, (fun e => by cases e), knownB_odd D (by decide +kernel)⟩
      · subst h; exact ⟨_, ⟨.str _, od_s2⟩, (fun e => by cases e), knownB_odd D (by decide +kernel)⟩
      · subst h; exact ⟨_, ⟨.lst [] k1, od_l0⟩, nr _ g1, rfl⟩
      · subst h; exact ⟨_, ⟨.tup [] k2, od_t0⟩, nr _ g2, rfl⟩
      · subst h; exact ⟨_, ⟨.dic k3, od_d0⟩, nr _ g3, rfl⟩
      · subst h; exact ⟨_, ⟨.tup ["a"] k4, od_t1⟩, nr _ g4, rfl⟩
      · subst h; exact ⟨_, ⟨.lst ["a"] k5, od_l1⟩, nr _ g5, rfl⟩
      · subst h; exact ⟨_, ⟨.str _, od_s3⟩, (fun e => by cases e), knownB_odd D (by decide +kernel)⟩
      · subst h; exact ⟨_, ⟨.str _, od_s4⟩, (fun e => by cases e), knownB_odd D (by decide +kernel)⟩
    have v0 := (u5.trans (RS.new (o := _) u5.rg hl6)).trans s7
    clear hy s7 hl6 ht1 ht2 ht3 ht4 ht5
    have hp7 := hp.rs hR v0
    refine ⟨_, rfl, by show 1 ≤ sizeLine; decide, fun q1 hq1 => ?_⟩
    have m1 := Same.new (o := .lst [.str Rt]) hq1
    refine ⟨_, rfl, p, _, rfl, m1 _ _ hp7.2, fun q2 hq2 => ?_⟩
    rw [ek]
    have m2 := m1.trans (Same.new (o := .lst (ns.map V.str)) hq2)
    refine ⟨q1, q2, [.str Rt], ns.map V.str, rfl, rfl, Same.new hq2 _ _ upd_same, upd_same, by rw [List.length_map, sz]; show 1 + _ ≤ _; omega, fun q3 hq3 => ?_⟩
    have m3 := m2.trans (Same.new (o := .lst ([.str Rt] ++ ns.map V.str)) hq3)
    have v1 := v0.trans (RS.of m3 v0.rg)
    refine ⟨r, q3, _, rfl, v1.rg, fun e => (v0.trans (RS.of m2 v0.rg)).rg.ne (e ▸ hq3), upd_same, by simp, by rw [List.length_append, List.length_map]; show 1 + _ ≤ _; omega, fun d2 y2 H8 s8 hy2 => ?_⟩
    obtain ⟨n, rfl, hn⟩ : ∃ n, y2 = .str n ∧ (n = Rt ∨ n ∈ ns) := by
      have hy2 : ((Rt :: ns).map V.str)[d2]? = some y2 := hy2
      rw [List.getElem?_map] at hy2
      obtain ⟨n, h1, h2⟩ := Option.map_eq_some_iff.mp hy2
      exact ⟨n, h2.symm, List.mem_cons.mp (List.mem_of_getElem? h1)⟩
    have v2 := v1.trans s8
    have odd8 := (odd7.ext (ExtN.of m3)).rs yr s8
    have tr8 := hT.rs hR v2
    have tb8 : Tabs TB H8 := Tabs_rs hTb hR v2
    clear hy2 s8 hq3 hq2 hq1 m1 m2 m3 v1 hp7 odd7 v0
    have Kd := chS_kids D.T.nd par lab
    obtain ⟨fs, r0, hob, _, _⟩ := id tr8.tn.ex
    obtain ⟨dx, hx⟩ := hob.at_
    have unk : ∀ n', y = .str n' → (n' = Rt ∨ n' ∈ ns) → False := fun n' e h => by
      rw [e, knownB_yes h] at kn
      cases kn
    have kn' := knownB_yes hn
    have x0 : Said TB H8 H8 := ⟨ExtN.refl _, tb8⟩
    -- the first call
    refine ⟨tb8, fun H1 e1 b1 H2 s2 Q' => ?_⟩
    have x2 : Said TB H8 H2 := Said.same ⟨e1, b1⟩ s2
    refine ⟨_, rfl, t, dx, fs, rfl, x2.e _ _ hx (fun _ z => by cases z), hob.no _ (by decide), _, rfl, t, y, ns, par, lab, rfl, (tr8.ext x2.e).tp, D, (odd8.ext x2.e).k.told, fun n' e h => (unk n' e h).elim, fun _ d H3 s3 hd => ⟨rfl, d, y, dat, rfl, hd, odd8.ext (x2.same s3).e, fun H4 s4 => ?_⟩⟩
    have x4 := (x2.same s3).same s4
    refine ⟨by show 1 ≤ sizeLine; decide, fun L hL => ?_⟩
    have nl := x4.free hL
    have xa := x4.same (Same.new (o := .lst [.str (say dat)]) hL)
    have hLa : (upd H4 L (.lst [.str (say dat)])) L = some (.lst [.str (say dat)]) := upd_same
    generalize (upd H4 L (.lst [.str (say dat)])) = Ha at xa hLa
    clear s2 e1 b1 x2 hd s3 s4 x4 hL
    -- the next call
    refine ⟨_, rfl, .inl ⟨rfl, _, SqL.of hLa⟩, xa.t, fun H1 e1 b1 H2 s2 Q' => ?_⟩
    have z2 : Said TB _ H2 := Said.same ⟨e1, b1⟩ s2
    have x2 : Said TB H8 H2 := ⟨xa.e.trans z2.e, z2.t⟩
    refine ⟨_, rfl, t, dx, fs, rfl, x2.e _ _ hx (fun _ z => by cases z), hob.no _ (by decide), _, rfl, t, y, ns, par, lab, rfl, (tr8.ext x2.e).tp, D, (odd8.ext x2.e).k.told, fun n' e h => (unk n' e h).elim, fun _ d H3 s3 hd => ⟨rfl, d, y, dat, rfl, hd, odd8.ext (x2.same s3).e, fun H4 s4 => ?_⟩⟩
    have hL4 := (z2.same s3).same s4 |>.e _ _ hLa fun _ z => by cases z
    have x4 := (x2.same s3).same s4
    refine ⟨L, _, _, rfl, rfl, hL4, by show 1 < sizeLine; decide, ?_⟩
    have xb := x4.put (ys := [.str (say dat), .str (say dat)]) nl hL4
    have hLb : (upd H4 L (.lst [.str (say dat), .str (say dat)])) L = some (.lst [.str (say dat), .str (say dat)]) := upd_same
    clear s2 e1 b1 x2 z2 hd s3 s4 x4 xa hLa hL4
    have xa := xb
    have hLa := hLb
    clear xb hLb
    -- the next call
    refine ⟨_, rfl, .inl ⟨rfl, _, SqL.of hLa⟩, xa.t, fun H1 e1 b1 H2 s2 Q' => ?_⟩
    have z2 : Said TB _ H2 := Said.same ⟨e1, b1⟩ s2
    have x2 : Said TB H8 H2 := ⟨xa.e.trans z2.e, z2.t⟩
    refine ⟨_, rfl, t, dx, fs, rfl, x2.e _ _ hx (fun _ z => by cases z), hob.no _ (by decide), _, rfl, t, y, ns, par, lab, rfl, (tr8.ext x2.e).tp, D, (odd8.ext x2.e).k.told, fun n' e h => (unk n' e h).elim, fun _ d H3 s3 hd => ⟨rfl, d, y, dat, rfl, hd, odd8.ext (x2.same s3).e, fun H4 s4 => ?_⟩⟩
    have hL4 := (z2.same s3).same s4 |>.e _ _ hLa fun _ z => by cases z
    have x4 := (x2.same s3).same s4
    refine ⟨L, _, _, rfl, rfl, hL4, by show 2 < sizeLine; decide, ?_⟩
    have xb := x4.put (ys := [.str (say dat), .str (say dat), .str (say dat)]) nl hL4
    have hLb : (upd H4 L (.lst [.str (say dat), .str (say dat), .str (say dat)])) L = some (.lst [.str (say dat), .str (say dat), .str (say dat)]) := upd_same
    clear s2 e1 b1 x2 z2 hd s3 s4 x4 xa hLa hL4
    have xa := xb
    have hLa := hLb
    clear xb hLb
    -- the next call
    refine ⟨_, rfl, .inl ⟨rfl, _, SqL.of hLa⟩, xa.t, fun H1 e1 b1 H2 s2 Q' => ?_⟩
    have z2 : Said TB _ H2 := Said.same ⟨e1, b1⟩ s2
    have x2 : Said TB H8 H2 := ⟨xa.e.trans z2.e, z2.t⟩
    refine ⟨_, rfl, t, dx, fs, rfl, x2.e _ _ hx (fun _ z => by cases z), hob.no _ (by decide), _, rfl, t, y, ns, par, lab, chS ns par lab, rfl, (tr8.ext x2.e).tp, (tr8.ext x2.e).tc, D, Kd, (odd8.ext x2.e).k.told, fun n' e h => (unk n' e h).elim, fun _ d H3 s3 hd => ⟨rfl, d, y, dat, rfl, hd, odd8.ext (x2.same s3).e, fun H4 s4 => ?_⟩⟩
    have hL4 := (z2.same s3).same s4 |>.e _ _ hLa fun _ z => by cases z
    have x4 := (x2.same s3).same s4
    refine ⟨L, _, _, rfl, rfl, hL4, by show 3 < sizeLine; decide, ?_⟩
    have xb := x4.put (ys := [.str (say dat), .str (say dat), .str (say dat), .str (say dat)]) nl hL4
    have hLb : (upd H4 L (.lst [.str (say dat), .str (say dat), .str (say dat), .str (say dat)])) L = some (.lst [.str (say dat), .str (say dat), .str (say dat), .str (say dat)]) := upd_same
    clear s2 e1 b1 x2 z2 hd s3 s4 x4 xa hLa hL4
    have xa := xb
    have hLa := hLb
    clear xb hLb
    -- the next call
    refine ⟨_, rfl, .inl ⟨rfl, _, SqL.of hLa⟩, xa.t, fun H1 e1 b1 H2 s2 Q' => ?_⟩
    have z2 : Said TB _ H2 := Said.same ⟨e1, b1⟩ s2
    have x2 : Said TB H8 H2 := ⟨xa.e.trans z2.e, z2.t⟩
    refine ⟨_, rfl, t, dx, fs, rfl, x2.e _ _ hx (fun _ z => by cases z), hob.no _ (by decide), _, rfl, t, y, .non, ns, par, lab, rfl, (tr8.ext x2.e).tp, D, (odd8.ext x2.e).k.told, trivial, fun n' m' e _ h _ => (unk n' e h).elim, fun _ d H3 s3 hd => ⟨rfl, d, y, dat, rfl, hd, odd8.ext (x2.same s3).e, fun H4 s4 => ?_⟩, (fun e => by rw [kn] at e; cases e)⟩
    have hL4 := (z2.same s3).same s4 |>.e _ _ hLa fun _ z => by cases z
    have x4 := (x2.same s3).same s4
    refine ⟨L, _, _, rfl, rfl, hL4, by show 4 < sizeLine; decide, ?_⟩
    have xb := x4.put (ys := [.str (say dat), .str (say dat), .str (say dat), .str (say dat), .str (say dat)]) nl hL4
    have hLb : (upd H4 L (.lst [.str (say dat), .str (say dat), .str (say dat), .str (say dat), .str (say dat)])) L = some (.lst [.str (say dat), .str (say dat), .str (say dat), .str (say dat), .str (say dat)]) := upd_same
    clear s2 e1 b1 x2 z2 hd s3 s4 x4 xa hLa hL4
    have xa := xb
    have hLa := hLb
    clear xb hLb
    -- the next call
    refine ⟨_, rfl, .inl ⟨rfl, _, SqL.of hLa⟩, xa.t, fun H1 e1 b1 H2 s2 Q' => ?_⟩
    have z2 : Said TB _ H2 := Said.same ⟨e1, b1⟩ s2
    have x2 : Said TB H8 H2 := ⟨xa.e.trans z2.e, z2.t⟩
    refine ⟨_, rfl, t, dx, fs, rfl, x2.e _ _ hx (fun _ z => by cases z), hob.no _ (by decide), _, rfl, _, rfl, t, .str n, y, ns, par, lab, rfl, (tr8.ext x2.e).tp, D, trivial, (odd8.ext x2.e).k.told, fun n' m' _ e _ h => (unk m' e h).elim, (fun e => by rw [kn'] at e; cases e), fun _ _ d H3 s3 hd => ⟨rfl, d, y, dat, rfl, hd, odd8.ext (x2.same s3).e, fun H4 s4 => ?_⟩⟩
    have hL4 := (z2.same s3).same s4 |>.e _ _ hLa fun _ z => by cases z
    have x4 := (x2.same s3).same s4
    refine ⟨L, _, _, rfl, rfl, hL4, by show 5 < sizeLine; decide, ?_⟩
    have xb := x4.put (ys := [.str (say dat), .str (say dat), .str (say dat), .str (say dat), .str (say dat), .str (say dat)]) nl hL4
    have hLb : (upd H4 L (.lst [.str (say dat), .str (say dat), .str (say dat), .str (say dat), .str (say dat), .str (say dat)])) L = some (.lst [.str (say dat), .str (say dat), .str (say dat), .str (say dat), .str (say dat), .str (say dat)]) := upd_same
    clear s2 e1 b1 x2 z2 hd s3 s4 x4 xa hLa hL4
    have xa := xb
    have hLa := hLb
    clear xb hLb
    have six : PyData.strOk (say dat) = true := odd8.d.ok
    refine ⟨_, rfl, _, rfl, by show 2 ≤ sizeLine; decide, fun a1 ha1 sm => ?_⟩
    have w1 := Same.new (o := .lst [.str "unknown", y]) ha1
    refine ⟨a1, y, dat, rfl, sm, upd_same, odd8.ext (xa.same w1).e, by show 1 ≤ sizeLine; decide, fun a2 ha2 => ?_⟩
    have w2 := w1.trans (Same.new (o := .lst [.str (say dat)]) ha2)
    refine ⟨a2, 6, [.str (say dat)], rfl, rfl, upd_same, by decide, by decide, by show 6 ≤ sizeLine; decide, fun a3 ha3 => ?_⟩
    have w3 := w2.trans (Same.new (o := .lst (List.replicate ((6 : Int).toNat) [V.str (say dat)]).flatten) ha3)
    have xf := xa.same w3
    refine ⟨.list (([say dat, say dat, say dat, say dat, say dat, say dat] : List Str).map PyData.str), .list (([say dat, say dat, say dat, say dat, say dat, say dat] : List Str).map PyData.str), .lst (SqL.of (w3 _ _ hLa)) (dps_strs [say dat, say dat, say dat, say dat, say dat, say dat]), .lst (SqL.of upd_same) (dps_strs [say dat, say dat, say dat, say dat, say dat, say dat]), strs_shaped _ (fun x hx => ?_), strs_shaped _ (fun x hx => ?_), ?_⟩
    · simp at hx; rw [hx]; exact six
    · simp at hx; rw [hx]; exact six
    rw [strs_eqv, decide_eq_true rfl]
    obtain ⟨ra, rb, er, hr2⟩ := v2.rg
    exact q _ ⟨fun b o hb e n => xf.e b o (v2.sv b o hb e) n, ⟨ra, rb, xf.e _ _ er (fun _ z => by cases z), hr2⟩, fun _ => xf.t⟩
end
end MG
/-! text EndG -/
set_option Elab.async false
set_option linter.all false
set_option maxRecDepth 100000
set_option maxHeartbeats 4200000
/-! the law's end: one table of code objects, a promise where nothing guards -/
namespace MG
open PySem PySem.Spec PyProof.Rows L2 LamX
section
variable {P : Program} {w : World} {K : PySem.W.Frag} {mg mb : Str → Option Value} {k : Nat} {f a c PT : Addr} {x : Str} {sp : Sp} {s : Shared} {vs : List Value} {ns : List Int}
abbrev tab0 : Obj := { cls := .none, data := .fields #[] }
abbrev lst0 (vs : List Value) : Obj := { cls := .type "list", data := .seq vs.toArray }
/-- what is tracked at the start: the table, the script if it is not among what is written -/
structure Start (K : PySem.W.Frag) (PT a : Addr) (vs : List Value) (ns : List Int) (H : Hp) : Prop where
  tab : H PT = some (.tbl #[])
  all : ∀ b u, H b = some u → (b = PT ∧ u = .tbl #[]) ∨ (b = a ∧ u = .frz (lst0 vs) (.lst (ns.map V.int)) ∧ K.lookup a = none)
  scr : SqL K H a (ns.map V.int)
theorem start_of (KX : K.In s.heap) (ne : a ≠ PT) (ha : s.heap.get? a = some (lst0 vs)) (rv : Vals (ns.map V.int) vs) (lv : vs.length ≤ sizeLine) : ∃ H, Start K PT a vs ns H := by
  cases hk : K.lookup a with
  | some o =>
    obtain rfl : lst0 vs = o := Option.some.inj (ha.symm.trans (KX a o hk))
    refine ⟨upd (fun _ => none) PT (.tbl #[]), upd_same, fun b u e => .inl ?_, .inr ⟨_, vs.toArray, _, hk, rfl, rfl, rfl, by rw [List.size_toArray]; exact lv, by simpa using rv⟩⟩
    by_cases hb : b = PT
    · rw [hb, upd_same] at e
      exact ⟨hb, (Option.some.inj e).symm⟩
    · rw [upd_ne hb] at e
      cases e
  | none =>
    refine ⟨upd (upd (fun _ => none) PT (.tbl #[])) a (.frz (lst0 vs) (.lst (ns.map V.int))), by rw [upd_ne (Ne.symm ne), upd_same], fun b u e => ?_, .inl (.inr ⟨_, upd_same⟩)⟩
    by_cases hb : b = a
    · rw [hb, upd_same] at e
      exact .inr ⟨hb, (Option.some.inj e).symm, hk⟩
    · rw [upd_ne hb] at e
      by_cases hp : b = PT
      · rw [hp, upd_same] at e
        exact .inl ⟨hp, (Option.some.inj e).symm⟩
      · rw [upd_ne hp] at e
        cases e
theorem call_tab (KX : K.In s.heap) (gM : s.heap.Ns mainGlobals mg) (gB : s.heap.Ns builtinsNs mb) (bb : ∀ y : Str, y ≠ "__name__" → mb y = bootBuiltins y) (nl : s.heap.NoLimit) (g0 : s.gens = #[])
    (hT : s.heap.get? PT = some tab0) (kT : K.lookup PT = none) (hC : PySem.W.CodeHd s.heap c PT)
    (bm : ∃ (m : Addr) (o : Obj), mg "__builtins__" = some (.ref m) ∧ m ≠ builtinsNs ∧ s.heap.get? m = some o ∧ o.cls = .type "module" ∧ o.dict = some builtinsNs ∧ o.data = .plain)
    (ha : s.heap.get? a = some (lst0 vs)) (hi : IntsAre vs ns) (hl : ns.length ≤ sizeLine) (hr : Room k callerA)
    (F : ∀ base : Heap, K.In base → base.Ns mainGlobals mg → TabB base mg c PT → CalG P w K mg base k x sp) (hm : mg x = some (.ref f))
    (hs : ∀ H : Hp, H PT = some (.tbl #[]) → SqL K H a (ns.map V.int) → sp [.ref a] H (fun v _ => v = .bl true) fun _ _ _ => False) :
    codeAny (model P w) callerA (.call (.ref f) ⟨[.ref a], []⟩) (fun r s' => r = .ok (.ret (.bool true)) ∧ OldK s.heap s'.heap ∧ s'.os = s.os ∧ AllBare s'.gens) s := by
  have rv := vals_ints hi
  have lv : vs.length ≤ sizeLine := by rw [hi.length]; exact hl
  have ne : a ≠ PT := fun z => by
    rw [z, hT] at ha
    cases ha
  obtain ⟨H, st⟩ := start_of (PT := PT) KX ne ha rv lv
  have free : ∀ {b : Addr}, b ≠ PT → b ≠ a → H b = none := fun {b} n1 n2 => by
    cases q : H b with
    | none => rfl
    | some u => exact (st.all b u q).elim (fun z => (n1 z.1).elim) fun z => (n2 z.1).elim
  have ok : HOk P w H s.heap := fun b u q => by
    rcases st.all b u q with ⟨rfl, rfl⟩ | ⟨rfl, rfl, _⟩
    · exact hT
    · exact ⟨ha, by rw [List.length_map]; exact hl, vs, _, rv, ha⟩
  have off : ∀ {b : Addr} {o : Obj}, s.heap.get? b = some o → (∀ vs n, o.data ≠ .seq vs n) → o.data ≠ .fields #[] → H b = none := fun {b o} e n1 n2 => by
    refine free (fun z => n2 ?_) fun z => n1 vs.toArray 0 ?_
    · rw [z, hT] at e
      rw [← Option.some.inj e]
    · rw [z, ha] at e
      rw [← Option.some.inj e]
  have dic : ∀ {b : Addr} {m : Str → Option Value}, s.heap.Ns b m → (hidT s.heap H).Ns b m := fun {b m} ⟨o, es, ep, e, d, r⟩ =>
    ⟨o, es, ep, hidT_get e (off e (fun _ _ z => by rw [d] at z; cases z) fun z => by rw [d] at z; cases z), d, r⟩
  have kb : K.In (hidT s.heap H) := fun b o e => hidT_get (KX b o e) (by
    cases q : H b with
    | none => rfl
    | some u =>
      rcases st.all b u q with ⟨rfl, _⟩ | ⟨rfl, _, z⟩
      · rw [kT] at e
        cases e
      · rw [z] at e
        cases e)
  have md : L2.Mod K mg (hidT s.heap H) := ⟨kb, dic gM, ⟨mb, dic gB, bb⟩, nl.imp fun mc z => ⟨dic z.1, z.2⟩⟩
  have tb : TabB (hidT s.heap H) mg c PT := by
    obtain ⟨oc, us, fi, ti, fl, tg, inF, tx, tt, e1, e2, e3, e4, rest⟩ := hC
    obtain ⟨m, om, b1, b2, b3, b4, b5, b6⟩ := bm
    have nG : ∀ {b : Addr} {o : Obj}, s.heap.get? b = some o → (∀ es ep, o.data ≠ .dict es ep) → b ≠ mainGlobals := fun {b o} e n z => by
      obtain ⟨og, es, ep, q, d, _⟩ := gM
      rw [z, q] at e
      exact n es ep (by rw [← Option.some.inj e]; exact d)
    refine ⟨⟨oc, us, fi, ti, fl, tg, inF, tx, tt, hidT_get e1 (off e1 (fun _ _ z => by rw [e3] at z; cases z) fun z => ?_), e2, e3, e4, rest⟩, ⟨m, om, b1, b2, nG b3 (fun _ _ z => by rw [b6] at z; cases z), fun z => ?_, hidT_get b3 (off b3 (fun _ _ z => by rw [b6] at z; cases z) fun z => by rw [b6] at z; cases z), b4, b5, b6⟩, ?_⟩
    · rw [e3] at z
      cases z
      simp at e4
    · rw [z, hT] at b3
      cases b3
      cases b6
    · exact fun z => nG hT (fun _ _ z => by cases z) z.symm
  have e0 : Env0 P w K mg (hidT s.heap H) callerA [] s H := ⟨rfl, md, fun b o e => of_hidT e, Nat.le_of_eq (hidT_size _ _), trivial, fun b z => (nomatch (show b ∈ ([] : List Addr) from z)), ok, .of_eq g0⟩
  obtain ⟨f', fd, ps, pr, hm', _, bd⟩ := (F _ kb (dic gM) tb).ex
  obtain rfl : f = f' := by
    rw [hm] at hm'
    cases hm'
    rfl
  have hsp := hs H st.tab st.scr
  refine codeAny_mono (pr.run callerA [] s H ⟨[.ref a], []⟩ [.ref a] [.ref a] _ _ hr rfl e0 (bd s [.ref a] KX (pr.len _ _ _ _ hsp)) (.cons rfl .nil) hsp) fun r s' h => ?_
  cases r with
  | error e =>
    obtain ⟨_, _, _, _, _, _, _, _, _, _, _, _, no⟩ := h
    exact no.elim
  | ok fl =>
    cases fl with
    | next => exact h.elim
    | brk => exact h.elim
    | cont => exact h.elim
    | ret u =>
      obtain ⟨v, H', os, bare, un, ok', rr, rfl⟩ := h
      obtain rfl : u = Value.bool true := rr
      obtain ⟨more, hm⟩ := un.tbls PT #[] st.tab
      have get : s'.heap.get? PT = some { cls := .none, data := .fields (#[] ++ more) } := ok' PT _ hm
      have stay : ∀ b o, b ≠ PT → s.heap.get? b = some o → s'.heap.get? b = some o := fun b o n e => by
        cases q : H b with
        | none => exact un.keep b o e q (fun z => nomatch (show b ∈ ([] : List Addr) from z)) fun z => nomatch (show b ∈ ([] : List Addr) from z)
        | some u =>
          rcases st.all b u q with ⟨z, _⟩ | ⟨rfl, rfl, _⟩
          · exact (n z).elim
          · obtain ⟨e2, _⟩ := ok' _ _ (un.frzs _ _ _ q)
            rw [← e, ha]
            exact e2
      refine ⟨rfl, { old := fun b o e => ?_, there := fun b o e => ?_ }, os, bare⟩
      · by_cases n : b = PT
        · subst n
          obtain rfl := Option.some.inj (hT.symm.trans e)
          exact .inr (.inl ⟨(hC.tab hT).isCodeTable, rfl, #[], more, rfl, get⟩)
        · exact .inl (stay b o n e)
      · by_cases n : b = PT
        · exact ⟨_, by rw [n]; exact get⟩
        · exact ⟨o, stay b o n e⟩
end
/-- the walk of the law's row -/
theorem walkG {l : PySem.W.OpenLaw} {n k : Nat} {q : Program} {loose : List Str} {XP : (Str → Option Value) → Heap → Prop} {YP : World → Heap → Prop} {d : DefRec} {x : Str} (hn : l.most = some n) (hn2 : n ≤ sizeLine) (hdf : d.params.defaults = []) (hr : Room k callerA)
    (F : ∀ (w : World) (mg : Str → Option Value) (f : Addr) (h : Heap), YP w h → h.Ns mainGlobals mg → mg d.name = some (.ref f) → ∃ (K : PySem.W.Frag) (c PT : Addr) (sp : Sp), mg x = some (.ref f) ∧ K.In h ∧ h.get? PT = some tab0 ∧ K.lookup PT = none ∧ PySem.W.CodeHd h c PT ∧
      (∀ (H : Hp) (a : Addr) (ns : List Int), ns.length ≤ n → H PT = some (.tbl #[]) → SqL K H a (ns.map V.int) → sp [.ref a] H (fun v _ => v = .bl true) fun _ _ _ => False) ∧
      ∀ base : Heap, K.In base → base.Ns mainGlobals mg → TabB base mg c PT → CalG l.prog w K mg base k x sp) : PySem.W.WalkO q loose XP YP l.row.toRowW d [] (fun f vs => PySem.call f vs) := by
  refine Att.attach_callB hn hdf fun w s₀ s₁ mg mb fa o pm cd doc a vs ns G Y _ _ _ hmg hobj hints hlen _ hg => ?_
  obtain ⟨K, c, PT, sp, hm, KX, hT, kT, hC, hs, hF⟩ := F w mg fa _ Y G.T.g hmg
  exact call_tab KX G.T.g G.T.b G.T.builtins G.T.nolimit hg hT kT hC G.T.bmain hobj hints (Nat.le_trans hlen hn2) hr hF hm fun H hH hS => hs H a ns hlen hH hS
end MG
/-! text Head0 -/
set_option Elab.async false
set_option linter.all false
set_option maxRecDepth 100000
set_option maxHeartbeats 0
/-! the head: what the top leaves -/
namespace MGH
open PySem PySem.Spec PyProof.Rows L2 MG
def d0 : He.DefD := ⟨("is_name", none), "is_name", "is_name", defArgs s_is_name, defBody s_is_name, defScope s_is_name, [], []⟩
def d1 : He.DefD := ⟨("is_node", none), "is_node", "is_node", defArgs s_is_node, defBody s_is_node, defScope s_is_node, [], []⟩
def d2 : He.DefD := ⟨("is_place", none), "is_place", "is_place", defArgs s_is_place, defBody s_is_place, defScope s_is_place, [], []⟩
def d3 : He.DefD := ⟨("is_known", none), "is_known", "is_known", defArgs s_is_known, defBody s_is_known, defScope s_is_known, [], []⟩
def d4 : He.DefD := ⟨("way_within", none), "way_within", "way_within", defArgs s_way_within, defBody s_way_within, defScope s_way_within, [], []⟩
def d5 : He.DefD := ⟨("first_cyclic", none), "first_cyclic", "first_cyclic", defArgs s_first_cyclic, defBody s_first_cyclic, defScope s_first_cyclic, [], []⟩
def d6 : He.DefD := ⟨("require_places", none), "require_places", "require_places", defArgs s_require_places, defBody s_require_places, defScope s_require_places, [], []⟩
def d7 : He.DefD := ⟨("children_within", none), "children_within", "children_within", defArgs s_children_within, defBody s_children_within, defScope s_children_within, [], []⟩
def d8 : He.DefD := ⟨("UnknownNode", some "__init__"), "__init__", "UnknownNode.__init__", defArgs s_UN, defBody s_UN, defScope s_UN, [], []⟩
def d9 : He.DefD := ⟨("Tree", some "__init__"), "__init__", "Tree.__init__", defArgs s_init, defBody s_init, defScope s_init, [], []⟩
def d10 : He.DefD := ⟨("Tree", some "line_of"), "line_of", "Tree.line_of", defArgs s_line_of, defBody s_line_of, defScope s_line_of, [], []⟩
def d11 : He.DefD := ⟨("Tree", some "require_node"), "require_node", "Tree.require_node", defArgs s_require_node, defBody s_require_node, defScope s_require_node, [], []⟩
def d12 : He.DefD := ⟨("Tree", some "nodes"), "nodes", "Tree.nodes", defArgs s_nodes, defBody s_nodes, defScope s_nodes, [], []⟩
def d13 : He.DefD := ⟨("Tree", some "way_up"), "way_up", "Tree.way_up", defArgs s_way_up, defBody s_way_up, defScope s_way_up, [], []⟩
def d14 : He.DefD := ⟨("Tree", some "depth_of"), "depth_of", "Tree.depth_of", defArgs s_depth_of, defBody s_depth_of, defScope s_depth_of, [], []⟩
def d15 : He.DefD := ⟨("Tree", some "path_of"), "path_of", "Tree.path_of", defArgs s_path_of, defBody s_path_of, defScope s_path_of, [], []⟩
def d16 : He.DefD := ⟨("Tree", some "nodes_under"), "nodes_under", "Tree.nodes_under", defArgs s_nodes_under, defBody s_nodes_under, defScope s_nodes_under, [], []⟩
def d17 : He.DefD := ⟨("Tree", some "is_under"), "is_under", "Tree.is_under", defArgs s_is_under, defBody s_is_under, defScope s_is_under, [], []⟩
def d18 : He.DefD := ⟨("Tree", some "node_at"), "node_at", "Tree.node_at", defArgs s_node_at, defBody s_node_at, defScope s_node_at, [], []⟩
def d19 : He.DefD := ⟨("Tree", some "walk"), "walk", "Tree.walk", defArgs s_walk, defBody s_walk, defScope s_walk, [], []⟩
def d20 : He.DefD := ⟨("_law_rng", none), "_law_rng", "_law_rng", defArgs s_rng, defBody s_rng, defScope s_rng, [], []⟩
def d21 : He.DefD := ⟨("_law_draw", none), "_law_draw", "_law_draw", defArgs s_draw, defBody s_draw, defScope s_draw, [], []⟩
def d22 : He.DefD := ⟨("_law_choice", none), "_law_choice", "_law_choice", defArgs s_choice, defBody s_choice, defScope s_choice, [], []⟩
def d23 : He.DefD := ⟨("_law_shuffled", none), "_law_shuffled", "_law_shuffled", defArgs s_shuffled, defBody s_shuffled, defScope s_shuffled, [], []⟩
def d24 : He.DefD := ⟨("_law_name", none), "_law_name", "_law_name", defArgs s_name, defBody s_name, defScope s_name, [], []⟩
def d25 : He.DefD := ⟨("_law_names", none), "_law_names", "_law_names", defArgs s_names, defBody s_names, defScope s_names, [], []⟩
def d26 : He.DefD := ⟨("_law_places", none), "_law_places", "_law_places", defArgs s_places, defBody s_places, defScope s_places, [], []⟩
def d27 : He.DefD := ⟨("_law_way_up", none), "_law_way_up", "_law_way_up", defArgs s_law_way_up, defBody s_law_way_up, defScope s_law_way_up, [], []⟩
def d28 : He.DefD := ⟨("_law_path", none), "_law_path", "_law_path", defArgs s_law_path, defBody s_law_path, defScope s_law_path, [], []⟩
def d29 : He.DefD := ⟨("_law_walked", none), "_law_walked", "_law_walked", defArgs s_walked, defBody s_walked, defScope s_walked, [], []⟩
def d30 : He.DefD := ⟨("_law_told", none), "_law_told", "_law_told", defArgs s_told, defBody s_told, defScope s_told, [], []⟩
def d31 : He.DefD := ⟨("_law_due", none), "_law_due", "_law_due", defArgs s_due, defBody s_due, defScope s_due, [], []⟩
def d32 : He.DefD := ⟨("_law_at", none), "_law_at", "_law_at", defArgs s_at, defBody s_at, defScope s_at, [], []⟩
def d33 : He.DefD := ⟨("_law_paths_right", none), "_law_paths_right", "_law_paths_right", defArgs s_paths_right, defBody s_paths_right, defScope s_paths_right, [], []⟩
def d34 : He.DefD := ⟨("_law_deep_right", none), "_law_deep_right", "_law_deep_right", defArgs s_deep_right, defBody s_deep_right, defScope s_deep_right, [], []⟩
def d35 : He.DefD := ⟨("_law_walks_right", none), "_law_walks_right", "_law_walks_right", defArgs s_walks_right, defBody s_walks_right, defScope s_walks_right, [], []⟩
def d36 : He.DefD := ⟨("_law_unknown", none), "_law_unknown", "_law_unknown", defArgs s_unknown, defBody s_unknown, defScope s_unknown, [], []⟩
def d37 : He.DefD := ⟨("_law_strangers_right", none), "_law_strangers_right", "_law_strangers_right", defArgs s_strangers, defBody s_strangers, defScope s_strangers, [], []⟩
def d38 : He.DefD := ⟨("_law_right", none), "_law_right", "_law_right", defArgs s_right, defBody s_right, defScope s_right, [], []⟩
def d39 : He.DefD := ⟨("law", none), "law", "law", defArgs s_law, defBody s_law, defScope s_law, [], []⟩
def fn : List He.DefD := [d0, d1, d2, d3, d4, d5, d6, d7, d8, d9, d10, d11, d12, d13, d14, d15, d16, d17, d18, d19, d20, d21, d22, d23, d24, d25, d26, d27, d28, d29, d30, d31, d32, d33, d34, d35, d36, d37, d38, d39]
def fa : List He.Fa := [.glo "is_name", .glo "is_node", .glo "is_place", .glo "is_known", .glo "way_within", .glo "first_cyclic", .glo "require_places", .glo "children_within", .glo "_law_rng", .glo "_law_draw", .glo "_law_choice", .glo "_law_shuffled", .glo "_law_name", .glo "_law_names", .glo "_law_places", .glo "_law_way_up", .glo "_law_path", .glo "_law_walked", .glo "_law_told", .glo "_law_due", .glo "_law_at", .glo "_law_paths_right", .glo "_law_deep_right", .glo "_law_walks_right", .glo "_law_unknown", .glo "_law_strangers_right", .glo "_law_right", .glo "law", .glo "Tree", .glo "UnknownNode", .free "isinstance", .free "str", .free "len", .free "all", .free "tuple", .free "dict", .free "sorted", .free "max", .free "min", .free "abs", .free "divmod", .free "list", .free "range", .free "enumerate", .free "repr", .free "int", .free "LookupError", .str "LETTERS" "abcdefghijklmnopqrstuvwxyz", .int "MOST_LETTERS" 8, .int "PLACE_SIZE" 2, .str "ROOT" "root", .int "MOST_NODES" 40, .cls "Tree", .mkr "Tree", .noat "Tree" "own_places", .noat "Tree" "own_children", .noat "Tree" "own_nodes", .noat "Tree" "own_height", .noat "Tree" "own_text", .meth "Tree" "__init__", .meth "Tree" "line_of", .meth "Tree" "require_node", .meth "Tree" "nodes", .meth "Tree" "way_up", .meth "Tree" "depth_of", .meth "Tree" "path_of", .meth "Tree" "nodes_under", .meth "Tree" "is_under", .meth "Tree" "node_at", .meth "Tree" "walk", .exm "UnknownNode" "UnknownNode" true]
/-! ### a property's getter -/
def htP (K : PySem.W.Frag) : Addr := He.ma K (He.ga K "Tree") "height"
def htG (K : PySem.W.Frag) : Addr := match PySem.W.recIn K (htP K) "property" with
  | some (.ref g :: _) => g
  | _ => 0
def htW (K : PySem.W.Frag) : He.FnW := match K.lookup (htG K) with
  | some ⟨_, _, .func d, _⟩ => some (d.name, d.qualname, d.params, d.body, d.scope, d.globals, d.closure, d.builtins)
  | _ => none
def htV : He.FnW := some ("height", "Tree.height", defArgs s_height, .stmts (defBody s_height), defScope s_height, mainGlobals, [], builtinsNs)
def htB (K : PySem.W.Frag) : Bool := match K.lookup (htG K) with
  | some ⟨_, _, .func d, _⟩ => PySem.W.codeIn K d.code "Tree.height" && (match d.defaults with
    | .none => true
    | _ => false)
  | _ => false
def recB (K : PySem.W.Frag) : Bool := match PySem.W.recIn K (htP K) "property" with
  | some (.ref _ :: _) => true
  | _ => false
theorem rec_ok {K : PySem.W.Frag} (h : recB K = true) : ∃ rest, PySem.W.recIn K (htP K) "property" = some (.ref (htG K) :: rest) := by
  unfold htG
  unfold recB at h
  cases e : PySem.W.recIn K (htP K) "property" with
  | none => rw [e] at h; cases h
  | some l =>
    rw [e] at h
    cases l with
    | nil => cases h
    | cons v r =>
      cases v with
      | ref g => exact ⟨r, rfl⟩
      | _ => cases h
theorem ht_fun {K : PySem.W.Frag} (e : htW K = htV) (b : htB K = true) (kp : PySem.W.keepIn K (.ref (htG K)) = true) : ∃ fd, Fun K "height" "Tree.height" s_height (htG K) fd := by
  unfold htW at e
  unfold htB at b
  cases q : K.lookup (htG K) with
  | none =>
    rw [q] at b
    cases b
  | some o =>
    obtain ⟨oc, od, dt, osl⟩ := o
    rw [q] at e b
    cases dt with
    | func d =>
      obtain ⟨n1, n2, n3, n4, n5, n6, n7, n8, n9, n10, n11, n12, n13, n14, n15⟩ := d
      have e2 : (some (n1, n2, n3, n4, n5, n6, n7, n15) : He.FnW) = htV := e
      simp only [htV, Option.some.injEq, Prod.mk.injEq] at e2
      obtain ⟨rfl, rfl, rfl, rfl, rfl, rfl, rfl, rfl⟩ := e2
      obtain ⟨b1, b2⟩ := He.ba b
      cases n8 with
      | none => exact ⟨_, ⟨oc, od, n9, n10, n11, n12, n13, n14, osl, rfl, q, b1⟩, kp⟩
      | _ => cases b2
    | _ => cases b
/-! ### the class of the exception -/
def unB (K : PySem.W.Frag) (C : Addr) : Bool := match K.lookup C with
  | some ⟨.type t, _, .cls d, sl⟩ => decide (t = "type") && (decide (d.mro = .ref C :: leTail) && (d.hasDict && (!d.hasDel && (match sl.toList with
    | [_, _, _, _, some (.builtin n), _] => decide (n = "LookupError.__new__")
    | _ => false))))
  | _ => false
theorem six {α : Type} {sl : Array α} {l : List α} (h : sl.toList = l) : sl = l.toArray := by
  rw [← h]
theorem unB_ok {K : PySem.W.Frag} {C : Addr} (h : unB K C = true) : ∃ nm q N bs sn sub ab col dd k0 k1 k2 k3 k5, K.lookup C = some (excClassObj nm q C N bs leTail true sn sub ab col dd k0 k1 k2 k3 k5 "LookupError.__new__") := by
  unfold unB at h
  cases e : K.lookup C with
  | none => rw [e] at h; cases h
  | some o =>
    obtain ⟨oc, dd, dt, sl⟩ := o
    rw [e] at h
    cases oc with
    | type t =>
      cases dt with
      | cls d =>
        obtain ⟨nm, bs, mro, N, q, hd, sn, sub, ab, col, del⟩ := d
        have h' : (decide (t = "type") && (decide (mro = .ref C :: leTail) && (hd && (!del && (match sl.toList with
          | [_, _, _, _, some (.builtin n), _] => decide (n = "LookupError.__new__")
          | _ => false))))) = true := h
        simp only [Bool.and_eq_true, decide_eq_true_eq, Bool.not_eq_true'] at h'
        obtain ⟨rfl, rfl, rfl, rfl, h5⟩ := h'
        split at h5
        · rename_i k0 k1 k2 k3 n k5 es
          have en : n = "LookupError.__new__" := of_decide_eq_true h5
          have el := six es
          rw [el, en]
          exact ⟨nm, q, N, bs, sn, sub, ab, col, dd, k0, k1, k2, k3, k5, rfl⟩
        · cases h5
      | _ => cases h
    | _ => cases dt <;> cases h
def foundB (K : PySem.W.Frag) : Bool := match PySem.W.findCls K (.type "LookupError") (.type "type") "__init__" with
  | some (.val (.builtin n)) => decide (n = "LookupError.__init__")
  | _ => false
theorem found_ok {K : PySem.W.Frag} (h : foundB K = true) : PySem.W.findCls K (.type "LookupError") (.type "type") "__init__" = some (.val (.builtin "LookupError.__init__")) := by
  unfold foundB at h
  split at h
  · rename_i n e
    rw [e, of_decide_eq_true h]
  · cases h
def unA (K : PySem.W.Frag) : Addr := He.ga K "UnknownNode"
def unI (K : PySem.W.Frag) : Addr := He.ma K (unA K) "__init__"
/-- what else is asked of what is written -/
def asks (K : PySem.W.Frag) : List Bool := [unB K (unA K), He.eqO (PySem.W.findIn K (.ref (unA K)) "__setattr__") (some (some (.builtin "object.__setattr__"))), decide (PySem.W.subIn K (.ref (unA K)) (.type "BaseException") = some true), decide (PySem.W.typeIn K (.ref (unA K)) = some (.type "type")),
  PySem.W.keepIn K (.ref (unA K)), He.eqO (PySem.W.takerIn K (unA K) "value") (some none), He.eqO (PySem.W.findIn K (.ref (unA K)) "__init__") (some (some (.ref (unI K)))), decide (PySem.W.typeIn K (.ref (unI K)) = some (.type "function")), foundB K, xfB K (unA K), He.eqO (PySem.W.findIn K (.ref (unA K)) "value") (some none),
  He.eqO (PySem.W.findIn K (.ref (He.ga K "Tree")) "height") (some (some (.ref (htP K)))), He.eqO (PySem.W.specialIn K (.ref (htP K)) "__get__") (some (some (.builtin "property.__get__"))), decide (PySem.W.takesIn K (.ref (htP K)) = some true), recB K, htB K, PySem.W.keepIn K (.ref (htG K))]
def ex (K : PySem.W.Frag) : Bool := (asks K).all id
theorem ex_at {K : PySem.W.Frag} (h : ex K = true) (i : Nat) {b : Bool} (e : (asks K)[i]? = some b) : b = true := List.all_eq_true.mp h b (List.mem_of_getElem? e)
/-! ### the run of the top -/
def tf : List He.Defn := [("_law_strangers_right", none)]
abbrev R : PySem.W.OpenRow := PySem.W.OpenLaw.row PySem.Challenge.rw_movegrants_k14_whole_walks_and_ways_up
theorem hk_of (w : World) (s : Shared) (e : ((He.obsX 6 fa fn [] tf ex s.heap.get?, htW (He.frT s.heap.get? (He.asD s.heap.get? 6))) : He.AlX × He.FnW) = (He.valX fn [] w, htV)) : ∃ K : PySem.W.Frag, K.In s.heap ∧ He.SaysX fa fn [] tf ex w s.heap K ∧ htW K = htV := by
  obtain ⟨e1, e2⟩ := Prod.mk.inj e
  exact ⟨He.frT s.heap.get? (He.asD s.heap.get? 6), He.frT_in, He.saysX_of e1, e2⟩
theorem hk_keeps (w : World) (h h' : Heap) (z : ∃ K : PySem.W.Frag, K.In h ∧ He.SaysX fa fn [] tf ex w h K ∧ htW K = htV) (k : ∀ b o, h.get? b = some o → h'.get? b = some o) : ∃ K : PySem.W.Frag, K.In h' ∧ He.SaysX fa fn [] tf ex w h' K ∧ htW K = htV := by
  obtain ⟨K, X, c, e⟩ := z
  exact ⟨K, X.keeps k, ⟨c.t, c.more, c.hd, c.out, fun p hp => k _ _ (c.empty p hp)⟩, e⟩
/-- the hook of the facts, and the getter -/
def hk : PySem.W.Hook where
  α := He.AlX × He.FnW
  obs := fun s => (He.obsX 6 fa fn [] tf ex s.heap.get?, htW (He.frT s.heap.get? (He.asD s.heap.get? 6)))
  val := fun w => (He.valX fn [] w, htV)
  says := fun w h => ∃ K : PySem.W.Frag, K.In h ∧ He.SaysX fa fn [] tf ex w h K ∧ htW K = htV
  of := hk_of
  keeps := hk_keeps
def ob (s : PySem.W.SharedT) : He.AlX × He.FnW := (He.obsX 6 fa fn [] tf ex (HandSHeadRun.getT s), htW (He.frT (HandSHeadRun.getT s) (He.asD (HandSHeadRun.getT s) 6)))
theorem ob_eq (s : PySem.W.SharedT) : ob s = hk.obs s.abs := by
  have e : HandSHeadRun.getT s = s.abs.heap.get? := funext (HandSHeadRun.getT_eq s)
  unfold ob
  rw [e]
  rfl
def looseA : List Str := ["_wall", "MoveError", "InvalidTree", "InvalidText", "UnknownNode", "LETTERS", "MOST_LETTERS", "PLACE_SIZE", "ROOT", "is_name", "is_node", "is_place", "MOST_NODES", "WORDS_OF_LINE", "is_known", "way_within", "first_cyclic", "require_places", "children_within", "read_line", "places_of_lines", "Tree"]
def looseB : List Str := ["_law_rng", "_law_draw", "_law_choice", "_law_shuffled", "_law_name", "_law_names", "_law_places", "_law_way_up", "_law_path", "_law_walked", "_law_told", "_law_due", "_law_at", "_law_paths_right", "_law_deep_right", "_law_walks_right", "_law_unknown", "_law_strangers_right", "_law_right"]
def looseN : List Str := looseA ++ looseB
end MGH
/-! text Head1 -/
set_option Elab.async false
set_option linter.all false
set_option maxRecDepth 100000
set_option maxHeartbeats 0
/-! the run of the top -/
namespace MGH
open PySem PySem.Spec PyProof.Rows L2 MG
theorem run (w : World) : HandSHeadRun.RunEq R (PySem.W.view R.prog [45]) hk ob 6000 looseN w := by
  intro os
  kernel_rfl
end MGH
/-! text Join -/
set_option Elab.async false
set_option linter.all false
set_option maxRecDepth 100000
set_option maxHeartbeats 4200000
/-! the join -/
namespace MGH
open PySem PySem.Spec PyProof.Rows L2 MG
section
variable {P : Program} {w : World} {K : PySem.W.Frag} {h base : Heap} {mg : Str → Option Value} {f : Addr}
theorem gl (X : K.In h) (G : h.Ns mainGlobals mg) (c : He.SaysD fa fn K) (i : Nat) {x : Str} (e : fa[i]? = some (.glo x) := by rfl) : mg x = some (.ref (He.ga K x)) := He.glo_ok X G (c.fact i e)
theorem fr (X : K.In h) (G : h.Ns mainGlobals mg) (c : He.SaysD fa fn K) (i : Nat) {x : Str} (e : fa[i]? = some (.free x) := by rfl) : mg x = none := He.free_ok X G (c.fact i e)
theorem me (c : He.SaysD fa fn K) (i : Nat) {x m : Str} (e : fa[i]? = some (.meth x m) := by rfl) : Meth K (He.ga K x) m (He.ma K (He.ga K x) m) := He.meth_ok (c.fact i e)
theorem na (c : He.SaysD fa fn K) (i : Nat) {x m : Str} (e : fa[i]? = some (.noat x m) := by rfl) : NoAttr K (He.ga K x) m := He.noat_ok (c.fact i e)
theorem st (X : K.In h) (G : h.Ns mainGlobals mg) (c : He.SaysD fa fn K) (i : Nat) {x z : Str} (e : fa[i]? = some (.str x z) := by rfl) : ∃ u, mg x = some u ∧ RelV (.str z) u := (He.str_ok X G (c.fact i e)).elim fun t q => ⟨_, q, t, rfl⟩
theorem nt (X : K.In h) (G : h.Ns mainGlobals mg) (c : He.SaysD fa fn K) (i : Nat) {x : Str} {z : Int} (e : fa[i]? = some (.int x z) := by rfl) : ∃ u, mg x = some u ∧ RelV (.int z) u := (He.int_ok X G (c.fact i e)).elim fun t q => ⟨_, q, t, rfl⟩

theorem ht_ok {C p g : Addr} {fd : FuncData} (T : Txt K mg C) (F : Fun K "height" "Tree.height" s_height g fd) (hp : PropOf K C "height" p g) : HtT P w K mg base C 1 := by
  have hb := F.binds (ps := ["self"]) fun _ _ _ _ _ _ us hl => match us, hl with | [_], _ => rfl
  obtain ⟨oc, od, kV, doc, pm, an, cdv, ct, slots, rfl, lk, hcd⟩ := F.ex
  exact ⟨_, _, _, _, fn_getter (k := 0) (N := ["self"]) lk hcd ⟨rfl, rfl, rfl, by decide +kernel, rfl, by decide +kernel, by decide +kernel⟩ rfl rfl T.cl T.n_height, T.cl, hp, hb⟩
theorem code_of {x q : Str} {ar : Arguments} {bo : List Stmt} {sc : Scope} {p : Str × Option Str} {fd : FuncData} {cd : Addr} (F : FunD K x q ar bo sc [] [] (He.fAd K p) fd) (h : He.codeOf K p = cd) : fd.code = .ref cd := by
  obtain ⟨oc, od, dV, kV, doc, pm, an, cdv, ct, osl, rfl, lk, hcd, _⟩ := F.ex
  obtain ⟨c', rfl⟩ := He.codeIn_ref hcd
  rw [← h, He.codeOf_eq lk rfl]
abbrev CT (K : PySem.W.Frag) : Addr := He.ga K "Tree"
theorem txt (X : K.In h) (G : h.Ns mainGlobals mg) (c : He.SaysD fa fn K) : Txt K mg (CT K) where
  g_isinstance := fr X G c 30
  g_str := fr X G c 31
  g_len := fr X G c 32
  g_all := fr X G c 33
  g_tuple := fr X G c 34
  g_dict := fr X G c 35
  g_sorted := fr X G c 36
  g_max := fr X G c 37
  g_min := fr X G c 38
  g_abs := fr X G c 39
  g_divmod := fr X G c 40
  g_list := fr X G c 41
  g_range := fr X G c 42
  g_enumerate := fr X G c 43
  g_repr := fr X G c 44
  g_int := fr X G c 45
  g_LookupError := fr X G c 46
  c_LETTERS := st X G c 47
  c_MOST_LETTERS := nt X G c 48
  c_PLACE_SIZE := nt X G c 49
  c_ROOT := st X G c 50
  c_MOST_NODES := nt X G c 51
  cl := He.cls_ok (c.fact 52 (f := .cls "Tree") rfl)
  n_places := na c 54
  n_children := na c 55
  n_nodes := na c 56
  n_height := na c 57
  n_text := na c 58
  mgC := gl X G c 28
theorem law_ok (X : K.In h) (G : h.Ns mainGlobals mg) (c : He.SaysD fa fn K) (mo : ex K = true) (hw : htW K = htV) {cd PT : Addr} {TB : List (Addr × Str)} (hcd : He.codeOf K ("_law_strangers_right", none) = cd) (hTBb : LamX.TabB base mg cd PT) (hmT : (PT, lamQ) ∈ TB) (huT : ∀ p ∈ TB, p.1 = PT → p.2 = lamQ) : CalG P w K mg base 13 "law" (spLaw TB K) := by
  have T := txt X G c
  obtain ⟨_, F0⟩ := c.def_ 0 (d := d0) rfl
  have f0 : Fun K "is_name" "is_name" s_is_name _ _ := fun_of F0
  obtain ⟨_, F1⟩ := c.def_ 1 (d := d1) rfl
  have f1 : Fun K "is_node" "is_node" s_is_node _ _ := fun_of F1
  obtain ⟨_, F2⟩ := c.def_ 2 (d := d2) rfl
  have f2 : Fun K "is_place" "is_place" s_is_place _ _ := fun_of F2
  obtain ⟨_, F3⟩ := c.def_ 3 (d := d3) rfl
  have f3 : Fun K "is_known" "is_known" s_is_known _ _ := fun_of F3
  obtain ⟨_, F4⟩ := c.def_ 4 (d := d4) rfl
  have f4 : Fun K "way_within" "way_within" s_way_within _ _ := fun_of F4
  obtain ⟨_, F5⟩ := c.def_ 5 (d := d5) rfl
  have f5 : Fun K "first_cyclic" "first_cyclic" s_first_cyclic _ _ := fun_of F5
  obtain ⟨_, F6⟩ := c.def_ 6 (d := d6) rfl
  have f6 : Fun K "require_places" "require_places" s_require_places _ _ := fun_of F6
  obtain ⟨_, F7⟩ := c.def_ 7 (d := d7) rfl
  have f7 : Fun K "children_within" "children_within" s_children_within _ _ := fun_of F7
  obtain ⟨_, F8⟩ := c.def_ 8 (d := d8) rfl
  have f8 : Fun K "__init__" "UnknownNode.__init__" s_UN _ _ := fun_of F8
  obtain ⟨_, F9⟩ := c.def_ 9 (d := d9) rfl
  have f9 : Fun K "__init__" "Tree.__init__" s_init _ _ := fun_of F9
  obtain ⟨_, F10⟩ := c.def_ 10 (d := d10) rfl
  have f10 : Fun K "line_of" "Tree.line_of" s_line_of _ _ := fun_of F10
  obtain ⟨_, F11⟩ := c.def_ 11 (d := d11) rfl
  have f11 : Fun K "require_node" "Tree.require_node" s_require_node _ _ := fun_of F11
  obtain ⟨_, F12⟩ := c.def_ 12 (d := d12) rfl
  have f12 : Fun K "nodes" "Tree.nodes" s_nodes _ _ := fun_of F12
  obtain ⟨_, F13⟩ := c.def_ 13 (d := d13) rfl
  have f13 : Fun K "way_up" "Tree.way_up" s_way_up _ _ := fun_of F13
  obtain ⟨_, F14⟩ := c.def_ 14 (d := d14) rfl
  have f14 : Fun K "depth_of" "Tree.depth_of" s_depth_of _ _ := fun_of F14
  obtain ⟨_, F15⟩ := c.def_ 15 (d := d15) rfl
  have f15 : Fun K "path_of" "Tree.path_of" s_path_of _ _ := fun_of F15
  obtain ⟨_, F16⟩ := c.def_ 16 (d := d16) rfl
  have f16 : Fun K "nodes_under" "Tree.nodes_under" s_nodes_under _ _ := fun_of F16
  obtain ⟨_, F17⟩ := c.def_ 17 (d := d17) rfl
  have f17 : Fun K "is_under" "Tree.is_under" s_is_under _ _ := fun_of F17
  obtain ⟨_, F18⟩ := c.def_ 18 (d := d18) rfl
  have f18 : Fun K "node_at" "Tree.node_at" s_node_at _ _ := fun_of F18
  obtain ⟨_, F19⟩ := c.def_ 19 (d := d19) rfl
  have f19 : Fun K "walk" "Tree.walk" s_walk _ _ := fun_of F19
  obtain ⟨_, F20⟩ := c.def_ 20 (d := d20) rfl
  have f20 : Fun K "_law_rng" "_law_rng" s_rng _ _ := fun_of F20
  obtain ⟨_, F21⟩ := c.def_ 21 (d := d21) rfl
  have f21 : Fun K "_law_draw" "_law_draw" s_draw _ _ := fun_of F21
  obtain ⟨_, F22⟩ := c.def_ 22 (d := d22) rfl
  have f22 : Fun K "_law_choice" "_law_choice" s_choice _ _ := fun_of F22
  obtain ⟨_, F23⟩ := c.def_ 23 (d := d23) rfl
  have f23 : Fun K "_law_shuffled" "_law_shuffled" s_shuffled _ _ := fun_of F23
  obtain ⟨_, F24⟩ := c.def_ 24 (d := d24) rfl
  have f24 : Fun K "_law_name" "_law_name" s_name _ _ := fun_of F24
  obtain ⟨_, F25⟩ := c.def_ 25 (d := d25) rfl
  have f25 : Fun K "_law_names" "_law_names" s_names _ _ := fun_of F25
  obtain ⟨_, F26⟩ := c.def_ 26 (d := d26) rfl
  have f26 : Fun K "_law_places" "_law_places" s_places _ _ := fun_of F26
  obtain ⟨_, F27⟩ := c.def_ 27 (d := d27) rfl
  have f27 : Fun K "_law_way_up" "_law_way_up" s_law_way_up _ _ := fun_of F27
  obtain ⟨_, F28⟩ := c.def_ 28 (d := d28) rfl
  have f28 : Fun K "_law_path" "_law_path" s_law_path _ _ := fun_of F28
  obtain ⟨_, F29⟩ := c.def_ 29 (d := d29) rfl
  have f29 : Fun K "_law_walked" "_law_walked" s_walked _ _ := fun_of F29
  obtain ⟨_, F30⟩ := c.def_ 30 (d := d30) rfl
  have f30 : Fun K "_law_told" "_law_told" s_told _ _ := fun_of F30
  obtain ⟨_, F31⟩ := c.def_ 31 (d := d31) rfl
  have f31 : Fun K "_law_due" "_law_due" s_due _ _ := fun_of F31
  obtain ⟨_, F32⟩ := c.def_ 32 (d := d32) rfl
  have f32 : Fun K "_law_at" "_law_at" s_at _ _ := fun_of F32
  obtain ⟨_, F33⟩ := c.def_ 33 (d := d33) rfl
  have f33 : Fun K "_law_paths_right" "_law_paths_right" s_paths_right _ _ := fun_of F33
  obtain ⟨_, F34⟩ := c.def_ 34 (d := d34) rfl
  have f34 : Fun K "_law_deep_right" "_law_deep_right" s_deep_right _ _ := fun_of F34
  obtain ⟨_, F35⟩ := c.def_ 35 (d := d35) rfl
  have f35 : Fun K "_law_walks_right" "_law_walks_right" s_walks_right _ _ := fun_of F35
  obtain ⟨_, F36⟩ := c.def_ 36 (d := d36) rfl
  have f36 : Fun K "_law_unknown" "_law_unknown" s_unknown _ _ := fun_of F36
  obtain ⟨_, F37⟩ := c.def_ 37 (d := d37) rfl
  have f37 : Fun K "_law_strangers_right" "_law_strangers_right" s_strangers _ _ := fun_of F37
  obtain ⟨_, F38⟩ := c.def_ 38 (d := d38) rfl
  have f38 : Fun K "_law_right" "_law_right" s_right _ _ := fun_of F38
  obtain ⟨_, F39⟩ := c.def_ 39 (d := d39) rfl
  have f39 : Fun K "law" "law" s_law _ _ := fun_of F39
  have A : ∀ i b, (asks K)[i]? = some b → b = true := fun i b e => ex_at mo i e
  have c_is_name := ok_is_name (P := P) (w := w) (base := base) T f0 (gl X G c 0) 
  have c_is_node := ok_is_node (P := P) (w := w) (base := base) T f1 (gl X G c 1) c_is_name
  have c_is_place := ok_is_place (P := P) (w := w) (base := base) T f2 (gl X G c 2) c_is_name
  have c_is_known := ok_is_known (P := P) (w := w) (base := base) T f3 (gl X G c 3) 
  have c_way_within := ok_way_within (P := P) (w := w) (base := base) T f4 (gl X G c 4) 
  have c_first_cyclic := ok_first_cyclic (P := P) (w := w) (base := base) T f5 (gl X G c 5) c_way_within
  have hUC : UnC K (unA K) := ⟨unB_ok (A 0 _ rfl), He.eqO_ok (A 1 _ rfl), of_decide_eq_true (A 2 _ rfl), of_decide_eq_true (A 3 _ rfl), A 4 _ rfl⟩
  have c_UN := ok_UN (P := P) (w := w) (base := base) T f8 hUC (He.eqO_ok (A 5 _ rfl)) (gl X G c 29) (He.eqO_ok (A 6 _ rfl)) (of_decide_eq_true (A 7 _ rfl)) (found_ok (A 8 _ rfl))
  have c_require_node := ok_require_node (P := P) (w := w) (base := base) T f11 (me c 61) c_is_known c_UN
  have c_nodes := ok_nodes (P := P) (w := w) (base := base) T f12 (me c 62) 
  have c_way_up := ok_way_up (P := P) (w := w) (base := base) T f13 (me c 63) c_way_within c_require_node
  have c_depth_of := ok_depth_of (P := P) (w := w) (base := base) T f14 (me c 64) c_way_up
  have c_path_of := ok_path_of (P := P) (w := w) (base := base) T f15 (me c 65) c_way_up
  have c_is_under := ok_is_under (P := P) (w := w) (base := base) T f17 (me c 67) c_way_up c_require_node
  have c_nodes_under := ok_nodes_under (P := P) (w := w) (base := base) T f16 (me c 66) c_require_node
  have c_children_within := ok_children_within (P := P) (w := w) (base := base) T f7 (gl X G c 7) 
  have c_require_places := ok_require_places (P := P) (w := w) (base := base) T f6 (gl X G c 6) c_is_node c_is_place c_is_known c_first_cyclic
  have c_line_of := ok_line_of (P := P) (w := w) (base := base) T f10 (me c 60) c_path_of
  have i_Tree := ok_init (P := P) (w := w) (base := base) T f9 c_require_places c_children_within c_way_within c_nodes_under c_line_of
  have b_Tree := f9.binds (ps := ["self", "places"]) fun _ _ _ _ _ _ us hl => match us, hl with | [_, _], _ => rfl
  have c_Tree : MkT P w K mg base (CT K) 7 := ⟨_, _, _, i_Tree, He.mkr_ok (c.fact 53 (f := .mkr "Tree") rfl), T.mgC, b_Tree⟩
  have c_at : AtT P w K mg base (CT K) 1 := ⟨_, ok_node_at T f18, T.cl, (me c 68)⟩
  obtain ⟨fdh, Fh⟩ := ht_fun hw (A 15 _ rfl) (A 16 _ rfl)
  have c_ht : HtT P w K mg base (CT K) 1 := ht_ok T Fh ⟨He.eqO_ok (A 11 _ rfl), He.eqO_ok (A 12 _ rfl), of_decide_eq_true (A 13 _ rfl), rec_ok (A 14 _ rfl)⟩
  obtain ⟨cdw, Wk⟩ := wk_of f19 T.cl (me c 69)
  have c__law_rng := ok_rngK (P := P) (w := w) (base := base) T f20 (gl X G c 8) 
  have c__law_draw := ok_draw (P := P) (w := w) (base := base) T f21 (gl X G c 9) 
  have c__law_choice := ok_choice (P := P) (w := w) (base := base) T f22 (gl X G c 10) c__law_draw
  have c__law_shuffled := ok_shuffled (P := P) (w := w) (base := base) T f23 (gl X G c 11) c__law_draw
  have c__law_name := ok_name (P := P) (w := w) (base := base) T f24 (gl X G c 12) c__law_draw
  have c__law_names := ok_names (P := P) (w := w) (base := base) T f25 (gl X G c 13) c__law_name
  have c__law_places := ok_placesL (P := P) (w := w) (base := base) T f26 (gl X G c 14) c__law_draw c__law_choice c__law_shuffled c__law_names
  have c__law_way_up := ok_law_way_up (P := P) (w := w) (base := base) T f27 (gl X G c 15) 
  have c__law_path := ok_law_path (P := P) (w := w) (base := base) T f28 (gl X G c 16) c__law_way_up
  have c__law_walked := ok_walkedL (P := P) (w := w) (base := base) T f29 (gl X G c 17) 
  have c__law_told := ok_told (P := P) (w := w) (base := base) T f30 (gl X G c 18) c_way_up c_depth_of c_path_of c_nodes_under c_nodes c_is_under
  have c__law_due := ok_due (P := P) (w := w) (base := base) T f31 (gl X G c 19) c__law_way_up c__law_path
  have c__law_at := ok_at (P := P) (w := w) (base := base) T f32 (gl X G c 20) c_at
  have c__law_paths_right := ok_paths_right (P := P) (w := w) (base := base) T f33 (gl X G c 21) c__law_draw c__law_choice c__law_path c__law_at
  have c__law_deep_right := ok_deep_right (P := P) (w := w) (base := base) T f34 (gl X G c 22) c__law_names c_Tree c_at c_ht
  have c__law_walks_right := ok_walks_right (P := P) (w := w) (base := base) T f35 (gl X G c 23) c__law_way_up Wk c_nodes_under c_depth_of
  have hcode := code_of F37 hcd
  have c__law_strangers_right := ok_strangers (P := P) (w := w) (base := base) (TB := TB) T f37 (gl X G c 25) hcode f36 (gl X G c 24) (gl X G c 29) (xfB_ok (A 9 _ rfl)) (He.eqO_ok (A 10 _ rfl)) (He.exm_ok (c.fact 70 (f := .exm "UnknownNode" "UnknownNode" true) rfl)) hTBb hmT huT c__law_choice c_way_up c_depth_of c_path_of c_nodes_under c_is_under
  have c__law_right := ok_right (P := P) (w := w) (base := base) (TB := TB) T f38 (gl X G c 26) c__law_draw c__law_places c_Tree c__law_walked c__law_told c__law_due c__law_walks_right c__law_paths_right c__law_strangers_right c__law_deep_right
  have c_law := ok_law (P := P) (w := w) (base := base) (TB := TB) T f39 (gl X G c 27) c__law_rng c__law_right
  exact c_law
end
end MGH
/-! text Last -/
set_option Elab.async false
set_option linter.all false
set_option maxRecDepth 100000
set_option maxHeartbeats 4200000
namespace MGH
open PySem PySem.Spec PyProof.Rows L2 MG
theorem last (w : World) (mg : Str → Option Value) (f : Addr) (h : Heap) (Y : hk.says w h) (G : h.Ns mainGlobals mg) (hm : mg "law" = some (.ref f)) : ∃ (K : PySem.W.Frag) (c PT : Addr) (sp : Sp), mg "law" = some (.ref f) ∧ K.In h ∧ h.get? PT = some tab0 ∧ K.lookup PT = none ∧ PySem.W.CodeHd h c PT ∧
    (∀ (H : Hp) (a : Addr) (ns : List Int), ns.length ≤ 63 → H PT = some (.tbl #[]) → SqL K H a (ns.map V.int) → sp [.ref a] H (fun v _ => v = .bl true) fun _ _ _ => False) ∧
    ∀ base : Heap, K.In base → base.Ns mainGlobals mg → LamX.TabB base mg c PT → CalG (PySem.Challenge.rw_movegrants_k14_whole_walks_and_ways_up).prog w K mg base 13 "law" sp := by
  obtain ⟨K, X, c, hw⟩ := Y
  have hp : (("_law_strangers_right", none) : He.Defn) ∈ tf := List.mem_cons_self
  refine ⟨K, (He.cT K ("_law_strangers_right", none)).1, (He.cT K ("_law_strangers_right", none)).2, spLaw [((He.cT K ("_law_strangers_right", none)).2, lamQ)] K, hm, X, c.empty _ hp, c.out _ hp, PySem.W.codeHd_of_K X (c.hd _ hp), fun H a ns hl ht hs => ?_, fun base kb gb tb => ?_⟩
  · refine ⟨a, ns, rfl, hs, hl, fun p hp => ?_, fun _ => rfl⟩
    obtain rfl := List.mem_singleton.mp hp
    exact LamX.TabS.nil ht
  · refine law_ok kb gb (He.SaysT.d c.t) c.more hw rfl tb List.mem_cons_self fun p hp _ => ?_
    obtain rfl := List.mem_singleton.mp hp
    rfl
end MGH
/-! text Final -/
set_option Elab.async false
set_option linter.all false
set_option maxRecDepth 100000
set_option maxHeartbeats 0
open PySem PySem.W PySem.Calls PyProof.Rows
theorem PySem.Challenge.cw_movegrants_k14_whole_walks_and_ways_up_holds : PySem.Challenge.rw_movegrants_k14_whole_walks_and_ways_up.Holds := by
  w_on; o_law
  refine HandSHeadRun.head_any (r := MGH.R) (q := view MGH.R.prog [45]) (H := MGH.hk) (ob := MGH.ob) (M := 6000) (loose := MGH.looseN) (d := HandSHeadRun.topDef MGH.R.prog 45) (kwd := []) MGH.ob_eq (by kernel_rfl) (fun s => by kernel_rfl) MGH.run
    (by kernel_rfl) (by kernel_rfl) (by kernel_rfl) (by rfl) (by first | assumption | decide +kernel) (by decide +kernel) ⟨rfl, rfl, rfl, rfl, rfl, by decide +kernel⟩ ?hw ?hc
  case hw => w_witness2
  case hc =>
    refine MG.walkG (l := PySem.Challenge.rw_movegrants_k14_whole_walks_and_ways_up) (n := 63) (k := 13) (x := "law") rfl (by decide) (by kernel_rfl) ⟨rfl, by decide, by decide⟩ fun w mg f h Y G hm => ?_
    have e : (HandSHeadRun.topDef MGH.R.prog 45).name = ("law" : PySem.Str) := by kernel_rfl
    rw [e] at hm
    exact MGH.last w mg f h Y G hm
