import PyProof.Rows.All
import Wide.All
import OpenK.AllK
import Wide.FinOn
import HandS.ForMost
import HandS.Exc
import HandS.Defaults
import HandS.DictComp
import HandS.SetKeys
import HandS.Property
import HandS.IsInst
import HandS.Conv
import HandS.Walk
import HandS.Words
import HandS.WordsExc
import KE.GoesNew
import KE.GoesEnum
import KE.GoesMore
import OpenK.KMeth
import OpenK.KOps
import OpenK.KMake
import KE.KOpsOwn
import PyProof.DictUpdate
import KE.KDictLaw
import KE.KEqNest
import HandS.DeepEq
import HandS.SetTxt0
import HandS.SetFor
import HandS.Strs
import PySem.Challenge.RW_leastguards_k08_whole_view_history
import HandS.Text
import HandS.Head0
import HandS.Head1
import HandS.Head2
import HandS.HeadEnd
import HandS.HeadHook1
import HandS.HeadHook2
import KE.KStateDown
set_option Elab.async false
set_option linter.all false
set_option maxRecDepth 100000
set_option maxHeartbeats 4000000
-- LGW
/-! the weakest readings: goals of the form WE X e σ H Q, stepped by one rule a construct -/
namespace LG
open PySem PySem.Spec PyProof.Rows L2

def WE (X : Cx) (e : Expr) : TE := fun σ H Q => ∀ (pins : List (Addr × Obj)) (s : Shared), Inv X pins σ H s → wpAny (model X.prog X.w) X.A (eval e X.env) (EP X pins σ Q) X.xe s
def WT (X : Cx) (e : Expr) : TT := fun σ H Q => ∀ (pins : List (Addr × Obj)) (s : Shared), Inv X pins σ H s → wpAny (model X.prog X.w) X.A (isTrue e X.env (eval e X.env)) (TP X pins σ Q) X.xe s
def WW (X : Cx) (e : Expr) : TT := fun σ H Q => ∀ (whole : Sem Value) (pins : List (Addr × Obj)) (s : Shared), Inv X pins σ H s → wpAny (model X.prog X.w) X.A (isTrue e X.env whole) (TP X pins σ Q) X.xe s
def WA (X : Cx) (es : List Expr) : TA := fun σ H Q => ∀ (pos : Pos) (pins : List (Addr × Obj)) (s : Shared), Inv X pins σ H s → wpAny (model X.prog X.w) X.A (spliced (backTo pos (starEach es X.env))) (AP X pins σ Q) X.xe s
def WS (X : Cx) (st : Stmt) : TS := fun D σ H => ∀ (pins : List (Addr × Obj)) (s : Shared), Inv X pins σ H s → wpAny (model X.prog X.w) X.A (exec st X.env) (SP X pins D) X.xe s
def WB (X : Cx) (sts : List Stmt) : TS := fun D σ H => ∀ (pins : List (Addr × Obj)) (s : Shared), Inv X pins σ H s → wpAny (model X.prog X.w) X.A (execs sts X.env) (SP X pins D) X.xe s
section
variable {X : Cx} {e a b c : Expr} {es : List Expr} {st : Stmt} {sts rest : List Stmt} {σ : L2.St} {H : Hp} {Q Q' : VK} {R R' : Bool → Hp → Prop} {S S' : List V → Hp → Prop} {D : Ends} {pos : Pos}
theorem wE : PE X e (WE X e) := ⟨fun pins s _ _ _ I h => h pins s I⟩
theorem wT : PT X e (WT X e) := ⟨fun pins s _ _ _ I h => h pins s I⟩
theorem wW : PW X e (WW X e) := ⟨fun whole pins s _ _ _ I h => h whole pins s I⟩
theorem wA : PA X es (WA X es) := ⟨fun pos pins s _ _ _ I h => h pos pins s I⟩
theorem wS : PS X st (WS X st) := ⟨fun pins s _ _ _ I h => h pins s I⟩
theorem wB : PSs X sts (WB X sts) := ⟨fun pins s _ _ _ I h => h pins s I⟩
theorem toE {t : TE} (h : PE X e t) (q : t σ H Q) : WE X e σ H Q := fun pins s I => h.run pins s σ H Q I q
theorem toT {t : TT} (h : PT X e t) (q : t σ H R) : WT X e σ H R := fun pins s I => h.run pins s σ H R I q
theorem toW {t : TT} (h : PW X e t) (q : t σ H R) : WW X e σ H R := fun wh pins s I => h.run wh pins s σ H R I q
theorem toA {t : TA} (h : PA X es t) (q : t σ H S) : WA X es σ H S := fun pos pins s I => h.run pos pins s σ H S I q
theorem toS {t : TS} (h : PS X st t) (q : t D σ H) : WS X st D σ H := fun pins s I => h.run pins s σ H D I q
theorem toB {t : TS} (h : PSs X sts t) (q : t D σ H) : WB X sts D σ H := fun pins s I => h.run pins s σ H D I q
theorem WE.mono (h : WE X e σ H Q) (k : ∀ v H', Q v H' → Q' v H') : WE X e σ H Q' := fun pins s I => thn (h pins s I) fun u s' ⟨v, H', I', r, q⟩ => ⟨v, H', I', r, k v H' q⟩
theorem WT.mono (h : WT X e σ H R) (k : ∀ v H', R v H' → R' v H') : WT X e σ H R' := fun pins s I => thn (h pins s I) fun u s' ⟨H', I', q⟩ => ⟨H', I', k u H' q⟩
theorem WA.mono (h : WA X es σ H S) (k : ∀ v H', S v H' → S' v H') : WA X es σ H S' := fun pos pins s I => thn (h pos pins s I) fun u s' ⟨v, H', I', r, q⟩ => ⟨v, H', I', r, k v H' q⟩
theorem SP.imp {pins : List (Addr × Obj)} {D D' : Ends} {f : Flow} {s' : Shared} (h : SP X pins D f s') (h1 : ∀ σ H, D.nx σ H → D'.nx σ H) (h2 : ∀ v H, D.rt v H → D'.rt v H) (h3 : ∀ σ H, D.bk σ H → D'.bk σ H) (h4 : ∀ σ H, D.ct σ H → D'.ct σ H) : SP X pins D' f s' := by
  cases f with
  | next => obtain ⟨σ', H', I, q⟩ := h; exact ⟨σ', H', I, h1 _ _ q⟩
  | brk => obtain ⟨σ', H', I, q⟩ := h; exact ⟨σ', H', I, h3 _ _ q⟩
  | cont => obtain ⟨σ', H', I, q⟩ := h; exact ⟨σ', H', I, h4 _ _ q⟩
  | ret u => obtain ⟨v, σ', H', I, r, q⟩ := h; exact ⟨v, σ', H', I, r, h2 _ _ q⟩
theorem WS.imp {D D' : Ends} (h : WS X st D σ H) (h1 : ∀ σ H, D.nx σ H → D'.nx σ H) (h2 : ∀ v H, D.rt v H → D'.rt v H := by exact fun _ _ z => z) (h3 : ∀ σ H, D.bk σ H → D'.bk σ H := by exact fun _ _ z => z) (h4 : ∀ σ H, D.ct σ H → D'.ct σ H := by exact fun _ _ z => z) : WS X st D' σ H := fun pins s I => thn (h pins s I) fun f s' q => SP.imp q h1 h2 h3 h4
theorem WB.imp {D D' : Ends} (h : WB X sts D σ H) (h1 : ∀ σ H, D.nx σ H → D'.nx σ H) (h2 : ∀ v H, D.rt v H → D'.rt v H := by exact fun _ _ z => z) (h3 : ∀ σ H, D.bk σ H → D'.bk σ H := by exact fun _ _ z => z) (h4 : ∀ σ H, D.ct σ H → D'.ct σ H := by exact fun _ _ z => z) : WB X sts D' σ H := fun pins s I => thn (h pins s I) fun f s' q => SP.imp q h1 h2 h3 h4

/-! ### blocks, statements -/
theorem wb_nil (h : D.nx σ H) : WB X [] D σ H := toB pss_nil h
theorem wb_cons (h : WS X st { D with nx := WB X rest D } σ H) : WB X (st :: rest) D σ H := toB (pss_cons wS wB) h
theorem wb_one (h : WS X st D σ H) : WB X [st] D σ H := toB (pss_one wS) h
theorem wb_cut (M : L2.St → Hp → Prop) (h : WS X st { D with nx := M } σ H) (k : ∀ σ' H', M σ' H' → WB X rest D σ' H') : WB X (st :: rest) D σ H := wb_cons (WS.imp h k)
theorem ws_pass (h : D.nx σ H) : WS X (.Pass pos) D σ H := toS ps_pass h
theorem ws_break (h : D.bk σ H) : WS X (.Break pos) D σ H := toS ps_break h
theorem ws_continue (h : D.ct σ H) : WS X (.Continue pos) D σ H := toS ps_continue h
theorem ws_expr (h : WE X e σ H fun _ H1 => D.nx σ H1) (hs : swapsWith e none pos.line X.env = pure false := by rfl) : WS X (.Expr e pos) D σ H := toS (ps_expr wE hs) h
theorem ws_ret (h : WE X e σ H D.rt) : WS X (.Return (some e) pos) D σ H := toS (ps_ret wE) h
theorem ws_retN (h : D.rt .non H) : WS X (.Return none pos) D σ H := toS ps_retN h
theorem ws_if {f g : List Stmt} (h : WT X c σ H fun b H1 => if b = true then WB X f D σ H1 else WB X g D σ H1) : WS X (.If c f g pos) D σ H := toS (ps_if wT wB wB) h
theorem ws_set (i : Nat) {x : Str} {pos' : Pos} (hN : X.N.Nodup) (h : WE X e σ H fun v H1 => D.nx (σ.set i (some v)) H1) (hi : X.N[i]? = some x := by rfl) (hx : Loc X.env.scope x := by first | exact Or.inl rfl | exact Or.inr rfl)
    (hs : swapsWith e (some (.Name x pos')) pos.line X.env = pure false := by rfl) (hf : X.fn x = true ∨ X.env.scope.names.lookup x = some .local := by first | exact .inl rfl | exact .inr rfl | assumption) : WS X (.Assign [.Name x pos'] e pos) D σ H :=
  toS (ps_set hN hi hx wE hs hf) h
theorem ws_never (h : False) : WS X st D σ H := h.elim

/-! ### expressions -/
theorem we_var (i : Nat) {x : Str} {v : V} (e : σ[i]? = some (some v)) (q : Q v H) (hN : X.N[i]? = some x := by rfl) (hv : Vis X.env.scope x := by first | exact Or.inl rfl | exact Or.inr (Or.inl rfl) | exact Or.inr (Or.inr rfl)) (hd : (x == ("__debug__" : Str)) = false := by decide)
    (hcd : (x == ("__classdict__" : Str)) = false := by decide) : WE X (.Name x pos) σ H Q := toE (pe_var hN hv hd hcd) ⟨v, e, q⟩
theorem we_int {i : Int} {j} (q : Q (.int i) H) : WE X (.Constant (.int i) j pos) σ H Q := toE pe_int q
theorem we_bl {i : Bool} {j} (q : Q (.bl i) H) : WE X (.Constant (.bool i) j pos) σ H Q := toE pe_bl q
theorem we_non {j} (q : Q .non H) : WE X (.Constant .none j pos) σ H Q := toE pe_non q
theorem we_str {x : Str} {j} (q : Q (.str x) H) : WE X (.Constant (.str x) j pos) σ H Q := toE pe_str q
theorem we_glob {x : Str} {v : V} {u : Value} (hm : X.mg x = some u) (r : RelV v u) (q : Q v H) (hg : Gl X x := by rfl) (hd : (x == ("__debug__" : Str)) = false := by decide) : WE X (.Name x pos) σ H Q := toE (pe_glob hg hm r hd) q
theorem we_bltn {x : Str} {v : V} {u : Value} (hm : X.mg x = none) (hv : bootBuiltins x = some u) (r : RelV v u) (q : Q v H) (hg : Gl X x := by rfl) (hn : x ≠ "__name__" := by decide) (hd : (x == ("__debug__" : Str)) = false := by decide) : WE X (.Name x pos) σ H Q := toE (pe_bltn hg hm hv r hn hd) q
theorem we_op {op : Operator} {r : R2} (ho : OpR X (binaryOp op) r) (h : WE X a σ H fun x H1 => WE X b σ H1 fun y H2 => r x y H2 Q) : WE X (.BinOp a op b pos) σ H Q := toE (pe_op ho wE wE) h
theorem we_un {op : UnaryOp} {r : V → Hp → VK → Prop} (ho : UnR X (unaryOp op) r) (h : WE X a σ H fun x H1 => r x H1 Q) : WE X (.UnaryOp op a pos) σ H Q := toE (pe_un ho wE) h
theorem we_cmp {op : CmpOp} {r : R2} (ho : OpR X (compareOp op) r) (h : WE X a σ H fun x H1 => WE X b σ H1 fun y H2 => r x y H2 Q) (hm : behindInMarks op b = false := by first | exact nomark _ | rfl) : WE X (.Compare a [op] [b] pos) σ H Q := toE (pe_cmpR ho wE wE hm) h
theorem wt_cmp {op : CmpOp} {r : R2} (ho : OpR X (compareOp op) r) (h : WE X a σ H fun x H1 => WE X b σ H1 fun y H2 => r x y H2 fun z H' => ∃ k, z = .bl k ∧ R k H') (hm : behindInMarks op b = false := by first | exact nomark _ | rfl) : WT X (.Compare a [op] [b] pos) σ H R := toT (pt_cmpR ho wE wE hm) h
theorem we_tup {x1} (h : WA X es σ H fun xs H1 => xs.length ≤ sizeLine ∧ ∀ p, H1 p = none → Q (.ref p) (upd H1 p (.tup xs))) : WE X (.Tuple es x1 pos) σ H Q := toE (pe_tup wA) h
theorem we_lst (h : WA X es σ H fun xs H1 => xs.length ≤ sizeLine ∧ ∀ p, H1 p = none → Q (.ref p) (upd H1 p (.lst xs))) : WE X (.List es pos) σ H Q := toE (pe_lst wA) h
theorem wa_nil (q : S [] H) : WA X [] σ H S := toA pa_nil q
theorem wa_cons (h : WE X e σ H fun x H1 => WA X es σ H1 fun xs H2 => S (x :: xs) H2) (hs : starEach (e :: es) X.env = (false, eval e X.env) :: starEach es X.env := by rfl) : WA X (e :: es) σ H S := toA (pa_cons wE wA hs) h
theorem we_fld {f : Str} (h : WE X e σ H fun x H1 => ∃ a C dx fs v, x = .ref a ∧ H1 a = some (.ins C dx fs) ∧ Cls X.K C ∧ NoAttr X.K C f ∧ fs.lookup f = some v ∧ Q v H1) (hb : attributeBase e f X.env (eval e X.env) = eval e X.env := by rfl) : WE X (.Attribute e f pos) σ H Q := toE (pe_fld wE hb) h
theorem we_and {rest} (h : WE X a σ H fun x H1 => ∃ c, x = .bl c ∧ if c = true then WE X (.BoolOp .And (b :: rest) pos) σ H1 Q else Q (.bl false) H1) : WE X (.BoolOp .And (a :: b :: rest) pos) σ H Q := toE (pe_and wE wE) h
theorem we_or {rest} (h : WE X a σ H fun x H1 => ∃ c, x = .bl c ∧ if c = true then Q (.bl true) H1 else WE X (.BoolOp .Or (b :: rest) pos) σ H1 Q) : WE X (.BoolOp .Or (a :: b :: rest) pos) σ H Q := toE (pe_or wE wE) h
theorem we_one {op} (h : WE X a σ H Q) : WE X (.BoolOp op [a] pos) σ H Q := toE (pe_one wE) h
theorem we_not (h : WE X a σ H fun x H1 => ∃ c, x = .bl c ∧ Q (.bl (!c)) H1) : WE X (.UnaryOp .Not a pos) σ H Q := toE (pe_not wE) h

/-! ### tests -/
theorem wt_val (h : WE X e σ H fun x H1 => ∃ c, x = .bl c ∧ R c H1) (he : ∀ whole, isTrue e X.env whole = (do let v ← whole; standAt e.pos; holding [v] (truthy v)) := by intro _; rfl) : WT X e σ H R := toT (pt_val wE he) h
theorem wt_not (h : WT X a σ H fun c H1 => R (!c) H1) : WT X (.UnaryOp .Not a pos) σ H R := toT (pt_not wT) h
theorem wt_and {rest} (h : WT X a σ H fun c H1 => if c = true then WW X (.BoolOp .And (b :: rest) pos) σ H1 R else R false H1) : WT X (.BoolOp .And (a :: b :: rest) pos) σ H R := toT (PW.pt (pw_and wT wW)) h
theorem wt_or {rest} (h : WT X a σ H fun c H1 => if c = true then R true H1 else WW X (.BoolOp .Or (b :: rest) pos) σ H1 R) : WT X (.BoolOp .Or (a :: b :: rest) pos) σ H R := toT (PW.pt (pw_or wT wW)) h
theorem ww_and {rest} (h : WT X a σ H fun c H1 => if c = true then WW X (.BoolOp .And (b :: rest) pos) σ H1 R else R false H1) : WW X (.BoolOp .And (a :: b :: rest) pos) σ H R := toW (pw_and wT wW) h
theorem ww_or {rest} (h : WT X a σ H fun c H1 => if c = true then R true H1 else WW X (.BoolOp .Or (b :: rest) pos) σ H1 R) : WW X (.BoolOp .Or (a :: b :: rest) pos) σ H R := toW (pw_or wT wW) h
theorem ww_and1 (h : WT X a σ H R) : WW X (.BoolOp .And [a] pos) σ H R := toW (pw_and1 wT) h
theorem ww_or1 (h : WT X a σ H R) : WW X (.BoolOp .Or [a] pos) σ H R := toW (pw_or1 wT) h
theorem wt_truth (h : WE X e σ H fun x H' => ∃ k, TruV X.K x H' k ∧ R k H') (he : ∀ whole, isTrue e X.env whole = (do let v ← whole; standAt e.pos; holding [v] (truthy v)) := by intro _; rfl) : WT X e σ H R := toT (pt_truth wE he) h
end
end LG
-- LGH
/-! the ledger: what a def owns of the abstract heap -/
namespace LG
open PySem L2

abbrev Lg := List (Addr × HO)
structure Own (H : Hp) (L : Lg) : Prop where
  nd : (L.map (·.1)).Nodup
  at_ : ∀ x ∈ L, H x.1 = some x.2
/-- H0: the heap at the entry; M: the addresses whose objects may change; H, L: now -/
structure Led (H0 : Hp) (M : List Addr) (H : Hp) (L : Lg) : Prop where
  own : Own H L
  keep : ∀ b o, H0 b = some o → b ∉ M → H b = some o
  new : ∀ x ∈ L, x.1 ∈ M ∨ H0 x.1 = none
section
variable {H0 H H' : Hp} {M M2 : List Addr} {L L' A F N : Lg} {a p : Addr} {o o' : HO}
theorem Own.get (O : Own H L) (k : Nat) (e : L[k]? = some (a, o)) : H a = some o := O.at_ (a, o) (List.mem_of_getElem? e)
theorem Led.get (S : Led H0 M H L) (k : Nat) (e : L[k]? = some (a, o)) : H a = some o := S.own.get k e
theorem Own.perm (O : Own H L) (h : L.Perm L') : Own H L' := ⟨((h.map (·.1)).nodup_iff).mp O.nd, fun x hx => O.at_ x (h.mem_iff.mpr hx)⟩
theorem Own.sub (O : Own H L) (h : L'.Sublist L) : Own H L' := ⟨List.Nodup.sublist (h.map (·.1)) O.nd, fun x hx => O.at_ x (h.subset hx)⟩
theorem Led.perm (S : Led H0 M H L) (h : L.Perm L') : Led H0 M H L' := ⟨S.own.perm h, S.keep, fun x hx => S.new x (h.mem_iff.mpr hx)⟩
theorem Led.sub (S : Led H0 M H L) (h : L'.Sublist L) : Led H0 M H L' := ⟨S.own.sub h, S.keep, fun x hx => S.new x (h.subset hx)⟩
theorem perm_pick : ∀ (L : Lg) (k : Nat) (x : Addr × HO), L[k]? = some x → L.Perm (x :: L.eraseIdx k)
  | [], _, _, h => by simp at h
  | y :: r, 0, x, h => by simp at h; subst h; exact List.Perm.refl _
  | y :: r, k + 1, x, h => by
    have h2 : r[k]? = some x := by simpa using h
    exact ((perm_pick r k x h2).cons y).trans (List.Perm.swap _ _ _)
/-- bring the k-th object to the front -/
theorem Led.pick (S : Led H0 M H L) (k : Nat) {x : Addr × HO} (e : L[k]? = some x) (hL : L.eraseIdx k = L') : Led H0 M H (x :: L') := hL ▸ S.perm (perm_pick L k x e)
theorem Led.drop (S : Led H0 M H L) (k : Nat) (hL : L.eraseIdx k = L') : Led H0 M H L' := hL ▸ S.sub (List.eraseIdx_sublist ..)
theorem Led.nil (S : Led H0 M H L) : Led H0 M H [] := S.sub (List.nil_sublist _)
theorem Led.ne (S : Led H0 M H (A ++ (a, o) :: F)) : True := trivial
theorem Led.fresh (S : Led H0 M H L) (h : H p = none) (hM : p ∉ M) : H0 p = none := by
  cases e : H0 p with
  | none => rfl
  | some u => rw [S.keep p u e hM] at h; cases h
theorem Own.nmem (O : Own H L) (h : H p = none) : p ∉ L.map (·.1) := fun hm => by
  obtain ⟨x, hx, rfl⟩ := List.mem_map.mp hm
  rw [O.at_ x hx] at h; cases h
theorem Own.alloc (O : Own H L) (h : H p = none) : Own (upd H p o) ((p, o) :: L) := by
  refine ⟨List.nodup_cons.mpr ⟨O.nmem h, O.nd⟩, fun x hx => ?_⟩
  rcases List.mem_cons.mp hx with rfl | hx
  · exact upd_same
  · rw [upd_ne (ne_of_none (O.at_ x hx) h)]; exact O.at_ x hx
theorem Led.start (O : Own H L) (hM : M = L.map (·.1)) : Led H M H L := ⟨O, fun _ _ h _ => h, fun x hx => .inl (hM ▸ List.mem_map_of_mem hx)⟩
theorem Led.refl : Led H M H [] := ⟨⟨List.nodup_nil, fun _ h => by cases h⟩, fun _ _ h _ => h, fun _ h => by cases h⟩
theorem Led.alloc (S : Led H0 M H L) (h : H p = none) (o : HO) : Led H0 M (upd H p o) ((p, o) :: L) := by
  refine ⟨S.own.alloc h, fun b u e hb => ?_, fun x hx => ?_⟩
  · have := S.keep b u e hb
    rw [upd_ne (ne_of_none this h)]; exact this
  · rcases List.mem_cons.mp hx with rfl | hx
    · by_cases hM : p ∈ M
      · exact .inl hM
      · exact .inr (S.fresh h hM)
    · exact S.new x hx
theorem Led.put (S : Led H0 M H ((a, o) :: L)) (o' : HO) : Led H0 M (upd H a o') ((a, o') :: L) := by
  have nd := S.own.nd
  simp only [List.map_cons, List.nodup_cons] at nd
  refine ⟨⟨by simpa using nd, fun x hx => ?_⟩, fun b u e hb => ?_, fun x hx => ?_⟩
  · rcases List.mem_cons.mp hx with rfl | hx
    · exact upd_same
    · have hne : x.1 ≠ a := fun q => nd.1 (q ▸ List.mem_map_of_mem hx)
      rw [upd_ne hne]; exact S.own.at_ x (List.mem_cons_of_mem _ hx)
  · have hne : b ≠ a := fun q => by
      subst q
      rcases S.new (b, o) List.mem_cons_self with h | h
      · exact hb h
      · have h' : H0 b = none := h
        rw [e] at h'; cases h'
    rw [upd_ne hne]; exact S.keep b u e hb
  · rcases List.mem_cons.mp hx with rfl | hx
    · exact S.new (a, o) List.mem_cons_self
    · exact S.new x (List.mem_cons_of_mem _ hx)
/-- a call that changes the objects A of the ledger, and makes new ones -/
theorem Led.call (S : Led H0 M H L) (T : Led H M2 H' N) (hL : L = A ++ F) (hM : A.map (·.1) = M2) : Led H0 M H' (N ++ F) := by
  subst hL hM
  have nd := S.own.nd
  rw [List.map_append, List.nodup_append] at nd
  obtain ⟨nA, nF, nAF⟩ := nd
  have hF : ∀ x ∈ F, x.1 ∉ A.map (·.1) := fun x hx hm => nAF _ hm _ (List.mem_map_of_mem hx) rfl
  have kF : ∀ x ∈ F, H' x.1 = some x.2 := fun x hx => T.keep _ _ (S.own.at_ x (List.mem_append_right _ hx)) (hF x hx)
  refine ⟨⟨?_, fun x hx => ?_⟩, fun b u e hb => ?_, fun x hx => ?_⟩
  · rw [List.map_append, List.nodup_append]
    refine ⟨T.own.nd, nF, fun z hz y hy e => ?_⟩
    subst e
    obtain ⟨x, hx, rfl⟩ := List.mem_map.mp hz
    obtain ⟨y, hy', e⟩ := List.mem_map.mp hy
    rcases T.new x hx with h | h
    · exact hF y hy' (e ▸ h)
    · rw [← e, S.own.at_ y (List.mem_append_right _ hy')] at h; cases h
  · rcases List.mem_append.mp hx with hx | hx
    · exact T.own.at_ x hx
    · exact kF x hx
  · refine T.keep b u (S.keep b u e hb) fun hm => ?_
    obtain ⟨x, hx, rfl⟩ := List.mem_map.mp hm
    rcases S.new x (List.mem_append_left _ hx) with h | h
    · exact hb h
    · rw [e] at h; cases h
  · rcases List.mem_append.mp hx with hx | hx
    · rcases T.new x hx with h | h
      · obtain ⟨y, hy, e⟩ := List.mem_map.mp h
        rw [← e]; exact S.new y (List.mem_append_left _ hy)
      · by_cases hm : x.1 ∈ M
        · exact .inl hm
        · exact .inr (S.fresh h hm)
    · exact S.new x (List.mem_append_right _ hx)
/-- a call that changes nothing of the ledger -/
theorem Led.pure (S : Led H0 M H L) (T : Led H [] H' N) : Led H0 M H' (N ++ L) := S.call (A := []) T rfl rfl
/-- forms that hand on a new heap's letter -/
theorem Led.new_ (S : Led H0 M H L) {o : HO} {Q : VK} (k : ∀ p H1, H p = none → Led H0 M H1 ((p, o) :: L) → Q (.ref p) H1) : ∀ p, H p = none → Q (.ref p) (upd H p o) := fun p hp => k p _ hp (S.alloc hp o)
theorem Led.put_ (S : Led H0 M H ((a, o) :: L)) {o' : HO} {Q : Hp → Prop} (k : ∀ H1, Led H0 M H1 ((a, o') :: L) → Q H1) : Q (upd H a o') := k _ (S.put o')
theorem Led.same (S : Led H0 [] H L) : Same H0 H := fun b o h => S.keep b o h (by simp)
theorem Led.of_same (h : Same H0 H) : Led H0 M H [] := ⟨⟨List.nodup_nil, fun _ h => by cases h⟩, fun b o e _ => h b o e, fun _ h => by cases h⟩
/-- fewer promises: a greater M -/
theorem Led.wide (S : Led H0 M H L) (h : ∀ x ∈ M, x ∈ M2) : Led H0 M2 H L := ⟨S.own, fun b o e hb => S.keep b o e fun q => hb (h b q), fun x hx => (S.new x hx).imp (h _) id⟩
end

/-! ### types -/
theorem TyOf.same {K : PySem.W.Frag} {H H' : Hp} {x : V} {t : Value} (h : TyOf K H x t) (s : Same H H') : TyOf K H' x t := by
  cases h with
  | non => exact .non
  | bl b => exact .bl b
  | int i => exact .int i
  | str y => exact .str y
  | flt y => exact .flt y
  | lst e => exact .lst (s _ _ e)
  | frz e => exact .frz (s _ _ e)
  | tup e => exact .tup (s _ _ e)
  | dK e => exact .dK (s _ _ e)
  | dT e => exact .dT (s _ _ e)
  | ins e c a b d g => exact .ins (s _ _ e) c a b d g
theorem TyX.same {K : PySem.W.Frag} {H H' : Hp} {x : V} {t : Value} (h : TyX K H x t) (s : Same H H') : TyX K H' x t := by
  cases h with
  | base b => exact .base (TyOf.same b s)
  | byt b => exact .byt b
  | set e => exact .set (s _ _ e)
  | kList e c => exact .kList e c
  | kTuple e c => exact .kTuple e c
  | kDict e c => exact .kDict e c
  | fTuple e => exact .fTuple (s _ _ e)
  | fDict e => exact .fDict (s _ _ e)
theorem same_new {H : Hp} {p : Addr} {o : HO} (h : H p = none) : Same H (upd H p o) := fun a u e => by
  rw [upd_ne (ne_of_none e h)]; exact e
end LG
-- LGL
namespace LG
open PySem L2
open PyProof.Rows (envOfC)
def WG (X : Cx) (tg : Expr) : TG := fun v σ H Q => ∀ (pins : List (Addr × Obj)) (s : Shared) (u : Value), Inv X pins σ H s → RelV v u → wpAny (model X.prog X.w) X.A (assign tg X.env u) (fun _ s' => ∃ σ' H', Inv X pins σ' H' s' ∧ Q σ' H') X.xe s
def WI (X : Cx) (tg iter : Expr) : TI := fun σ H R => ∀ (pins : List (Addr × Obj)) (s : Shared), Inv X pins σ H s →
    wpAny (model X.prog X.w) X.A (eval iter X.env) (fun v s1 => wpAny (model X.prog X.w) X.A (pyIter v) (PIE X pins σ tg R) X.xe s1) X.xe s
/-- one loop: n turns, G what the iterator asks of the heap, Y what it gives -/
def Lp (X : Cx) (g : TG) (body : List Stmt) (D : Ends) (σ : L2.St) (n : Nat) (G : Hp → Prop) (Y : Nat → Hp → V → Hp → Prop) (H : Hp) : Prop :=
  ∃ Pv : Nat → L2.St → Hp → Prop, Pv 0 σ H ∧ (∀ i σ H, i ≤ n → Pv i σ H → G H) ∧
    (∀ i x σ H H', i < n → Pv i σ H → Y i H x H' → g x σ H' fun σ2 H2 => WB X body { D with nx := Pv (i + 1), ct := Pv (i + 1), bk := D.nx } σ2 H2) ∧ (∀ σ H, Pv n σ H → D.nx σ H)
section
variable {X : Cx} {e a b c tg iter : Expr} {es : List Expr} {st : Stmt} {body : List Stmt} {σ : L2.St} {H : Hp} {Q Q' : VK} {R R' : It → Hp → Prop} {D : Ends} {pos : Pos} {g : TG}
theorem wI : PI X tg iter (WI X tg iter) := ⟨fun pins s _ _ _ I h => h pins s I⟩
theorem toI {t : TI} (h : PI X tg iter t) (q : t σ H R) : WI X tg iter σ H R := fun pins s I => h.run pins s σ H R I q
theorem WI.mono (h : WI X tg iter σ H R) (k : ∀ J H', R J H' → R' J H') : WI X tg iter σ H R' := fun pins s I => thn (h pins s I) fun u s' h' => thn h' fun itv s2 ⟨it, fp, tn, J, H2, e, I2, T, st2, f2, r⟩ => ⟨it, fp, tn, J, H2, e, I2, T, st2, f2, k J H2 r⟩
theorem ws_for (hp : PassesOwn (model X.prog X.w) X.A X.env X.xe) (hg : PG X tg g) (h : WI X tg iter σ H fun J H1 => ∃ n G Y, Walk J n G Y ∧ Lp X g body D σ n G Y H1) (hc : X.calm = true := by rfl)
    (hs : ∀ x, foldedSetIterable iter X.env x = pure x := by intro _; rfl) : WS X (.For tg iter body [] pos) D σ H := by
  refine toS (ps_for hp hc wI hg wB hs) (WI.mono h fun J H1 hJ => ?_)
  obtain ⟨n, G, Y, w, Pv, h0, hG, hs, hd⟩ := hJ
  exact for_it w Pv h0 hG hs hd
theorem wi_list (h : WE X iter σ H fun v H1 => ∃ a xs, v = .ref a ∧ SqL X.K H1 a xs ∧ ∀ J, Walk J xs.length (fun H => SqL X.K H a xs) (YAt xs) → R J H1) : WI X tg iter σ H R :=
  toI (pi_list wE) (h.mono fun v H1 ⟨a, xs, e, q, r⟩ => ⟨a, e, ⟨xs, q⟩, r _ walk_list⟩)
theorem wi_tup (h : WE X iter σ H fun v H1 => ∃ a xs, v = .ref a ∧ SqT X.K H1 a xs ∧ ∀ J, Walk J xs.length (fun H => SqT X.K H a xs) (YAt xs) → R J H1) : WI X tg iter σ H R :=
  toI (pi_tup wE) (h.mono fun v H1 ⟨a, xs, e, q, r⟩ => ⟨a, e, ⟨xs, q⟩, r _ walk_tup⟩)
theorem wi_str (h : WE X iter σ H fun v H1 => ∃ z, v = .str z ∧ ∀ J, Walk J z.cps.size (fun _ => True) (fun i H v H' => H' = H ∧ ∃ c, z.cps[i]? = some c ∧ v = .str ⟨#[c]⟩) → R J H1) : WI X tg iter σ H R :=
  toI (pi_str wE) (h.mono fun v H1 ⟨z, e, r⟩ => ⟨z, e, r _ walk_str⟩)
theorem wi_range1 {p : Pos} (hm : X.mg "range" = none) (h : WE X a σ H fun v H1 => ∃ j : Int, v = .int j ∧ -(2 ^ 62) ≤ j ∧ j < 2 ^ 62 ∧ ∀ J, Walk J j.toNat (fun _ => True) (YFn fun i => .int (0 + i)) → R J H1) (hg : Gl X "range" := by rfl)
    (hs : starEach [a] X.env = [(false, eval a X.env)] := by rfl) (hs' : starEach (a :: []) X.env = (false, eval a X.env) :: starEach [] X.env := by rfl) : WI X tg (.Call (.Name "range" p) [a] [] pos) σ H R :=
  toI (pi_range1 hg hm wA hs) (wa_cons (h.mono fun v H1 ⟨j, e, h1, h2, r⟩ => wa_nil ⟨j, by rw [e], h1, h2, r _ walk_range⟩) hs')
theorem wi_range2 {p : Pos} (hm : X.mg "range" = none) (h : WE X a σ H fun v H1 => WE X b σ H1 fun u H2 => ∃ i j : Int, v = .int i ∧ u = .int j ∧ (-(2 ^ 62) ≤ i ∧ i < 2 ^ 62 ∧ -(2 ^ 62) ≤ j ∧ j < 2 ^ 62) ∧ ∀ J, Walk J (j - i).toNat (fun _ => True) (YFn fun k => .int (i + k)) → R J H2) (hg : Gl X "range" := by rfl)
    (hs : starEach [a, b] X.env = [(false, eval a X.env), (false, eval b X.env)] := by rfl) (hs2 : starEach [b] X.env = [(false, eval b X.env)] := by rfl) (hs' : starEach (a :: [b]) X.env = (false, eval a X.env) :: starEach [b] X.env := by rfl)
    (hs3 : starEach (b :: []) X.env = (false, eval b X.env) :: starEach [] X.env := by rfl) : WI X tg (.Call (.Name "range" p) [a, b] [] pos) σ H R :=
  toI (pi_range2 hg hm wA hs hs2) (wa_cons (h.mono fun v H1 h' => wa_cons (h'.mono fun u H2 ⟨i, j, e1, e2, h3, r⟩ => wa_nil ⟨i, j, by rw [e1, e2], h3, r _ walk_range⟩) hs3) hs')
theorem wi_enum {p tpos : Pos} {elts : List Expr} {kk : Nat} (hm : X.mg "enumerate" = none) (h : WE X a σ H fun v H1 => ∃ d xs, v = .ref d ∧ SqL X.K H1 d xs ∧ ∀ J, Walk J xs.length (fun H => SqL X.K H d xs) (YPair (fun i => some (.int (i : Nat))) (fun i => xs[i]?)) → R J H1) (hg : Gl X "enumerate" := by rfl)
    (hs : starEach [a] X.env = [(false, eval a X.env)] := by rfl) (hs' : starEach (a :: []) X.env = (false, eval a X.env) :: starEach [] X.env := by rfl) : WI X (.Tuple elts kk tpos) (.Call (.Name "enumerate" p) [a] [] pos) σ H R :=
  toI (pi_enum hg hm wA hs) (wa_cons (h.mono fun v H1 ⟨d, xs, e, q, r⟩ => wa_nil ⟨d, xs, by rw [e], q, r _ walk_enum⟩) hs')
theorem wi_items {tpos apos : Pos} {elts : List Expr} {kk : Nat} (h : WE X a σ H fun v H1 => ∃ d o kvs, v = .ref d ∧ H1 d = some (.frz o (.dK kvs)) ∧ ∀ J, Walk J kvs.length (fun H => H d = some (.frz o (.dK kvs))) (YPair (fun i => kvs[i]?.map fun kv => kV kv.1) (fun i => kvs[i]?.map Prod.snd)) → R J H1)
    (hbase : attributeBase a "items" X.env (eval a X.env) = eval a X.env := by rfl) (hline : (apos.endLine == pos.line) = true := by rfl) : WI X (.Tuple elts kk tpos) (.Call (.Attribute a "items" apos) [] [] pos) σ H R :=
  toI (pi_items wE hbase hline) (h.mono fun v H1 ⟨d, o, kvs, e, q, r⟩ => ⟨d, o, kvs, e, q, r _ walk_items⟩)
theorem wi_keys (h : WE X iter σ H fun v H1 => ∃ d o kvs, v = .ref d ∧ H1 d = some (.frz o (.dK kvs)) ∧ ∀ J, Walk J kvs.length (fun H => H d = some (.frz o (.dK kvs))) (fun i H x H' => H' = H ∧ ∃ k v, kvs[i]? = some (k, v) ∧ x = kV k) → R J H1) : WI X tg iter σ H R :=
  toI (pi_keys wE) (h.mono fun v H1 ⟨d, o, kvs, e, q, r⟩ => ⟨d, o, e, .inl ⟨kvs, q, r _ walk_keys⟩⟩)
/-- the pair of a walk by pairs goes to two names -/
abbrev g2 (K : PySem.W.Frag) (i j : Nat) : TG := gTup K 2 (gCons (gName i) (gCons (gName j) gNil))
theorem pg2 {i j : Nat} {x y : Str} {p1 p2 : Pos} {k : Nat} (hN : X.N.Nodup) (hi : X.N[i]? = some x) (hx : Loc X.env.scope x) (hj : X.N[j]? = some y) (hy : Loc X.env.scope y)
    (hf : X.fn x = true ∨ X.env.scope.names.lookup x = some .local := by first | exact .inl rfl | exact .inr rfl) (hf2 : X.fn y = true ∨ X.env.scope.names.lookup y = some .local := by first | exact .inl rfl | exact .inr rfl) (hc : X.calm = true := by rfl) : PG X (.Tuple [.Name x p1, .Name y p2] k pos) (g2 X.K i j) :=
  pg_tup hc (pgs_cons (pg_name hN hi hx hf) (pgs_cons (pg_name hN hj hy hf2) pgs_nil))
theorem g2_of {K : PySem.W.Frag} {i j : Nat} {T : Addr} {x y : V} {k : L2.St → Hp → Prop} (h : H T = some (.tup [x, y])) (q : k ((σ.set i (some x)).set j (some y)) H) : g2 K i j (.ref T) σ H k :=
  ⟨T, [x, y], rfl, SqT.of h, rfl, x, [y], rfl, y, [], rfl, rfl, q⟩
/-- a statement while the dict at d is locked -/
theorem ws_lock {d : Addr} {u : HO} (hd : H d = some u) (hm : Mut (some u))
    (h : ∀ od, WS X st ⟨fun σ' H' => H' d = some (.frz od u) ∧ D.nx σ' (upd H' d u), fun v H' => H' d = some (.frz od u) ∧ D.rt v (upd H' d u), fun σ' H' => H' d = some (.frz od u) ∧ D.bk σ' (upd H' d u), fun σ' H' => H' d = some (.frz od u) ∧ D.ct σ' (upd H' d u)⟩ σ (upd H d (.frz od u))) : WS X st D σ H :=
  toS (ps_lock wS) ⟨d, u, hd, hm, h⟩
theorem we_lock {d : Addr} {u : HO} (hd : H d = some u) (hm : Mut (some u)) (h : ∀ od, WE X e σ (upd H d (.frz od u)) fun v H' => H' d = some (.frz od u) ∧ Q v (upd H' d u)) : WE X e σ H Q := toE (pe_lock wE) ⟨d, u, hd, hm, h⟩
theorem ws_while {Pv : L2.St → Hp → Prop} (μ : L2.St → Hp → Nat) (hp : PassesOwn (model X.prog X.w) X.A X.env X.xe) (h0 : Pv σ H)
    (hs : ∀ σ H, Pv σ H → WT X c σ H fun b H1 => if b = true then WB X body { D with nx := fun σ' H' => Pv σ' H' ∧ μ σ' H' < μ σ H, ct := fun σ' H' => Pv σ' H' ∧ μ σ' H' < μ σ H, bk := D.nx } σ H1 else D.nx σ H1) : WS X (.While c body [] pos) D σ H :=
  toS (ps_while hp wT wB) (while_by Pv μ h0 hs fun σ H Q Q' k h => h.mono k)
end
/-! ### the lock and the ledger -/
section
variable {H0 H H2 : Hp} {M : List Addr} {L L2 : Lg} {d : Addr} {u : HO} {od : Obj}
theorem Led.lock (S : Led H0 M H L) (h0 : H0 d = some u) (hM : d ∉ M) : Led H0 (d :: M) (upd H d (.frz od u)) ((d, .frz od u) :: L) := by
  have hd := S.keep d u h0 hM
  have nL : d ∉ L.map (·.1) := fun hm => by
    obtain ⟨x, hx, rfl⟩ := List.mem_map.mp hm
    rcases S.new x hx with h | h
    · exact hM h
    · rw [h0] at h; cases h
  refine ⟨⟨List.nodup_cons.mpr ⟨nL, S.own.nd⟩, fun x hx => ?_⟩, fun b o e hb => ?_, fun x hx => ?_⟩
  · rcases List.mem_cons.mp hx with rfl | hx
    · exact upd_same
    · rw [upd_ne (show x.1 ≠ d from fun q => nL (q ▸ List.mem_map_of_mem hx))]; exact S.own.at_ x hx
  · simp only [List.mem_cons, not_or] at hb
    rw [upd_ne hb.1]; exact S.keep b o e hb.2
  · rcases List.mem_cons.mp hx with rfl | hx
    · exact .inl List.mem_cons_self
    · exact (S.new x hx).imp (List.mem_cons_of_mem _) id
theorem Led.unlock (S : Led H0 (d :: M) H ((d, .frz od u) :: L)) (h0 : H0 d = some u) : Led H0 M (upd H d u) L := by
  have nd := S.own.nd
  simp only [List.map_cons, List.nodup_cons] at nd
  refine ⟨⟨nd.2, fun x hx => ?_⟩, fun b o e hb => ?_, fun x hx => ?_⟩
  · rw [upd_ne (show x.1 ≠ d from fun q => nd.1 (q ▸ List.mem_map_of_mem hx))]; exact S.own.at_ x (List.mem_cons_of_mem _ hx)
  · by_cases q : b = d
    · subst q; rw [upd_same]; rw [h0] at e; exact e
    · rw [upd_ne q]; exact S.keep b o e (by simp only [List.mem_cons, not_or]; exact ⟨q, hb⟩)
  · rcases S.new x (List.mem_cons_of_mem _ hx) with h | h
    · rcases List.mem_cons.mp h with h | h
      · exact (nd.1 (h ▸ List.mem_map_of_mem hx)).elim
      · exact .inl h
    · exact .inr h
end
/-! ### defs -/
theorem FunD.okW {P : Program} {w : World} {K : PySem.W.Frag} {mg : Str → Option Value} {base : Heap} {f : Addr} {fd : FuncData} {CX : CXT} {N ps : List Str} {k : Nat} {sp : Sp} {x qual : Str} {params : Arguments} {body : List Stmt} {scope : Scope} {dvs : List V} {kws : List (Str × V)} (F : FunD K x qual params body scope dvs kws f fd) (S : FnScope N ps scope) (len : ∀ vs H Q E, sp vs H Q E → vs.length = ps.length)
    (hbody : ∀ (cdv : Value) (A : Around) (outer : List Env) (s : Shared) (H : Hp) (vs : List V) (Q : VK) (E : XK), Room k (A.deeper (envOfC qual scope s.heap.objs.size f cdv)) → sp vs H Q E →
      WB (cxOf CX P w K mg base N qual scope f cdv A outer s H E) body { nx := fun _ H' => Q .non H', rt := Q } (start N vs) H) : FnOk P w K mg base CX (k + 1) f fd ps sp :=
  F.ok S len fun cdv A outer s H vs Q E hr h => ⟨_, wB, hbody cdv A outer s H vs Q E hr h⟩
abbrev FnP (K : PySem.W.Frag) (x qual : Str) (st : Stmt) (dvs : List V) (f : Addr) (fd : FuncData) : Prop := FunD K x qual (defArgs st) (defBody st) (defScope st) dvs [] f fd
/-- a global def keeps sp, called with dvs filled in behind -/
structure GFn (P : Program) (w : World) (K : PySem.W.Frag) (mg : Str → Option Value) (base : Heap) (x : Str) (k : Nat) (dvs : List V) (sp : Sp) : Prop where
  ex : ∃ (f : Addr) (fd : FuncData) (ps : List Str) (ds : List Value), FnOk P w K mg base (L2.CX P w) k f fd ps sp ∧ mg x = some (.ref f) ∧ PySem.W.keepIn K (.ref f) = true ∧ Binds K fd ps ds ∧ Vals dvs ds
/-- a method of the class at C -/
structure MFn (P : Program) (w : World) (K : PySem.W.Frag) (mg : Str → Option Value) (base : Heap) (C : Addr) (m : Str) (k : Nat) (dvs : List V) (sp : Sp) : Prop where
  cl : Cls K C
  ex : ∃ (f : Addr) (fd : FuncData) (ps : List Str) (ds : List Value), FnOk P w K mg base (L2.CX P w) k f fd ps sp ∧ Meth K C m f ∧ Binds K fd ps ds ∧ Vals dvs ds
/-- the making of an instance -/
structure KFn (P : Program) (w : World) (K : PySem.W.Frag) (mg : Str → Option Value) (base : Heap) (x : Str) (C : Addr) (k : Nat) (dvs : List V) (sp : Sp) : Prop where
  ex : ∃ (f : Addr) (fd : FuncData) (ps : List Str) (ds : List Value), FnOk P w K mg base (L2.CX P w) k f fd ps sp ∧ Mk K C f ∧ mg x = some (.ref C) ∧ Binds K fd ps ds ∧ Vals dvs ds
section
variable {X : Cx} {e : Expr} {es : List Expr} {σ : L2.St} {H : Hp} {Q : VK} {pos p : Pos} {x : Str} {k : Nat} {dvs : List V} {sp : Sp} {E : XK} {C : Addr} {m : Str} {o : Expr} {apos : Pos}
theorem we_call (G : GFn X.prog X.w X.K X.mg X.base x k dvs sp) (hr : Room k X.A) (hx : Passes (L2.CX X.prog X.w) X E) (h : WA X (e :: es) σ H fun vs H1 => sp (vs ++ dvs) H1 Q E) (hg : Gl X x := by rfl)
    (hdb : (x == ("__debug__" : Str)) = false := by decide) (he : starEach (e :: es) X.env = (false, eval e X.env) :: starEach es X.env := by rfl) (hpl : (backTo pos (starEach es X.env)).any (·.1) = false := by rfl) : WE X (.Call (.Name x p) (e :: es) [] pos) σ H Q := by
  obtain ⟨f, fd, ps, ds, F, hm, hk, hb, hd⟩ := G.ex
  exact toE (pe_call F hr hg hm hk hb hd hx wA hdb he hpl) h
theorem we_call0 (G : GFn X.prog X.w X.K X.mg X.base x k dvs sp) (hr : Room k X.A) (hx : Passes (L2.CX X.prog X.w) X E) (h : sp ([] ++ dvs) H Q E) (hg : Gl X x := by rfl)
    (hdb : (x == ("__debug__" : Str)) = false := by decide) : WE X (.Call (.Name x p) [] [] pos) σ H Q := by
  obtain ⟨f, fd, ps, ds, F, hm, hk, hb, hd⟩ := G.ex
  exact toE (pe_call0 F hr hg hm hk hb hd hx hdb) h
theorem we_meth {pl : Sem Bool} (G : MFn X.prog X.w X.K X.mg X.base C m k dvs sp) (hr : Room k X.A) (hx : Passes (L2.CX X.prog X.w) X E) (h : WE X o σ H fun x H1 => ∃ a dx fs, x = .ref a ∧ H1 a = some (.ins C dx fs) ∧ fs.lookup m = none ∧ WA X (e :: es) σ H1 fun vs H2 => sp (x :: (vs ++ dvs)) H2 Q E)
    (hst : starEach (e :: es) X.env = (false, eval e X.env) :: starEach es X.env := by rfl) (hpl : (backTo pos (starEach es X.env)).any (·.1) = false := by rfl)
    (ht : eval (.Call (.Attribute o m apos) (e :: es) [] pos) X.env = (do
      let ov ← eval o X.env
      standAt apos.atName
      let (f, first) ← holding [ov] (getMethod ov m pl)
      callWith pos f first (backTo pos (starEach (e :: es) X.env)) (backToKw pos (keywordEach [] X.env))) := by rfl) : WE X (.Call (.Attribute o m apos) (e :: es) [] pos) σ H Q := by
  obtain ⟨f, fd, ps, ds, F, hm, hb, hd⟩ := G.ex
  exact toE (pe_meth wE G.cl hm F hr hb hd hx wA hst hpl ht) h
theorem we_meth0 {pl : Sem Bool} (G : MFn X.prog X.w X.K X.mg X.base C m k dvs sp) (hr : Room k X.A) (hx : Passes (L2.CX X.prog X.w) X E) (h : WE X o σ H fun x H1 => ∃ a dx fs, x = .ref a ∧ H1 a = some (.ins C dx fs) ∧ fs.lookup m = none ∧ sp (x :: ([] ++ dvs)) H1 Q E)
    (ht : eval (.Call (.Attribute o m apos) [] [] pos) X.env = (do
      let ov ← eval o X.env
      standAt apos.atName
      let (f, first) ← holding [ov] (getMethod ov m pl)
      callWith pos f first (backTo pos (starEach [] X.env)) (backToKw pos (keywordEach [] X.env))) := by rfl) : WE X (.Call (.Attribute o m apos) [] [] pos) σ H Q := by
  obtain ⟨f, fd, ps, ds, F, hm, hb, hd⟩ := G.ex
  exact toE (pe_meth0 wE G.cl hm F hr hb hd hx ht) h
theorem we_make (G : KFn X.prog X.w X.K X.mg X.base x C k dvs sp) (hr : Room (k + 1) X.A) (hx : Passes (L2.CX X.prog X.w) X E)
    (h : WA X (e :: es) σ H fun vs H1 => ∀ x dx, H1 x = none → H1 dx = none → dx ≠ x → sp (.ref x :: (vs ++ dvs)) (upd (upd H1 dx (.own x)) x (.ins C dx [])) (fun v H2 => v = .non ∧ Q (.ref x) H2) E) (hg : Gl X x := by rfl)
    (hdb : (x == ("__debug__" : Str)) = false := by decide) (he : starEach (e :: es) X.env = (false, eval e X.env) :: starEach es X.env := by rfl) (hpl : (backTo pos (starEach es X.env)).any (·.1) = false := by rfl) : WE X (.Call (.Name x p) (e :: es) [] pos) σ H Q := by
  obtain ⟨f, fd, ps, ds, F, M, hm, hb, hd⟩ := G.ex
  exact toE (pe_make M F hr hg hm hb hd hx wA hdb he hpl) h
theorem we_make0 (G : KFn X.prog X.w X.K X.mg X.base x C k dvs sp) (hr : Room (k + 1) X.A) (hx : Passes (L2.CX X.prog X.w) X E)
    (h : ∀ x dx, H x = none → H dx = none → dx ≠ x → sp (.ref x :: ([] ++ dvs)) (upd (upd H dx (.own x)) x (.ins C dx [])) (fun v H2 => v = .non ∧ Q (.ref x) H2) E) (hg : Gl X x := by rfl)
    (hdb : (x == ("__debug__" : Str)) = false := by decide) : WE X (.Call (.Name x p) [] [] pos) σ H Q := by
  obtain ⟨f, fd, ps, ds, F, M, hm, hb, hd⟩ := G.ex
  exact toE (pe_make0 M F hr hg hm hb hd hx hdb) h
theorem we_callB {id : String} {r : List V → Hp → VK → Prop} (hc : CallR X (.builtin id) r) (hm : X.mg x = none) (hv : bootBuiltins x = some (.builtin id)) (h : WA X (e :: es) σ H fun vs H1 => r vs H1 Q) (hg : Gl X x := by rfl) (hn : x ≠ "__name__" := by decide) (hdb : (x == ("__debug__" : Str)) = false := by decide)
    (he : starEach (e :: es) X.env = (false, eval e X.env) :: starEach es X.env := by rfl) (hpl : (backTo pos (starEach es X.env)).any (·.1) = false := by rfl) : WE X (.Call (.Name x p) (e :: es) [] pos) σ H Q := toE (pe_callB hc hg hm hv wA hn hdb he hpl) h
theorem we_callTy {T : String} {r : List V → Hp → VK → Prop} (hc : CallR X (.type T) r) (hm : X.mg x = none) (hv : bootBuiltins x = some (.type T)) (h : WA X (e :: es) σ H fun vs H1 => r vs H1 Q) (hg : Gl X x := by rfl) (hn : x ≠ "__name__" := by decide) (hdb : (x == ("__debug__" : Str)) = false := by decide)
    (he : starEach (e :: es) X.env = (false, eval e X.env) :: starEach es X.env := by rfl) (hpl : (backTo pos (starEach es X.env)).any (·.1) = false := by rfl) : WE X (.Call (.Name x p) (e :: es) [] pos) σ H Q := toE (pe_callTy hc hg hm hv wA hn hdb he hpl) h
end
end LG
-- LGB
namespace LG
open PySem PySem.Spec PyProof.Rows L2
/-! ### a measured walk, whatever one turn does -/
theorem meas {n : Nat} {Pv : Nat → Hp → Prop} {Stop : Nat → Hp → Prop} {Turn1 : (Hp → Prop) → Nat → Hp → Prop} (end_ : ∀ H, Pv n H → Stop n H) (one : ∀ i H, i < n → Pv i H → Turn1 (Pv (i + 1)) i H) {H : Hp} (h0 : Pv 0 H) :
    ∃ W : Nat → Nat → Hp → Prop, (∃ m, W 0 m H) ∧ ∀ i m H, W i m H → Stop i H ∨ ∃ Nx : Hp → Prop, (∀ H', Nx H' → ∃ m', m' < m ∧ W (i + 1) m' H') ∧ Turn1 Nx i H := by
  refine ⟨fun i m H => i + m = n ∧ Pv i H, ⟨n, Nat.zero_add n, h0⟩, fun i m H hw => ?_⟩
  cases m with
  | zero => exact .inl ((show i = n from hw.1) ▸ end_ H ((show i = n from hw.1) ▸ hw.2))
  | succ m => exact .inr ⟨Pv (i + 1), fun H' p => ⟨m, Nat.lt_succ_self m, by have := hw.1; omega, p⟩, one i H (by have := hw.1; omega) hw.2⟩
/-! ### the same context one unit deeper -/
abbrev deep1 (X : Cx) : Cx := { X with A := X.A.in1 }
theorem deep1_ok {X : Cx} (k : X.Ok) : (deep1 X).Ok := { k with hd := k.hd, frames := k.frames }
theorem deep1_inv {X : Cx} {pins : List (Addr × Obj)} {σ : L2.St} {H : Hp} {s : Shared} (I : L2.Inv X pins σ H s) : L2.Inv (deep1 X) pins σ H s := { I with ok := deep1_ok I.ok }
theorem deep1_back {X : Cx} {pins : List (Addr × Obj)} {σ : L2.St} {H : Hp} {s : Shared} (k : X.Ok) (I : L2.Inv (deep1 X) pins σ H s) : L2.Inv X pins σ H s := { I with ok := k }
theorem call_deep {X : Cx} {CX : CXT} {k : Nat} {f : Addr} {fd : FuncData} {ps : List Str} {sp : Sp} {dvs vs : List V} {ds us : List Value} {E : XK} {pins : List (Addr × Obj)} {σ : L2.St} {H : Hp} {s : Shared} {Q : VK}
    (F : FnOk X.prog X.w X.K X.mg X.base CX k f fd ps sp) (hr : Room (k + 1) X.A) (hb : Binds X.K fd ps ds) (hd : Vals dvs ds) (hx : Passes CX X E) (I : L2.Inv X pins σ H s) (r : Vals vs us) (h : sp (vs ++ dvs) H Q E) :
    wpAny (model X.prog X.w) X.A.in1 (call (.ref f) us) (EP X pins σ Q) X.xe s :=
  thn (run_fn (X := deep1 X) F hr.in1 hb hd (fun p t G z e z' J c => hx p t G z e z' (deep1_back I.ok J) c) (deep1_inv I) r h) fun _ _ ⟨v, H', J, rv, q⟩ => ⟨v, H', deep1_back I.ok J, rv, q⟩
end LG
-- LGE
namespace LG
open PySem PySem.Spec PyProof.Rows L2
/-- what an iterator at e (its own objects wr, told by Ow) must bring so that a loop over new tuples can walk it: a GoesN at each turn -/
structure Brings (P : Program) (w : World) (K : PySem.W.Frag) (tg : Expr) (J : It) (wr : List Addr) (e : Addr) (Ow : Nat → Heap → Prop) : Prop where
  mem : e ∈ wr
  there : ∀ i h, Ow i h → ∀ b ∈ wr, ∃ o, h.get? b = some o ∧ ∀ v, o.data ≠ .cell v
  keep : ∀ i h h', Ow i h → (∀ b ∈ wr, ∀ o, h.get? b = some o → h'.get? b = some o) → Ow i h'
  self : ∀ (A : Around) (i : Nat) (s : Shared) (Q E : Value → Shared → Prop), Ow i s.heap → Q (.ref e) s → wpAny (model P w) A (pyIter (.ref e)) Q E s
  next : ∀ (X : Cx), X.prog = P → X.w = w → X.K = K → X.calm = true → ∀ (i : Nat) (pins : List (Addr × Obj)) (s : Shared) (σ : L2.St) (H : Hp), L2.Inv X pins σ H s → (∀ b ∈ wr, H b = none) → Ow i s.heap → J.go i H →
    ∃ fp n Y St, GoesN P w X.A tg e fp wr n Y St ∧ i < n ∧ St i s.heap ∧ ∀ v h', Y i s.heap v h' → St (i + 1) h' → Ow (i + 1) h' ∧ ∃ T xs vals, v = .ref T ∧ s.heap.objs.size ≤ T ∧ h'.IsTuple T vals ∧ Vals xs vals.toList ∧ xs.length ≤ sizeLine ∧ J.yld i H (.ref T) (upd H T (.tup xs))
  last : ∀ (X : Cx), X.prog = P → X.w = w → X.K = K → X.calm = true → ∀ (i : Nat) (pins : List (Addr × Obj)) (s : Shared) (σ : L2.St) (H : Hp), L2.Inv X pins σ H s → (∀ b ∈ wr, H b = none) → Ow i s.heap → J.stop i H →
    ∃ fp Y St, GoesN P w X.A tg e fp wr i Y St ∧ St i s.heap
theorem many_turned {X : Cx} {pins : List (Addr × Obj)} {σ : L2.St} {H : Hp} {s : Shared} {h' : Heap} {t' : Nat} {wr : List Addr} (I : L2.Inv X pins σ H s) (k : ∀ b o, b ∉ wr → s.heap.get? b = some o → h'.get? b = some o) (hf : ∀ b ∈ wr, FpOk X pins H b) :
    L2.Inv X pins σ H { s with heap := h', toks := t' } := by
  have tr : ∀ b u, H b = some u → b ∉ wr := fun b u e hb => by
    rw [(hf b hb).1] at e
    cases e
  refine I.call (ch := wr) (g' := s.gens) (d' := s.drawn) ⟨fun b o q _ _ hb => k b o hb q, fun b o q _ _ hb => ⟨o.slots, k b o hb q⟩, fun b o _ n _ => n, fun b o q hb => ⟨o, k b o hb q⟩, fun b xs q => q, fun b o u q => q, fun b ps q => ⟨#[], by simpa using q⟩⟩ (fun a o q => ?_) I.bare (fun b hb => ?_)
  · refine (I.hok a o q).stay (fun b u hb z => k b u ?_ z) (fun _ z => z) fun _ _ z => z
    rcases hb with rfl | hb
    · exact tr _ _ q
    · exact tr _ _ hb
  · obtain ⟨f0, f1, f2, f3, f4, f5⟩ := hf b hb
    exact ⟨f3, f1, f4, f5⟩
theorem Brings.turn {P : Program} {w : World} {K : PySem.W.Frag} {tg : Expr} {J : It} {wr : List Addr} {e : Addr} {Ow : Nat → Heap → Prop} (B : Brings P w K tg J wr e Ow) : Turn P w K tg J wr e Ow where
  mem := B.mem
  obj := B.there
  keep := B.keep
  self := B.self
  item := fun X hP hw hK hc i pins s σ H E I hf st go => by
    obtain ⟨fp, n, Y, St, G, hi, s0, out⟩ := B.next X hP hw hK hc i pins s σ H I (fun b hb => (hf b hb).1) st go
    subst hP hw hK
    have lt : ∀ b ∈ wr, b < s.heap.objs.size := fun b hb => let ⟨_, q, _⟩ := B.there i _ st b hb; Heap.lt_size q
    refine G.goes i s (fun u s2 => ∃ x H', L2.Inv X pins σ H' s2 ∧ RelV x u ∧ J.yld i H x H' ∧ Ow (i + 1) s2.heap ∧ ∀ b ∈ wr, H' b = none) E hi s0 fun v h' tk hy st' hk _ => ?_
    obtain ⟨ow, T, xs, vals, rfl, hT, ht, hv, hz, yl⟩ := out v h' hy st'
    refine ⟨.ref T, upd H T (.tup xs), I.turnedNew (ch := wr) hk hf hT ⟨hz, vals.toList, hv, (show IsTup h' T vals.toList.toArray from (Array.toArray_toList (xs := vals)).symm ▸ ht)⟩, rfl, yl, ow, fun b hb => ?_⟩
    rw [upd_ne (Nat.ne_of_lt (Nat.lt_of_lt_of_le (lt b hb) hT))]
    exact (hf b hb).1
  done := fun X hP hw hK hc i pins s σ H E I hf st stop => by
    obtain ⟨fp, Y, St, G, s0⟩ := B.last X hP hw hK hc i pins s σ H I (fun b hb => (hf b hb).1) st stop
    subst hP hw hK
    exact G.stops s _ E s0 fun h' tk hk _ => many_turned I hk hf
end LG
-- LGN
namespace LG
open PySem PySem.Spec PyProof.Rows L2
/-- what enumerate(v) leaves: the inner iterator o at p, the enumerate behind it -/
structure EnumMade (h h' : Heap) (o : Obj) : Prop where
  en : IsEnum h' (h.objs.size + 1) h.objs.size 0 .none
  inner : h'.get? h.objs.size = some o
  old : ∀ b q, h.get? b = some q → h'.get? b = some q
theorem enumMade (h : Heap) {o : Obj} (ho : o.isFreed = false) : EnumMade h ((h.push o).push { cls := .type "enumerate", data := .fields #[.none, .bool false, .ref h.objs.size, rawInt 0, .none, .none] }) o where
  en := by
    have z := Heap.get?_push_size (h.push o) (o := { cls := .type "enumerate", data := .fields #[.none, .bool false, .ref h.objs.size, rawInt 0, .none, .none] }) rfl
    rwa [Heap.size_push] at z
  inner := Heap.get?_push_of_some _ (Heap.get?_push_size _ ho)
  old := fun _ _ z => Heap.get?_push_of_some _ (Heap.get?_push_of_some _ z)
set_option maxHeartbeats 1000000 in
theorem enum_one {v : Value} {o : Obj} {G : Heap → Prop} (B : Begins v o G) : Meets (Builtin.«enumerate.__new__» ⟨[.type "enumerate", v], []⟩) (fun _ R s => G s.heap ∧ ∀ h', EnumMade s.heap h' o → R (.ok (.ret (.ref (s.heap.objs.size + 1)))) { s with heap := h' }) := by
  refine .of_wp fun prog w A R s ⟨hG, k⟩ => ?_
  have fin := k _ (enumMade s.heap B.free)
  obtain ⟨hp, g, d, tk, os⟩ := s
  rw [← Heap.size_push hp o] at fin
  have sub := sub_enumerate
  have it : ∀ {A' : Around} {E Q : Value → Shared → Prop}, Q (.ref hp.objs.size) ⟨hp.push o, g, d, tk, os⟩ → wpAny (model prog w) A' (pyIter v) Q E ⟨hp, g, d, tk, os⟩ := fun z => B.iter prog w _ _ ⟨hp, g, d, tk, os⟩ _ hG z
  wp_walk using it
  refine wpAny_stack_any fun st => wpAny_pure ?_
  repeat' split
  all_goals first
    | (wp_walk using it; exact ⟨_, rfl, fin⟩)
    | (rename_i c _ _ _ _ _; cases (c == Value.type "enumerate") <;> (wp_walk using it; exact ⟨_, rfl, fin⟩))
theorem call_enum1 {prog : Program} {w : World} {A : Around} {E : Value → Shared → Prop} {s : Shared} {v : Value} {o : Obj} {G : Heap → Prop} {Q : Value → Shared → Prop} (B : Begins v o G) (hG : G s.heap) (k : ∀ h', EnumMade s.heap h' o → Q (.ref (s.heap.objs.size + 1)) { s with heap := h' }) : wpAny (model prog w) A (call (.type "enumerate") [v]) Q E s :=
  callType_new F.called_enumerate (by decide) (F.typeCall_enumerate_1 _) (F.newCall_enumerate_1 _) (fun obj => F.args_object_init_2 obj _) F.entry_enumerate_new (enum_one B) ⟨hG, fun h' m => ⟨⟨_, m.en, rfl⟩, k h' m⟩⟩
/-! ### for i, x in enumerate(t), t a tuple -/
def Tup2 (K : PySem.W.Frag) (a : Addr) : It where
  go i H := ∃ (xs : List V) (x : V), SqT K H a xs ∧ xs[i]? = some x
  yld i H v H' := ∃ T x, v = .ref T ∧ H T = none ∧ H' = upd H T (.tup [.int (i : Nat), x]) ∧ ∀ xs, SqT K H a xs → xs[i]? = some x
  stop i H := ∃ xs : List V, SqT K H a xs ∧ xs.length = i
theorem brings_enum {P : Program} {w : World} {K : PySem.W.Frag} {elts : List Expr} {kk : Nat} {tpos : Pos} (a e it : Addr) (h1 : e ≠ it) (h2 : a ≠ it) (h3 : e ≠ a) :
    Brings P w K (.Tuple elts kk tpos) (Tup2 K a) [e, it] e (fun i h => (∃ old, IsEnum h e it (0 + (i : Int)) old) ∧ h.IsTupleIter it a i) where
  mem := List.mem_cons_self
  there i h st b hb := by
    obtain ⟨⟨_, q⟩, o, ho, _, hd⟩ := st
    rcases List.mem_cons.mp hb with rfl | hb
    · exact ⟨_, q, fun _ z => nomatch z⟩
    · rw [List.mem_singleton.mp hb]
      exact ⟨o, ho, fun _ z => by rw [hd] at z; cases z⟩
  keep i h h' st k := ⟨st.1.imp fun _ q => k e (by simp) _ q, st.2.at fun o q => k it (by simp) o q⟩
  self A i s Q E st q := st.1.elim fun _ z => wpAny_pyIter_enum z q
  next X hP hw hK hc i pins s σ H I hn st go := by
    subst hP hw hK
    obtain ⟨xs, x, hq, hx⟩ := go
    obtain ⟨its, rv, p, hz⟩ := I.tuple hq
    obtain ⟨u, hu, ru⟩ := rv.get hx
    have D : Draws X.prog X.w X.A.in1 it [it, a] its.toArray.size _ _ := Draws.tuple (A := X.A.in1) (I.ok.hd hc) it a h2 its.toArray
    refine ⟨_, _, _, _, GoesN.enumFrom 0 D e h1 (by simp [h1, h3]) (by simp), ?_, ⟨st.1, st.2, p⟩, fun v h' y st' => ⟨⟨st'.1, st'.2.1⟩, ?_⟩⟩
    · have := (List.getElem?_eq_some_iff.mp hu).1
      simpa using this
    · obtain ⟨T, t, z, rfl, hT, hzz, ht⟩ := y
      have ez : z = u := Option.some.inj (hzz.symm.trans (by simpa using hu))
      subst ez
      exact ⟨T, [.int (i : Nat), x], _, rfl, hT, ht, .cons ⟨t, by simp⟩ (.cons ru .nil), by show 2 ≤ sizeLine; decide, T, x, rfl, I.hok.fresh hT, rfl, fun ys hy => I.tuple_inj hy hq ▸ hx⟩
  last X hP hw hK hc i pins s σ H I hn st stop := by
    subst hP hw hK
    obtain ⟨xs, hq, hx⟩ := stop
    obtain ⟨its, rv, p, hz⟩ := I.tuple hq
    have e1 : its.toArray.size = i := by rw [List.size_toArray, ← rv.length, hx]
    have D : Draws X.prog X.w X.A.in1 it [it, a] its.toArray.size _ _ := Draws.tuple (A := X.A.in1) (I.ok.hd hc) it a h2 its.toArray
    exact ⟨_, _, _, e1 ▸ GoesN.enumFrom 0 D e h1 (by simp [h1, h3]) (by simp), st.1, st.2, p⟩
theorem wi_enumT {X : Cx} {σ : L2.St} {H : Hp} {R : It → Hp → Prop} {a : Expr} {p pos tpos : Pos} {elts : List Expr} {kk : Nat} (hm : X.mg "enumerate" = none) (h : WE X a σ H fun v H1 => ∃ d xs, v = .ref d ∧ SqT X.K H1 d xs ∧ ∀ J, Walk J xs.length (fun H => SqT X.K H d xs) (YPair (fun i => some (.int (i : Nat))) (fun i => xs[i]?)) → R J H1)
    (hg : Gl X "enumerate" := by rfl) (hs : starEach [a] X.env = [(false, eval a X.env)] := by rfl) (hs' : starEach (a :: []) X.env = (false, eval a X.env) :: starEach [] X.env := by rfl) : WI X (.Tuple elts kk tpos) (.Call (.Name "enumerate" p) [a] [] pos) σ H R := by
  intro pins s I
  have args : WA X [a] σ H fun vs H1 => ∃ d xs, vs = [.ref d] ∧ SqT X.K H1 d xs ∧ R (Tup2 X.K d) H1 := wa_cons (h.mono fun v H1 ⟨d, xs, ev, q, r⟩ => wa_nil ⟨d, xs, by rw [ev], q, r _
    ⟨fun i H hi q => ⟨xs, xs[i], q, by simp [hi]⟩, fun H q => ⟨xs, q, rfl⟩, fun i H v H' _ q ⟨T, x, z1, z2, z3, z4⟩ => ⟨T, _, x, z1, z2, z3, rfl, z4 xs q⟩⟩⟩) hs'
  refine Call_ (ld_blt I hg hm boot_enumerate (PyProof.Rows.callWith_type1 (thn (args pos pins s I) fun us s1 ⟨vs, H1, I1, r1, d, xs, ev, hq, q⟩ => ?_) hs rfl))
  subst ev
  obtain ⟨u, rfl, ru⟩ := vals1 r1
  obtain rfl : u = .ref d := ru
  obtain ⟨its, rv, pt, hz⟩ := I1.tuple hq
  have dl : d < s1.heap.objs.size := let ⟨_, z, _⟩ := pt; Heap.lt_size z
  refine call_enum1 (begins_tuple d its.toArray) pt fun h' m => wpAny_pyIter_enum m.en ?_
  refine ⟨s1.heap.objs.size + 1, [s1.heap.objs.size + 1, s1.heap.objs.size], _, _, H1, rfl, I1.kept (t' := s1.toks) m.old, (brings_enum d _ _ (by simp) (Nat.ne_of_lt dl) (Nat.ne_of_gt (Nat.lt_succ_of_lt dl))).turn, ⟨⟨.none, by simpa using m.en⟩, _, m.inner, rfl, rfl⟩, fun b hb => ?_, q⟩
  have hle : s1.heap.objs.size ≤ b := by
    rcases List.mem_cons.mp hb with rfl | hb
    · exact Nat.le_succ _
    · exact Nat.le_of_eq (List.mem_singleton.mp hb).symm
  exact I1.fpOk hle (I1.hok.fresh hle)
end LG
-- LGC
namespace LG
open PySem PySem.Spec PyProof.Rows L2
/-! ### comprehensions: the element, the test in every context of the block -/
def BE (X : Cx) (scope : Scope) (e : Expr) : TE := fun σ H Q => ∀ (s : Shared) (H0 : Hp) (C : Addr) (cl : List (Str × Addr)) (fp : List Addr), WE (X.blk s H0 scope (compEnvC scope cl C X.env) fp) e σ H Q
def BT (X : Cx) (scope : Scope) (e : Expr) : TT := fun σ H Q => ∀ (s : Shared) (H0 : Hp) (C : Addr) (cl : List (Str × Addr)) (fp : List Addr), WT (X.blk s H0 scope (compEnvC scope cl C X.env) fp) e σ H Q
abbrev BG (X : Cx) (scope : Scope) (tg : Expr) (g : TG) : Prop := ∀ (s : Shared) (H : Hp) (C : Addr) (cl : List (Str × Addr)) (fp : List Addr), PG (X.blk s H scope (compEnvC scope cl C X.env) fp) tg g
/-- a comprehension's walk: Pv by the turn, one turn brings Pv on -/
def Cp (J : It) (H : Hp) (one : (Hp → Prop) → V → Hp → Prop) (fin : Hp → Prop) : Prop := ∃ n G Y, Walk J n G Y ∧ ∃ Pv : Nat → Hp → Prop, Pv 0 H ∧ (∀ i H, i ≤ n → Pv i H → G H) ∧ (∀ i x H H', i < n → Pv i H → Y i H x H' → one (Pv (i + 1)) x H') ∧ ∀ H, Pv n H → fin H
theorem Cp.walk {J : It} {H : Hp} {one : (Hp → Prop) → V → Hp → Prop} {fin : Hp → Prop} (c : Cp J H one fin) :
    ∃ W : Nat → Nat → Hp → Prop, (∃ m, W 0 m H) ∧ ∀ i m H, W i m H → (J.stop i H ∧ fin H) ∨ (J.go i H ∧ ∃ Nx : Hp → Prop, (∀ H', Nx H' → ∃ m', m' < m ∧ W (i + 1) m' H') ∧ ∀ x H', J.yld i H x H' → one Nx x H') := by
  obtain ⟨n, G, Y, w, Pv, h0, hG, hs, hd⟩ := c
  obtain ⟨W, w0, wt⟩ := meas (Stop := fun i H => J.stop i H ∧ fin H) (Turn1 := fun Nx i H => J.go i H ∧ ∀ x H', J.yld i H x H' → one Nx x H') (fun H p => ⟨w.stops H (hG n H (Nat.le_refl n) p), hd H p⟩)
    (fun i H hi p => ⟨w.goes i H hi (hG i H (Nat.le_of_lt hi) p), fun x H' y => hs i x H H' hi p (w.yields i H x H' hi (hG i H (Nat.le_of_lt hi) p) y)⟩) h0
  exact ⟨W, w0, fun i m H q => (wt i m H q).imp id fun ⟨Nx, k, go, st⟩ => ⟨go, Nx, k, st⟩⟩
section
variable {X : Cx} {kx vx elt tg iter c : Expr} {scope : Scope} {own : List (Str × Nat)} {pos : Pos} {g : TG} {σ : L2.St} {H : Hp} {Q : VK}
theorem bE {s : Shared} {H0 : Hp} {C : Addr} {cl : List (Str × Addr)} {fp : List Addr} : PE (X.blk s H0 scope (compEnvC scope cl C X.env) fp) elt (BE X scope elt) := ⟨fun pins s' _ _ _ I h => h s H0 C cl fp pins s' I⟩
theorem bT {s : Shared} {H0 : Hp} {C : Addr} {cl : List (Str × Addr)} {fp : List Addr} : PT (X.blk s H0 scope (compEnvC scope cl C X.env) fp) elt (BT X scope elt) := ⟨fun pins s' _ _ _ I h => h s H0 C cl fp pins s' I⟩
/-- the pair goes into the dict at D, then Nx -/
abbrev dPut (D : Addr) (Nx : Hp → Prop) (y z : V) (H : Hp) : Prop := ∃ kvs k, y = kV k ∧ H D = some (.dK kvs) ∧ kvs.length < sizeLine ∧ Nx (upd H D (.dK (putK kvs k z)))
abbrev lPut (D : Addr) (Nx : Hp → Prop) (y : V) (H : Hp) : Prop := ∃ acc, H D = some (.lst acc) ∧ acc.length < sizeLine ∧ Nx (upd H D (.lst (acc ++ [y])))
/-- {k: v for tg in iter} -/
theorem we_dc (hN : X.N.Nodup) (ok : BlkOk X.N X.env.scope scope own) (hg : BG X scope tg g)
    (h : WI X tg iter σ H fun J H1 => ∀ D, H1 D = none → Cp J (upd H1 D (.dK [])) (fun Nx x H' => g x (wipe σ (own.map (·.2))) H' fun σ2 H2 => wipe σ2 (own.map (·.2)) = wipe σ (own.map (·.2)) ∧ BE X scope kx σ2 H2 fun y H4 => BE X scope vx σ2 H4 fun z H5 => dPut D Nx y z H5) (fun H => Q (.ref D) H))
    (hc : X.calm = true := by rfl) (hs : ∀ x, foldedSetIterable iter X.env x = pure x := by intro _; rfl) : WE X (.DictComp kx vx [⟨tg, iter, [], 0⟩] scope pos) σ H Q :=
  toE (pe_dc (tt := tYes) hc hN wI ok hg (fun _ _ _ _ _ => pts_nil) (fun _ _ _ _ _ => bE) (fun _ _ _ _ _ => bE) hs) (WI.mono h fun _ _ hJ D hn => (hJ D hn).walk)
/-- {k: v for tg in iter if c} -/
theorem we_dcIf (hN : X.N.Nodup) (ok : BlkOk X.N X.env.scope scope own) (hg : BG X scope tg g)
    (h : WI X tg iter σ H fun J H1 => ∀ D, H1 D = none → Cp J (upd H1 D (.dK [])) (fun Nx x H' => g x (wipe σ (own.map (·.2))) H' fun σ2 H2 => wipe σ2 (own.map (·.2)) = wipe σ (own.map (·.2)) ∧ BT X scope c σ2 H2 fun b H3 => if b = true then BE X scope kx σ2 H3 fun y H4 => BE X scope vx σ2 H4 fun z H5 => dPut D Nx y z H5 else Nx H3) (fun H => Q (.ref D) H))
    (hc : X.calm = true := by rfl) (hs : ∀ x, foldedSetIterable iter X.env x = pure x := by intro _; rfl) : WE X (.DictComp kx vx [⟨tg, iter, [c], 0⟩] scope pos) σ H Q :=
  toE (pe_dc hc hN wI ok hg (fun _ _ _ _ _ => pts_one bT) (fun _ _ _ _ _ => bE) (fun _ _ _ _ _ => bE) hs) (WI.mono h fun _ _ hJ D hn => (hJ D hn).walk)
/-- [elt for tg in iter] -/
theorem we_lc (hN : X.N.Nodup) (ok : BlkOk X.N X.env.scope scope own) (hg : BG X scope tg g)
    (h : WI X tg iter σ H fun J H1 => ∀ D, H1 D = none → Cp J (upd H1 D (.lst [])) (fun Nx x H' => g x (wipe σ (own.map (·.2))) H' fun σ2 H2 => wipe σ2 (own.map (·.2)) = wipe σ (own.map (·.2)) ∧ BE X scope elt σ2 H2 fun y H4 => lPut D Nx y H4) (fun H => Q (.ref D) H))
    (hc : X.calm = true := by rfl) (hs : ∀ x, foldedSetIterable iter X.env x = pure x := by intro _; rfl) : WE X (.ListComp elt [⟨tg, iter, [], 0⟩] scope pos) σ H Q :=
  toE (pe_lc (tt := tYes) hc hN wI ok hg (fun _ _ _ _ _ => pts_nil) (fun _ _ _ _ _ => bE) hs) (WI.mono h fun _ _ hJ D hn => (hJ D hn).walk)
/-- name = [elt for tg in iter] -/
theorem ws_setLc {i : Nat} {y : Str} {py spos : Pos} {D : Ends} (hN : X.N.Nodup) (hy : X.N[i]? = some y) (hyl : X.env.scope.names.lookup y = some .local) (hsw : swapsWith (.ListComp elt [⟨tg, iter, [], 0⟩] scope pos) (some (.Name y py)) spos.line X.env = pure true) (ok : BlkOk X.N X.env.scope scope own) (hg : BG X scope tg g)
    (h : WI X tg iter σ H fun J H1 => ∀ Dl, H1 Dl = none → Cp J (upd H1 Dl (.lst [])) (fun Nx x H' => g x (wipe σ (own.map (·.2))) H' fun σ2 H2 => wipe σ2 (own.map (·.2)) = wipe σ (own.map (·.2)) ∧ BE X scope elt σ2 H2 fun y H4 => lPut Dl Nx y H4) (fun H => D.nx (σ.set i (some (.ref Dl))) H))
    (hc : X.calm = true := by rfl) (hs : ∀ x, foldedSetIterable iter X.env x = pure x := by intro _; rfl) : WS X (.Assign [.Name y py] (.ListComp elt [⟨tg, iter, [], 0⟩] scope pos) spos) D σ H :=
  toS (ps_setLc (tt := tYes) hc hN hy hyl hsw wI ok hg (fun _ _ _ _ _ => pts_nil) (fun _ _ _ _ _ => bE) hs) (WI.mono h fun _ _ hJ D hn => (hJ D hn).walk)
end
end LG
-- LGO
namespace LG
open PySem PySem.Spec PyProof.Rows L2
/-- a value of ours is never NotImplemented -/
theorem backV {v : V} {u : Value} {Q : Value → Shared → Prop} {s' : Shared} (r : RelV v u) (q : Q u s') : PySem.W.CmpBack Q u s' := by
  cases u with
  | notImplemented =>
    cases v <;> first | exact nomatch r | (obtain ⟨_, z⟩ := r; exact nomatch z)
  | _ => exact q
/-- the instance behind a tracked address, as OpenK asks it -/
theorem instOf {X : Cx} {pins : List (Addr × Obj)} {σ : L2.St} {H : Hp} {s : Shared} {a C dx : Addr} {fs : List (Str × V)} (I : L2.Inv X pins σ H s) (e : H a = some (.ins C dx fs)) : ∃ od, PySem.W.InstAt s.heap a (PySem.W.instObj C dx) C (some od) :=
  let ⟨_, O, _⟩ := ins_get I.hok e
  let ⟨od, J, _⟩ := O.look
  ⟨od, J⟩
section
variable {X : Cx} {C : Addr} {k : Nat} {sp : Sp} {E : XK} {σ : L2.St} {H : Hp} {Q : VK}
/-- len(o), the class's own __len__ -/
theorem call_lenO (G : MFn X.prog X.w X.K X.mg X.base C "__len__" k [] sp) (hr : Room (k + 1) X.A) (hx : Passes (L2.CX X.prog X.w) X E) :
    CallR X (.builtin "len") (fun xs H Q => ∃ a dx fs, xs = [.ref a] ∧ H a = some (.ins C dx fs) ∧ sp [.ref a] H (fun v H' => ∃ n : Int, v = .int n ∧ 0 ≤ n ∧ n < 2 ^ 63 ∧ Q (.int n) H') E) := by
  rintro pins s σ H _ us Q I r ⟨a, dx, fs, rfl, ea, q⟩
  obtain ⟨u, rfl, ru⟩ := vals1 r
  obtain rfl : u = .ref a := ru
  obtain ⟨f, fd, ps, ds, F, hm, hb, hd⟩ := G.ex
  obtain ⟨od, J⟩ := instOf I ea
  obtain ⟨m, fr⟩ := I.fr
  refine PySem.W.len_K fr I.ok.mod.kin J hm.1 hm.2 (thn (call_deep (vs := [.ref a]) F hr hb hd hx I (.cons rfl .nil) q) ?_)
  rintro u s' ⟨z, H', I', rz, n, ez, h0, h1, q'⟩
  subst ez
  obtain ⟨t, rfl⟩ := rz
  exact ⟨⟨h0, h1⟩, .int n, H', I'.tok _, ⟨_, rfl⟩, q'⟩
/-- x in o, the class's own __contains__ -/
theorem op_inO (G : MFn X.prog X.w X.K X.mg X.base C "__contains__" k [] sp) (hr : Room k X.A) (hx : Passes (L2.CX X.prog X.w) X E) :
    OpR X (compareOp .In) (fun x y H Q => ∃ a dx fs, y = .ref a ∧ H a = some (.ins C dx fs) ∧ sp [.ref a, x] H (fun v H' => ∃ b, v = .bl b ∧ Q (.bl b) H') E) := by
  rintro pins s σ H x _ v u Q I rx ry ⟨a, dx, fs, rfl, ea, q⟩
  obtain rfl : u = .ref a := ry
  obtain ⟨f, fd, ps, ds, F, hm, hb, hd⟩ := G.ex
  obtain ⟨od, J⟩ := instOf I ea
  obtain ⟨m, fr⟩ := I.fr
  refine PySem.W.in_K fr I.ok.mod.kin J hm.1 hm.2 (thn (run_fn (vs := [.ref a, x]) F hr hb hd hx I (.cons rfl (.cons rx .nil)) q) ?_)
  rintro u s' ⟨z, H', I', rz, b, ez, q'⟩
  subst ez
  obtain rfl : u = .bool b := rz
  exact wpAny_truthy_bool ⟨.bl b, H', I', rfl, q'⟩
/-- o == p, both of the class, its own __eq__ -/
theorem op_eqO (G : MFn X.prog X.w X.K X.mg X.base C "__eq__" k [] sp) (hr : Room k X.A) (hx : Passes (L2.CX X.prog X.w) X E) :
    OpR X (compareOp .Eq) (fun x y H Q => ∃ a dx fs b dy gs, x = .ref a ∧ y = .ref b ∧ H a = some (.ins C dx fs) ∧ H b = some (.ins C dy gs) ∧ sp [.ref a, .ref b] H Q E) := by
  rintro pins s σ H _ _ v u Q I rx ry ⟨a, dx, fs, b, dy, gs, rfl, rfl, ea, eb, q⟩
  obtain rfl : v = .ref a := rx
  obtain rfl : u = .ref b := ry
  obtain ⟨f, fd, ps, ds, F, hm, hb, hd⟩ := G.ex
  obtain ⟨od, J⟩ := instOf I ea
  obtain ⟨od', J'⟩ := instOf I eb
  obtain ⟨m, fr⟩ := I.fr
  refine PySem.W.cmp_K (op := .Eq) (tb := .ref C) hr.units0 fr I.ok.mod.kin J J'.type (by simp [PySem.W.notFirst]) hm.1 hm.2 (thn (run_fn (vs := [.ref a, .ref b]) F hr hb hd hx I (.cons rfl (.cons rfl .nil)) q) ?_)
  rintro _ s' ⟨z, H', I', rv, q'⟩
  exact backV rv ⟨z, H', I', rv, q'⟩
/-- o[i], the class's own __getitem__ -/
theorem we_subO {a b : Expr} {pos : Pos} (G : MFn X.prog X.w X.K X.mg X.base C "__getitem__" k [] sp) (hk : ∀ f, PySem.W.findIn X.K (.ref C) "__getitem__" = some (some (.ref f)) → PySem.W.fnIn X.K f = true) (hr : Room (k + 1) X.A) (hx : Passes (L2.CX X.prog X.w) X E)
    (h : WE X a σ H fun x H1 => WE X b σ H1 fun y H2 => ∃ p dx fs, x = .ref p ∧ H2 p = some (.ins C dx fs) ∧ sp [.ref p, y] H2 Q E)
    (hsl : ∀ x i, subscripted b true (.ref x) i = runValue (.builtin "lifetime.subscript" ⟨[.ref x, i], []⟩) := by intro _ _; with_unfolding_all rfl) : WE X (.Subscript a b pos) σ H Q := by
  intro pins s I
  refine Subscript_ (thn (h pins s I) fun v s1 ⟨x, H1, I1, rx, h1⟩ => thn (h1 pins s1 I1) fun u s2 ⟨y, H2, I2, ry, p, dx, fs, ex, ea, q⟩ => ?_)
  subst ex
  obtain rfl : v = .ref p := rx
  obtain ⟨f, fd, ps, ds, F, hm, hb, hd⟩ := G.ex
  obtain ⟨od, J⟩ := instOf I2 ea
  obtain ⟨m, fr⟩ := I2.fr
  exact PySem.W.sub_K fr I2.ok.mod.kin J hm.1 (hk f hm.1) hm.2 (call_deep (vs := [.ref p, y]) F hr hb hd hx I2 (.cons rfl (.cons ry .nil)) q) (hsl p u)
/-- o[i] = v, the class's own __setitem__ -/
theorem set_own (G : MFn X.prog X.w X.K X.mg X.base C "__setitem__" k [] sp) (hn : PySem.W.noSeq X.K C = true) (hr : Room k X.A) (hx : Passes (L2.CX X.prog X.w) X E) :
    PSet X (fun o i v H R => ∃ a dx fs, o = .ref a ∧ H a = some (.ins C dx fs) ∧ sp [.ref a, i, v] H (fun _ H' => R H') E) := by
  rintro pins s σ H _ i v ov iv u R I ro ri rv ⟨a, dx, fs, rfl, ea, q⟩
  obtain rfl : ov = .ref a := ro
  obtain ⟨f, fd, ps, ds, F, hm, hb, hd⟩ := G.ex
  obtain ⟨od, J⟩ := instOf I ea
  obtain ⟨m, fr⟩ := I.fr
  exact PySem.W.ksp_setItem fr I.ok.mod.kin J hn hm.1 hm.2 (thn (run_fn (vs := [.ref a, i, v]) F hr hb hd hx I (.cons rfl (.cons ri (.cons rv .nil))) q) fun _ _ ⟨_, H', I', _, q'⟩ => ⟨H', I', q'⟩)
/-- properties: read -/
structure PrFn (P : Program) (w : World) (K : PySem.W.Frag) (mg : Str → Option Value) (base : Heap) (C : Addr) (m : Str) (k : Nat) (sp : Sp) : Prop where
  cl : Cls K C
  ex : ∃ (p g : Addr) (fd : FuncData) (ps : List Str), FnOk P w K mg base (L2.CX P w) k g fd ps sp ∧ PropOf K C m p g ∧ Binds K fd ps []
theorem we_prop {e : Expr} {m : Str} {pos : Pos} (G : PrFn X.prog X.w X.K X.mg X.base C m k sp) (hr : Room (k + 1) X.A) (h : WE X e σ H fun x H1 => ∃ a dx fs, x = .ref a ∧ H1 a = some (.ins C dx fs) ∧ sp [.ref a] H1 Q E0)
    (hab : attributeBase e m X.env (eval e X.env) = eval e X.env := by rfl) : WE X (.Attribute e m pos) σ H Q :=
  let ⟨_, _, _, _, F, hp, hb⟩ := G.ex
  toE (pe_prop wE G.cl hp F hr hb .nil (passL (X := X.nox)) hab) h
end
end LG
-- LGP
namespace LG
open PySem PySem.Spec PyProof.Rows L2
open PySem.W (Looks looks_clsIn looks_findIn)
section
variable {X : Cx} {C : Addr} {k : Nat} {sp : Sp} {E : XK} {σ : L2.St} {H : Hp} {Q : VK}
theorem inplace_own {M : Model} {K : PySem.W.Frag} {h : Heap} {nm : String} {add : Bool} {f : Addr} (Z : K.In h) (hc : PySem.W.selfFirst K C = true) (hs : PySem.W.findIn K (.ref C) (dunderI nm) = some (some (.ref f))) : Looks M h (fillsInplaceSlot (.ref C) nm add) true := by
  obtain ⟨cd, rest, hcd, hm⟩ := PySem.W.ksp_first hc
  have mro : Looks M h (mroOf (.ref C)) (.ref C :: rest) := (looks_clsIn Z hcd).andThen (hm ▸ Looks.now)
  unfold fillsInplaceSlot
  refine mro.andThen ?_
  rw [List.anyM_cons]
  have one := looks_findIn (M := M) Z hs
  exact Looks.andThen (a := true) (Looks.andThen (a := some (.ref f)) one (Looks.of_pure rfl)) (Looks.of_pure rfl)
/-- o op= y, the class's own in-place method -/
theorem ip_own {op : Operator} (G : MFn X.prog X.w X.K X.mg X.base C (dunderI op.info.2) k [] sp) (hc : PySem.W.selfFirst X.K C = true) (hr : Room k X.A) (hx : Passes (L2.CX X.prog X.w) X E) :
    PIp X op (fun x y H Q => ∃ a dx fs, x = .ref a ∧ H a = some (.ins C dx fs) ∧ sp [.ref a, y] H Q E) := by
  rintro pins s σ H _ y v u Q I rx ry ⟨a, dx, fs, rfl, ea, q⟩
  obtain rfl : v = .ref a := rx
  obtain ⟨f, fd, ps, ds, F, hm, hb, hd⟩ := G.ex
  obtain ⟨od, J⟩ := instOf I ea
  have run := PySem.W.ksp_try (Q := EP X pins σ Q) I.kIn J hm.1 hm.2 (thn (run_fn (vs := [.ref a, y]) F hr hb hd hx I (.cons rfl (.cons ry .nil)) q) fun _ _ ⟨z, H', I', rv, q'⟩ => backV rv ⟨z, H', I', rv, q'⟩)
  unfold inplaceOp
  refine wpAny_holding (wpAny_bind (J.type.here (wpAny_bind ((inplace_own I.kIn hc hm.1).here ?_))))
  rw [if_pos rfl]
  refine wpAny_bind (thn run ?_)
  rintro _ s' ⟨v, rfl, hq⟩
  exact wpAny_bind (wpAny_rule (wpAny_pure hq))
/-- a property's setter -/
structure PsFn (P : Program) (w : World) (K : PySem.W.Frag) (mg : Str → Option Value) (base : Heap) (C : Addr) (m : Str) (k : Nat) (sp : Sp) : Prop where
  cl : Cls K C
  ex : ∃ (p g : Addr) (a : Value) (rest : List Value) (fd : FuncData) (ps : List Str), FnOk P w K mg base (L2.CX P w) k g fd ps sp ∧ PySem.W.takerIn K C m = some (some (.ref p)) ∧ PySem.W.typeIn K (.ref p) = some (.type "property") ∧ PySem.W.recIn K p "property" = some (a :: .ref g :: rest) ∧ Binds K fd ps []
/-- a def run as code, in a context: what comes back, what is let out -/
theorem as_code {X : Cx} {f : Addr} {fd : FuncData} {ps : List Str} {vs : List V} {us : List Value} {pins : List (Addr × Obj)} {s : Shared} (F : FnOk X.prog X.w X.K X.mg X.base (L2.CX X.prog X.w) k f fd ps sp) (hr : Room k X.A) (hb : Binds X.K fd ps []) (hx : Passes (L2.CX X.prog X.w) X E) (I : L2.Inv X pins σ H s) (r : Vals vs us) (h : sp vs H Q E)
    {R : Result → Shared → Prop} (hret : ∀ u s', EP X pins σ Q u s' → R (.ok (.ret u)) s') (herr : ∀ e s', X.xe e s' → R (.error e) s') : codeAny (model X.prog X.w) X.A (.call (.ref f) ⟨us, []⟩) R s := by
  have len : (us ++ []).length = ps.length := by rw [List.append_nil, ← r.length, F.len _ _ _ _ h]
  have bd := hb s us I.kIn len
  rw [List.append_nil] at bd
  refine codeAny_mono (F.run X.A X.stack s H _ us vs Q E hr I.env0 bd r h) fun res s' c => ?_
  match res, c with
  | .error e, c => exact herr e s' (hx pins σ H s e s' I c)
  | .ok (.ret u), c => exact hret u s' (I.after c)
theorem ws_pset {o value : Expr} {m : Str} {pos pos' : Pos} {D : Ends} (G : PsFn X.prog X.w X.K X.mg X.base C m k sp) (hr : Room (k + 2) X.A) (hx : Passes (L2.CX X.prog X.w) X E)
    (h : WE X value σ H fun y H1 => WE X o σ H1 fun x H2 => ∃ a dx fs, x = .ref a ∧ H2 a = some (.ins C dx fs) ∧ sp [.ref a, y] H2 (fun _ H' => D.nx σ H') E) (hs : swapsWith value (some (.Attribute o m pos')) pos.line X.env = pure false := by rfl) : WS X (.Assign [.Attribute o m pos'] value pos) D σ H := by
  intro pins s I
  refine plainObj_wpAny_Assign_Attribute (thn (h pins s I) fun u s1 ⟨y, H1, I1, ry, h1⟩ => thn (h1 pins s1 I1) fun ov s2 ⟨x, H2, I2, rx, a, dx, fs, ex, ea, q⟩ => ?_) hs
  subst ex
  obtain rfl : ov = .ref a := rx
  obtain ⟨p, g, av, rest, fd, ps, F, ht, hT, hrec, hb⟩ := G.ex
  obtain ⟨od, J⟩ := instOf I2 ea
  have I3 : L2.Inv (deep1 (deep1 X)) pins σ H2 { s2 with toks := s2.toks + 1 } := deep1_inv (deep1_inv (I2.tok _))
  refine PySem.W.set_plain I2.kIn J G.cl.4 (PySem.W.osa_descr (s := { s2 with toks := s2.toks + 1 }) PySem.W.KF.slot_pset I2.kIn J G.cl.3 ht hT (PySem.W.prop_set (s := { s2 with toks := s2.toks + 1 }) I2.kIn hrec ?_))
  refine as_code (X := deep1 (deep1 X)) (vs := [.ref a, y]) (us := [.ref a, u]) F hr.in1.in1 hb (fun pn t T z e z' JJ c => hx pn t T z e z' (deep1_back I2.ok (deep1_back (deep1_ok I2.ok) JJ)) c) I3 (.cons rfl (.cons ry .nil)) q ?_ fun _ _ z => z
  rintro u' s' ⟨v, H', I', _, q'⟩
  exact ⟨σ, H', deep1_back I2.ok (deep1_back (deep1_ok I2.ok) I'), q'⟩
end
end LG
-- LGM
namespace LG
open PySem PySem.Spec PyProof.Rows L2
section
variable {prog : Program} {w : World} {K : Type} [DecidableEq K] {knd : KeyKind prog w K}
/-- the keys stay apart when one is stored -/
theorem stored_nd {kvs : List (K × Value)} (k : K) (v : Value) (h : (kvs.map (·.1)).Nodup) : ((stored kvs k v).map (·.1)).Nodup := by
  rw [keys_stored]
  split
  · exact h
  · rename_i hn
    exact List.nodup_append.mpr ⟨h, List.nodup_cons.mpr ⟨List.not_mem_nil, List.nodup_nil⟩, fun x hx y hy => by rw [List.mem_singleton.mp hy]; exact fun z => hn (z ▸ hx)⟩
variable {A : Around} {E : Value → Shared → Prop} {s : Shared}
theorem dictPut_by {d : Addr} {kvs : List (K × Value)} {k : K} {key v : Value} {Q : Unit → Shared → Prop} (hk : knd.is k key = true) (hm : s.heap.DictOf knd d kvs) (hz : kvs.length ≤ sizeLine)
    (q : ∀ h', h'.DictOf knd d (stored kvs k v) → Heap.SameBut d s.heap h' → Q () { s with heap := h' }) : wpAny (model prog w) A (dictPut d (knd.hash k) key v) Q E s := by
  obtain ⟨o, es, ep, ho, hx, hd, hks, hp, nd⟩ := hm
  have nd' := stored_nd k v nd
  have find := hp.findIdx k
  unfold dictPut
  refine wpAny_bind (wpAny_dictFind_of hk ho hd hks ?_)
  rw [show (es.findIdx? fun e => knd.is k e.key) = es.toList.findIdx? (fun e => knd.is k e.key) by obtain ⟨l⟩ := es; simp]
  cases hf : es.toList.findIdx? fun e => knd.is k e.key with
  | some i =>
    have st : stored kvs k v = kvs.map fun kv => if kv.1 = k then (kv.1, v) else kv := if_pos (any_of_findIdx_some (find ▸ hf))
    have new := hp.modify nd hf v
    refine wpAny_updateDict ho hd (q _ ⟨_, _, ep, Heap.get?_update_self _ ho (Obj.isFreed_of_dict (Obj.data_mapDict hd _)), hx.mapDict _, Obj.data_mapDict hd _, hks.modify _ _, ?_, nd'⟩ (Heap.SameBut.update ..))
    rw [st]
    simpa using new
  | none =>
    have st : stored kvs k v = kvs ++ [(k, v)] := if_neg fun z => by
      obtain ⟨kv, hkv, e⟩ := List.any_eq_true.mp z
      exact not_mem_of_findIdx_none (find ▸ hf) (List.mem_map.mpr ⟨kv, hkv, of_decide_eq_true e⟩)
    have new := hp.append hk (knd.hash k) v
    have small : es.size ≤ sizeLine := by rw [← Array.length_toList, hp.length]; exact hz
    refine wpAny_updateDictKeys (hz := small) ho hd (q _ ⟨_, _, ep + 1, Heap.get?_update_self _ ho (Obj.isFreed_of_dict (Obj.data_mapDictKeys hd _)), hx.mapDictKeys _, Obj.data_mapDictKeys hd _, hks.push hk _, ?_, nd'⟩ (Heap.SameBut.update ..))
    rw [st]
    simpa using new
/-- the loop of a merge: what is left are the indices i, i + 1, .. (k of them); it takes the pairs one by one -/
theorem merge_rest {d o : Addr} {more : List (K × Value)} {oo : Obj} {eo : Array DictEntry} {ep : Nat} (ne : d ≠ o) (hko : KeysOf knd eo) (hpo : Pairs knd eo.toList more) (hdo : oo.data = .dict eo ep) {Q : Unit → Shared → Prop} {body : Nat → PUnit → Sem (ForInStep PUnit)}
    (hbody : ∀ (i : Nat) (hi : i < eo.size) (s : Shared) (R : ForInStep PUnit → Shared → Prop), s.heap.get? o = some oo → wpAny (model prog w) A (dictPut d eo[i].hash eo[i].key eo[i].val) (fun _ s' => s'.heap.get? o = some oo ∧ R (.yield .unit) s') E s → wpAny (model prog w) A (body i .unit) R E s) :
    ∀ (k i : Nat) (s : Shared) (kvs : List (K × Value)), i + k = eo.size → s.heap.get? o = some oo → s.heap.DictOf knd d kvs → kvs.length + k ≤ sizeLine →
      (∀ h', h'.DictOf knd d (merged kvs (more.drop i)) → Heap.SameBut d s.heap h' → Q () { s with heap := h' }) → wpAny (model prog w) A (forIn (List.range' i k) PUnit.unit body) (fun _ s' => Q () s') E s := by
  have len : more.length = eo.size := by rw [← hpo.length, Array.length_toList]
  intro k
  induction k with
  | zero =>
    intro i s kvs hi _ hd _ q
    have nothing : more.drop i = [] := List.drop_eq_nil_of_le (by omega)
    rw [nothing] at q
    exact wpAny_pure (q s.heap hd (Heap.SameBut.refl _ _))
  | succ k ih =>
    intro i s kvs hi ho hd hz q
    have lt : i < eo.size := by omega
    have hm : more[i]? = some (more[i]'(by omega)) := List.getElem?_eq_getElem _
    obtain ⟨hk, hv⟩ := hpo.get? (e := eo[i]) (k := (more[i]'(by omega)).1) (v := (more[i]'(by omega)).2) (by simp [lt]) hm
    obtain ⟨k', hk', hh⟩ := hko eo[i] (Array.getElem_mem lt)
    have same := knd.inj _ _ _ hk' hk
    rw [List.range'_succ, List.forIn_cons]
    refine wpAny_bind (hbody i lt s _ ho ?_)
    rw [hh, same, hv]
    refine dictPut_by hk hd (by omega) fun h' hd' sb => ⟨(sb.2 o ne.symm).trans ho, ?_⟩
    have grow : (stored kvs (more[i]'(by omega)).1 (more[i]'(by omega)).2).length ≤ kvs.length + 1 := by
      have e := congrArg List.length (keys_stored kvs (more[i]'(by omega)).1 (more[i]'(by omega)).2)
      rw [List.length_map] at e
      rw [e]
      split <;> simp
    refine ih (i + 1) { s with heap := h' } _ (by omega) ((sb.2 o ne.symm).trans ho) hd' (by omega) fun h'' hd'' sb' => q h'' ?_ (sb.trans sb')
    rw [List.drop_eq_getElem_cons (by omega : i < more.length)]
    exact hd''
theorem merge_dict {d o : Addr} {kvs more : List (K × Value)} {Q : Unit → Shared → Prop} (ne : d ≠ o) (lo : (o == sysModules) = false) (flat : ∀ k v, knd.is k v = true → ∀ a, v ≠ .ref a) (hd : s.heap.DictOf knd d kvs) (ho : s.heap.DictOf knd o more) (hz : kvs.length + more.length ≤ sizeLine)
    (q : ∀ h', h'.DictOf knd d (merged kvs more) → Heap.SameBut d s.heap h' → Q () { s with heap := h' }) : wpAny (model prog w) A (mergeMapping d (.ref o) false) Q E s := by
  obtain ⟨od, ed, pd, gd, _, dd, _⟩ := id hd
  obtain ⟨oo, eo, po, go, _, dO, hko, hpo, _⟩ := id ho
  have len : more.length = eo.size := by rw [← hpo.length, Array.length_toList]
  unfold mergeMapping
  refine wpAny_bind (wpAny_isInstance ho.typeIs isSubtype_dict_dict ?_)
  rw [if_pos rfl]
  refine wpAny_bind (wpAny_specialOf ho.typeIs F.slot_dict_iter.lookup ?_)
  simp only [beq_self_eq_true]
  refine wpAny_bind (wpAny_pure ?_)
  simp only [Bool.false_eq_true, if_false, lo]
  refine wpAny_bind (wpAny_dictEntries gd dd ?_)
  have go_on : ∀ {body : Nat → PUnit → Sem (ForInStep PUnit)}, (∀ (i : Nat) (hi : i < eo.size) (s : Shared) (R : ForInStep PUnit → Shared → Prop), s.heap.get? o = some oo → wpAny (model prog w) A (dictPut d eo[i].hash eo[i].key eo[i].val) (fun _ s' => s'.heap.get? o = some oo ∧ R (.yield .unit) s') E s → wpAny (model prog w) A (body i .unit) R E s) →
      wpAny (model prog w) A (forIn (List.range eo.size) PUnit.unit body >>= fun _ => pure ()) Q E s := fun hb => wpAny_bind (by
    rw [List.range_eq_range']
    exact thn (merge_rest (Q := Q) ne hko hpo dO hb eo.size 0 s kvs (by omega) go hd (by omega) q) fun _ _ z => wpAny_pure z)
  have turn : ∀ (i : Nat) (hi : i < eo.size) (s : Shared) (R : ForInStep PUnit → Shared → Prop), s.heap.get? o = some oo → wpAny (model prog w) A (dictPut d eo[i].hash eo[i].key eo[i].val) (fun _ s' => s'.heap.get? o = some oo ∧ R (.yield .unit) s') E s →
      wpAny (model prog w) A (do
        let l ← dictEntries o
        match l[i]? with
        | some e => do
          holding [e.key, e.val] (dictPut d e.hash e.key e.val)
          let p ← dictEpoch o
          if (p != po) = true then do
              unsupported "dict.changed-during-merge"
              pure (ForInStep.yield PUnit.unit)
            else pure (ForInStep.yield PUnit.unit)
        | _ => do
          unsupported "dict.changed-during-merge"
          pure (ForInStep.yield PUnit.unit)) R E s := fun i hi s R g h => by
    refine wpAny_bind (wpAny_dictEntries g dO ?_)
    rw [Array.getElem?_eq_getElem hi]
    refine wpAny_bind (wpAny_holding (thn h fun _ s' z => wpAny_bind (wpAny_dictEpoch z.1 dO ?_)))
    rw [if_neg (by simp)]
    exact wpAny_pure z.2
  split
  · refine wpAny_bind (wpAny_dictEntries go dO (wpAny_bind ?_))
    have idle : ∀ (l : List DictEntry), (∀ e ∈ l, ∀ a, e.key ≠ .ref a) → ∀ {f : DictEntry → PUnit → Sem (ForInStep PUnit)}, (∀ e, (∀ a, e.key ≠ .ref a) → f e .unit = pure (.yield .unit)) → ∀ {R : PUnit → Shared → Prop}, R .unit s → wpAny (model prog w) A (forIn l PUnit.unit f) R E s := by
      intro l
      induction l with
      | nil => intro _ f _ R r; exact wpAny_pure r
      | cons e l ih =>
        intro hl f hf R r
        rw [List.forIn_cons, hf e (hl e List.mem_cons_self)]
        exact wpAny_bind (wpAny_pure (ih (fun x hx => hl x (List.mem_cons_of_mem _ hx)) hf r))
    rw [← Array.forIn_toList]
    refine idle eo.toList (fun e he a z => ?_) (fun e he => ?_) ?_
    · obtain ⟨k', hk', _⟩ := hko e (Array.mem_toList_iff.mp he)
      exact flat k' _ hk' a z
    · split
      · rename_i a z
        exact absurd z (he a)
      · rfl
    · exact wpAny_bind (wpAny_dictEntries go dO (wpAny_bind (wpAny_dictEpoch go dO (go_on turn))))
  · exact wpAny_bind (wpAny_dictEntries go dO (wpAny_bind (wpAny_dictEpoch go dO (go_on turn))))
end
theorem key_flat {P : Program} {w : World} (k : Key) (v : Value) (h : (mixKind P w).is k v = true) (a : Addr) : v ≠ .ref a := fun e => by
  rcases keyIs_shape h with ⟨_, _, _, z⟩ | ⟨_, _, _, z⟩ <;> exact nomatch e.symm.trans z
end LG
-- LGD
namespace LG
open PySem PySem.Spec PyProof.Rows L2
section
variable {X : Cx} {pins : List (Addr × Obj)} {σ : L2.St} {H : Hp} {s : Shared} {E : Value → Shared → Prop}
/-- one unpacking into the dict at D, by our heaps -/
theorem merge_at {D p : Addr} {ks ls : List (Key × V)} {Q : Unit → Shared → Prop} (I : L2.Inv X pins σ H s) (hD : H D = some (.dK ks)) (hp : Rd H p (.dK ls)) (ne : p ≠ D) (hz : ks.length + ls.length ≤ sizeLine) (q : ∀ s', L2.Inv X pins σ (upd H D (.dK (mergeK ks ls))) s' → Q () s') :
    wpAny (model X.prog X.w) X.A (mergeMapping D (.ref p) false) Q E s := by
  obtain ⟨_, lD, vs, rv, dv⟩ := dk_of I.hok hD
  obtain ⟨_, lp, us, ru, du⟩ := dk_rd I.hok hp
  refine merge_dict (knd := mixKind X.prog X.w) ne.symm lp key_flat dv du (by rw [← rv.length, ← ru.length]; exact hz) fun h' d' sb => q _ ?_
  have small : (mergeK ks ls).length ≤ sizeLine := Nat.le_trans (length_mergeK ls ks) hz
  exact d_write (t' := s.toks) I (by rw [hD]; exact True.intro) sb (let ⟨o, _, _, ho, _⟩ := d'; ⟨o, ho⟩) (dk_new small lD (ru.merge rv) d')
/-- {**a, **b} -/
theorem we_dict2 {a b : Expr} {pos : Pos} {Q : VK} (h : ∀ D, H D = none → WE X a σ (upd H D (.dK [])) fun x H1 => ∃ p ks, x = .ref p ∧ p ≠ D ∧ Rd H1 p (.dK ks) ∧ H1 D = some (.dK []) ∧ ks.length ≤ sizeLine ∧ WE X b σ (upd H1 D (.dK (mergeK [] ks))) fun y H2 =>
    ∃ q ls, y = .ref q ∧ q ≠ D ∧ Rd H2 q (.dK ls) ∧ H2 D = some (.dK (mergeK [] ks)) ∧ (mergeK [] ks).length + ls.length ≤ sizeLine ∧ Q (.ref D) (upd H2 D (.dK (mergeK (mergeK [] ks) ls)))) : WE X (.Dict [none, none] [a, b] pos) σ H Q := by
  intro pins s I
  have I1 := I.laid (a := s.heap.objs.size) (o := .dK []) (h' := s.heap.push { cls := .type "dict", data := .dict #[] }) (t' := s.toks) (fun _ _ z => Heap.get?_push_of_some _ z) (Nat.le_refl _) (dk_empty s.heap I.big)
  have ha := h _ (I.hok.fresh (Nat.le_refl s.heap.objs.size))
  have held : ∀ (m : Sem Value) (P : Value → Shared → Prop) (z : Shared), wpAny (model X.prog X.w) X.A m P X.xe z → wpAny (model X.prog X.w) X.A (do let x ← m; standAt pos; pure x : Sem Value) P X.xe z := fun m P z q => wpAny_bind (thn q fun _ _ r => wpAny_bind (wpAny_standAt (wpAny_pure r)))
  show wpAny _ _ (do standAt pos; dictDisplay [(none, (do let x ← eval a X.env; standAt pos; pure x : Sem Value)), (none, (do let x ← eval b X.env; standAt pos; pure x : Sem Value))]) _ _ _
  have hA := held (eval a X.env)
  have hB := held (eval b X.env)
  generalize (do let x ← eval a X.env; standAt pos; pure x : Sem Value) = ma at hA ⊢
  generalize (do let x ← eval b X.env; standAt pos; pure x : Sem Value) = mb at hB ⊢
  refine wpAny_bind (wpAny_standAt ?_)
  unfold dictDisplay
  simp only [List.forIn_cons, List.forIn_nil, List.isEmpty_nil, if_true, pure_bind, bind_assoc]
  refine wpAny_bind (wpAny_alloc (wpAny_bind (wpAny_holding (hA _ _ (thn (ha pins _ I1) fun u s1 ⟨x, H1, I2, rx, p, ks, ex, ne, hp, hD, hz, hb⟩ => ?_)))))
  subst ex
  obtain rfl : u = .ref p := rx
  refine wpAny_bind (wpAny_onRaise (wpAny_tryCatch (wpAny_onRaise (wpAny_holding (merge_at I2 hD hp ne (by simpa using hz) fun s2 I3 => ?_)))))
  refine wpAny_bind (wpAny_holding (hB _ _ (thn (hb pins s2 I3) fun u s3 ⟨y, H2, I4, ry, q, ls, ey, ne', hq, hD', hz', fin⟩ => ?_)))
  subst ey
  obtain rfl : u = .ref q := ry
  exact wpAny_bind (wpAny_onRaise (wpAny_tryCatch (wpAny_onRaise (wpAny_holding (merge_at I4 hD' hq ne' hz' fun s4 I5 => wpAny_pure ⟨.ref s.heap.objs.size, _, I5, rfl, fin⟩)))))
end
end LG
-- LGQ
namespace LG
open PySem PySem.Spec PyProof.Rows L2
/-! ### == of dicts of plain values, of lists of texts, of pairs of them: both answers -/
inductive Eq1 : V → V → Bool → Prop
  | str (x y : Str) : Eq1 (.str x) (.str y) (x == y)
  | bl (a b : Bool) : Eq1 (.bl a) (.bl b) (a == b)
theorem Eq1.at {A : Around} {s : Shared} {x y : V} {v u : Value} {b : Bool} (h : Eq1 x y b) (rx : RelV x v) (ry : RelV y u) : SeqAt.EqAt A s v u b := by
  cases h with
  | str a b =>
    obtain ⟨t, rfl⟩ := rx
    obtain ⟨t', rfl⟩ := ry
    exact SeqAt.EqAt.str_str a t b t'
  | bl a b =>
    obtain rfl : v = .bool a := rx
    obtain rfl : u = .bool b := ry
    exact SeqAt.EqAt.bool_bool a b
abbrev eqKV (e : Key → Bool) (ks ls : List (Key × V)) : Bool := ks.length == ls.length && ks.all fun p => (valV ls p.1).isSome && e p.1
abbrev Cmps (e : Key → Bool) (ks ls : List (Key × V)) : Prop := ∀ p ∈ ks, ∀ u, valV ls p.1 = some u → Eq1 p.2 u (e p.1)
theorem hits_by {A : Around} {s : Shared} {e : Key → Bool} {ls : List (Key × V)} {vb : List (Key × Value)} (rb : KV ls vb) : ∀ {ks : List (Key × V)} {va : List (Key × Value)}, KV ks va → Cmps e ks ls → PySem.W.KeqHits A s vb va (ks.all fun p => (valV ls p.1).isSome && e p.1)
  | _, _, .nil, _ => .nil
  | p :: ks, (k, v) :: va, .cons ⟨hk, hv⟩ t, h => by
    have hk' : p.1 = k := hk
    have rk := rb.val p.1
    have ih := hits_by (A := A) (s := s) rb t fun q m => h q (List.mem_cons_of_mem _ m)
    rw [List.all_cons]
    cases e1 : valV ls p.1 with
    | none =>
      rw [e1] at rk
      exact .miss (hk' ▸ rk.none_of)
    | some u =>
      rw [e1] at rk
      obtain ⟨y, hy, ry⟩ := rk.some_of
      exact .hit (hk' ▸ hy) ((h p List.mem_cons_self u e1).at hv ry) ih
section
variable {X : Cx}
theorem op_eqKV {e : Key → Bool} (hu : X.A.units < cLine) : OpR X (compareOp .Eq) (fun x y H Q => ∃ a b ks ls, x = .ref a ∧ y = .ref b ∧ H a = some (.dK ks) ∧ H b = some (.dK ls) ∧ Cmps e ks ls ∧ Q (.bl (eqKV e ks ls)) H) := by
  rintro pins s σ H _ _ v u Q I rx ry ⟨a, b, ks, ls, rfl, rfl, ha, hb, hc, q⟩
  obtain rfl : v = .ref a := rx
  obtain rfl : u = .ref b := ry
  obtain ⟨_, ya, va, ra, da⟩ := dk_of I.hok ha
  obtain ⟨_, yb, vb, rb, db⟩ := dk_of I.hok hb
  exact PySem.W.keq_eq (knd := mixKind X.prog X.w) ya yb da db hu (fun _ => hits_by rb ra hc) (fin_bl I q (by rw [eqKV, ra.length, rb.length]))
theorem op_neKV {e : Key → Bool} (hu : X.A.units < cLine) : OpR X (compareOp .NotEq) (fun x y H Q => ∃ a b ks ls, x = .ref a ∧ y = .ref b ∧ H a = some (.dK ks) ∧ H b = some (.dK ls) ∧ Cmps e ks ls ∧ Q (.bl (!eqKV e ks ls)) H) := by
  rintro pins s σ H _ _ v u Q I rx ry ⟨a, b, ks, ls, rfl, rfl, ha, hb, hc, q⟩
  obtain rfl : v = .ref a := rx
  obtain rfl : u = .ref b := ry
  obtain ⟨_, ya, va, ra, da⟩ := dk_of I.hok ha
  obtain ⟨_, yb, vb, rb, db⟩ := dk_of I.hok hb
  exact PySem.W.keq_ne (knd := mixKind X.prog X.w) ya yb da db hu (fun _ => hits_by rb ra hc) (fin_bl I q (by rw [eqKV, ra.length, rb.length]))
end
end LG
-- LGR
namespace LG
open PySem PySem.Spec PyProof.Rows L2
set_option maxHeartbeats 200000
abbrev StrsOk (xs : List Str) : Prop := ∀ x ∈ xs, PyData.strOk x = true
theorem strs_lay : ∀ xs : List Str, StrsOk xs → PyData.canLayAll0 (xs.map PyData.str) = true ∧ PyData.depthAll (xs.map PyData.str) ≤ 1
  | [], _ => ⟨rfl, Nat.zero_le _⟩
  | x :: xs, h => by
    have := strs_lay xs fun y m => h y (List.mem_cons_of_mem _ m)
    have hx := h x List.mem_cons_self
    constructor
    · simp [PyData.canLayAll0, PyData.canLay0, this.1, hx]
    · simp only [List.map_cons, PyData.depthAll, PyData.depth]; omega
theorem shaped_strs {xs : List Str} (h : StrsOk xs) : SeqAt.shaped (.list (xs.map PyData.str)) = true := by
  have := strs_lay xs h
  unfold SeqAt.shaped
  rw [Bool.and_eq_true]
  refine ⟨?_, decide_eq_true ?_⟩
  · simp [PyData.canLay0, this.1]
  · simp only [PyData.depth]; omega
theorem eqv_strs : ∀ xs ys : List Str, PyData.eqv (.list (xs.map PyData.str)) (.list (ys.map PyData.str)) = (xs == ys)
  | [], [] => rfl
  | [], _ :: _ => rfl
  | _ :: _, [] => rfl
  | x :: xs, y :: ys => by
    have := eqv_strs xs ys
    simp only [PyData.eqv, List.map_cons, PyData.eqvAll] at this ⊢
    rw [this]; rfl
theorem dp_strs {K : PySem.W.Frag} {H : Hp} : ∀ xs : List Str, DpAll K H (xs.map V.str) (xs.map PyData.str)
  | [] => .nil
  | x :: xs => .cons (.str x) (dp_strs xs)
section
variable {X : Cx}
theorem op_neL (hu : X.A.units + 64 < cLine) : OpR X (compareOp .NotEq) (fun x y H Q => ∃ (a b : Addr) (xs ys : List Str), x = .ref a ∧ y = .ref b ∧ H a = some (.lst (xs.map V.str)) ∧ H b = some (.lst (ys.map V.str)) ∧ StrsOk xs ∧ StrsOk ys ∧ Q (.bl (!(xs == ys))) H) := by
  rintro pins s σ H _ _ v u Q I rx ry ⟨a, b, xs, ys, rfl, rfl, ha, hb, ox, oy, q⟩
  refine op_neD hu pins s σ H _ _ v u Q I rx ry ⟨_, _, .lst (SqL.of ha) (dp_strs xs), .lst (SqL.of hb) (dp_strs ys), shaped_strs ox, shaped_strs oy, ?_⟩
  rw [eqv_strs]
  exact q
/-- (dict, list of texts) == (dict, list of texts) -/
theorem op_eqTL {e : Key → Bool} {k : Nat} (hr : Room k X.A) : OpR X (compareOp .Eq) (fun x y H Q => ∃ (a b d l d' l' : Addr) (ks ls : List (Key × V)) (xs ys : List Str), x = .ref a ∧ y = .ref b ∧ H a = some (.tup [.ref d, .ref l]) ∧ H b = some (.tup [.ref d', .ref l']) ∧
    H d = some (.dK ks) ∧ H d' = some (.dK ls) ∧ d ≠ d' ∧ H l = some (.lst (xs.map V.str)) ∧ H l' = some (.lst (ys.map V.str)) ∧ Cmps e ks ls ∧ StrsOk xs ∧ StrsOk ys ∧ Q (.bl (eqKV e ks ls && (xs == ys))) H) := by
  rintro pins s σ H _ _ v u Q I rx ry ⟨a, b, d, l, d', l', ks, ls, xs, ys, rfl, rfl, ha, hb, hd, hd', ne, hl, hl', hc, ox, oy, q⟩
  obtain rfl : v = .ref a := rx
  obtain rfl : u = .ref b := ry
  obtain ⟨_, ya, va, ra, da⟩ := dk_of I.hok hd
  obtain ⟨_, yb, vb, rb, db⟩ := dk_of I.hok hd'
  obtain ⟨i1, r1, p1, _⟩ := I.tuple (SqT.of ha)
  obtain ⟨i2, r2, p2, _⟩ := I.tuple (SqT.of hb)
  have un := hr.un
  have t1 : i1 = [.ref d, .ref l] := by
    cases r1 with
    | cons e1 t =>
      cases t with
      | cons e2 t =>
        cases t
        cases (show _ = Value.ref d from e1)
        cases (show _ = Value.ref l from e2)
        rfl
  have t2 : i2 = [.ref d', .ref l'] := by
    cases r2 with
    | cons e1 t =>
      cases t with
      | cons e2 t =>
        cases t
        cases (show _ = Value.ref d' from e1)
        cases (show _ = Value.ref l' from e2)
        rfl
  subst t1 t2
  obtain ⟨as, q1⟩ := Dp.reads I _ _ _ (.lst (SqL.of hl) (dp_strs xs)) (show RelV (.ref l) (.ref l) from rfl)
  obtain ⟨bs, q2⟩ := Dp.reads I _ _ _ (.lst (SqL.of hl') (dp_strs ys)) (show RelV (.ref l') (.ref l') from rfl)
  refine PySem.SeqAt.rcIn_tuples (e := fun j => if j = 0 then eqKV e ks ls else xs == ys) p1 p2 hr.units0 (fun j h1 h2 => ?_) (fin_bl I q ?_)
  · match j, h1 with
    | 0, _ =>
      refine SeqAt.EqIn.of_refs ne fun E' Q' hq => PySem.W.keq_eq (knd := mixKind X.prog X.w) ya yb da db (by show X.A.units + 1 < _; omega) (fun _ => hits_by rb ra hc) ?_
      rw [← ra.length, ← rb.length]
      exact hq
    | 1, _ =>
      have := SeqAt.eqAt_reads _ _ X.A.in1 s _ _ as bs q1 q2 (SeqAt.canLay_of_shaped (shaped_strs ox)) (SeqAt.canLay_of_shaped (shaped_strs oy)) (SeqAt.room_of_shaped (shaped_strs ox) (by show X.A.units + 1 + 64 < _; omega))
      rw [eqv_strs] at this
      exact this.inModel _ _
  · rw [show (List.range (min [Value.ref d, .ref l].toArray.size [Value.ref d', .ref l'].toArray.size)) = [0, 1] from rfl]
    simp
end
end LG
-- LGS
namespace LG
open PySem PySem.Spec PyProof.Rows L2 PySem.Froz
set_option maxHeartbeats 1000000
/-! ### a set of texts: the payload D holds l, its places rise, its order may be walked -/
structure TxR (P : Program) (w : World) (D : SD) (l : List Str) : Prop where
  ok : TxOk P w D l
  nd : l.Nodup
  ris : Ris D.2.2.place.toList
  led : w.params.followText "set-order" = true ∨ D.2.2.led = true
abbrev fresh0 (w : World) : SD := (#[], 0, .fresh 0 0 (!w.params.followText "set-order"))
section
variable {P : Program} {w : World} {A : Around} {E : Value → Shared → Prop} {s : Shared}
theorem TxR.zero : TxR P w (fresh0 w) [] where
  ok := TxOk.nil (by rfl)
  nd := List.nodup_nil
  ris := List.Pairwise.nil
  led := by
    show _ ∨ (!w.params.followText "set-order") = true
    cases w.params.followText "set-order" with
    | true => exact .inl rfl
    | false => exact .inr rfl
theorem TxR.add {D : SD} {l : List Str} {k : Str} (R : TxR P w D l) (hk : k ∉ l) (u : Tok) : TxR P w (addTx (hashStr w k) (.str k u) D) (k :: l) := by
  refine ⟨add_ok u R.ok, List.nodup_cons.mpr ⟨hk, R.nd⟩, ?_, ?_⟩
  · have r := layNew_ris D.2.2 D.1 (hashStr w k) (.str k u) R.ris
    unfold addTx tailTx
    by_cases c : (layNew D.2.2 D.1 (hashStr w k) (.str k u)).2.1.plain = true
    · rw [if_pos c]
      split
      · exact relayAll_ris _ _ _
      · exact r
    · rw [if_neg c]
      split
      · exact relayAll_ris _ _ _
      · exact r
  · refine R.led.imp id fun z => ?_
    have r := (layNew_led D.2.2 D.1 (hashStr w k) (.str k u)).trans z
    unfold addTx tailTx
    by_cases c : (layNew D.2.2 D.1 (hashStr w k) (.str k u)).2.1.plain = true
    · rw [if_pos c]
      split
      · exact (relayAll_led _ _ _).trans r
      · exact r
    · rw [if_neg c]
      split
      · exact (relayAll_led _ _ _).trans r
      · exact r
/-- a text that is in already -/
theorem add_had {a : Addr} {D : SD} {l : List Str} {k : Str} {u : Tok} {Q : Bool → Shared → Prop} (ho : s.heap.get? a = some (sObj "set" D)) (F : TxOk P w D l) (hk : k ∈ l) (hb : l.length < scanBound) (h : Q false s) :
    wpAny (model P w) A (setAddHashed a (.str k u) (hashStr w k)) Q E s := by
  obtain ⟨e, he, ie⟩ := (F.mem k).mp hk
  have hj : ∃ j, List.findIdx? (fun e => (strKind P w).is k e.2) D.1.toList = some j := by
    cases q : List.findIdx? (fun e => (strKind P w).is k e.2) D.1.toList with
    | some j => exact ⟨j, rfl⟩
    | none => rw [List.findIdx?_eq_none_iff.mp q e he] at ie; cases ie
  obtain ⟨j, ej⟩ := hj
  have st : byScan (.str k u) D.1 = true := byScan_of rfl (F.sz ▸ hb) F.el
  unfold setAddHashed setAddHashedIn setAddByScan
  refine wpAny_holding (wpAny_bind (wpAny_setState_of ho rfl F.fit ?_))
  dsimp only
  rw [st, if_pos rfl]
  refine wpAny_bind (wpAny_bind (wpAny_rule (wpAny_bind (wpAny_setScan_of (knd := strKind P w) (is_str k u) ho rfl F.fit F.el ?_))))
  rw [ej]
  exact wpAny_pure (wpAny_pure h)
end
end LG
-- LGT
namespace LG
open PySem PySem.Spec PyProof.Rows L2 PySem.Froz
set_option maxHeartbeats 1000000
section
variable {P : Program} {w : World} {A : Around} {E : Value → Shared → Prop} {s : Shared}
theorem add_step {a : Addr} {D : SD} {l : List Str} {z : Str} {u : Tok} {Q : Bool → Shared → Prop} (ho : s.heap.get? a = some (sObj "set" D)) (R : TxR P w D l) (hb : l.length + 1 < scanBound)
    (h : ∀ h' D' b, Heap.SameBut a s.heap h' → h'.get? a = some (sObj "set" D') → TxR P w D' (if z ∈ l then l else z :: l) → Q b { s with heap := h', toks := s.toks + 1 }) : wpAny (model P w) A (setAdd a (.str z u)) Q E s := by
  refine wpAny_holding (wpAny_bind ((strKind P w).pyHash (is_str z u) ?_))
  by_cases c : z ∈ l
  · refine add_had (s := { s with toks := s.toks + 1 }) ho R.ok c (by omega) (h s.heap D _ (Heap.SameBut.refl a s.heap) ho ?_)
    rw [if_pos c]; exact R
  · refine add_x (s := { s with toks := s.toks + 1 }) ho R.ok c hb (h _ _ _ (Heap.SameBut.update _ a _) (get_upd _ ho rfl) ?_)
    rw [if_neg c]; exact R.add c u
theorem upd_texts {I : Addr} {fp wr : List Addr} {G : Array GenState → Array GenState → Prop} {Pv : Nat → Value → Prop} {St : Nat → Shared → Prop} {R : Result → Shared → Prop} {S : Addr} {zs : List Str}
    (W : WalksS P w A.in1 I fp wr G zs.length Pv St) (hS : S ∉ fp) (hval : ∀ i v, Pv i v → ∃ z t, zs[i]? = some z ∧ v = .str z t) (hb : zs.length + 1 < scanBound) :
    ∀ (rest : List Str) (i : Nat) (s : Shared) (D : SD) (l : List Str), zs.drop i = rest → St i s → s.heap.get? S = some (sObj "set" D) → TxR P w D l → l.length ≤ i → i ≤ zs.length → (∀ z, z ∈ l ↔ z ∈ zs.take i) →
      (∀ s' D' l', Moved (S :: wr) G s s' → s'.heap.get? S = some (sObj "set" D') → TxR P w D' l' → (∀ z, z ∈ l' ↔ z ∈ zs) → l'.length ≤ zs.length → R (.ok (.ret .none)) s') →
      codeAny (model P w) A (.builtin "set.update.loop" ⟨[.ref S, .ref I], []⟩) R s
  | [], i, s, D, l, hd, st, ho, T, hl, hi, hm, hR => by
    have e : i = zs.length := Nat.le_antisymm hi (List.drop_eq_nil_iff.mp hd)
    subst e
    refine codeAny_builtin F.entry_set_update_loop ?_
    rw [Around.under_plainId F.plain_set_update_loop _]
    refine wpAny_bind (W.done s _ _ st fun s' mv => wpAny_pure (hR s' D l (mv.mono fun b => List.mem_cons_of_mem _) (mv.heap S _ (fun q => hS (W.sub S q)) ho) T (fun z => ?_) hl))
    rw [hm, List.take_length]
  | z :: rest, i, s, D, l, hd, st, ho, T, hl, hi, hm, hR => by
    have lt : i < zs.length := by
      refine Nat.lt_of_not_le fun q => ?_
      rw [List.drop_eq_nil_iff.mpr q] at hd; cases hd
    have hz : zs[i]? = some z ∧ zs.drop (i + 1) = rest := by
      rw [List.drop_eq_getElem_cons lt] at hd
      injection hd with h1 h2
      exact ⟨by rw [List.getElem?_eq_getElem lt, h1], h2⟩
    refine codeAny_builtin F.entry_set_update_loop ?_
    rw [Around.under_plainId F.plain_set_update_loop _]
    refine wpAny_bind (W.item i s _ _ lt st fun v s1 pv st1 mv => ?_)
    obtain ⟨z', t, hz', rfl⟩ := hval i v pv
    rw [hz.1] at hz'
    cases hz'
    have ho1 := mv.heap S _ (fun q => hS (W.sub S q)) ho
    refine wpAny_bind (wpAny_holding (add_step ho1 T (by omega) fun h' D' b sb ho' T' => ?_))
    refine wpAny_pure ⟨plainId_quiet F.plain_set_update_loop _, upd_texts W hS hval hb rest (i + 1) _ D' _ hz.2 (W.frame _ s1 _ _ st1 (Nat.le_succ _) fun b hb o e => (sb.2 b fun q => hS (q ▸ hb)).trans e) ho' T' ?_ lt (fun y => ?_) fun s' D2 l2 mv2 => hR s' D2 l2 ?_⟩
    · split
      · omega
      · rw [List.length_cons]; omega
    · rw [List.take_add_one, hz.1, List.mem_append, ← hm y]
      by_cases c : z ∈ l
      · rw [if_pos c]
        exact ⟨.inl, fun q => q.elim id fun q => by rw [List.mem_singleton.mp q]; exact c⟩
      · rw [if_neg c, List.mem_cons]
        simp [Or.comm]
    · refine Moved.trans W.gtrans ((mv.mono fun b => List.mem_cons_of_mem _).then_heap (Nat.le_succ _) fun b o hb e => ?_) mv2
      rw [sb.2 b fun q => hb (q ▸ List.mem_cons_self)]; exact e
end
end LG
-- LGU
namespace LG
open PySem PySem.Spec PyProof.Rows L2 PySem.Froz
set_option maxHeartbeats 1000000
section
variable {P : Program} {w : World} {A : Around} {E : Value → Shared → Prop} {s : Shared}
abbrev withSet (s : Shared) (w : World) : Shared := { s with heap := s.heap.push (sObj "set" (fresh0 w)) }
/-- set(x): a new set, filled by its __init__ -/
theorem call_set_by {x : Value} {Q : Value → Shared → Prop} (h : wpAny (model P w) A.in1.in1 (Builtin.«set.__init__» ⟨[.ref s.heap.objs.size, x], []⟩) (fun fin s' => fin = .done (.ret .none) ∧ Q (.ref s.heap.objs.size) s') (fun _ _ => False) (withSet s w)) :
    wpAny (model P w) A (call (.type "set") [x]) Q E s := by
  have at0 : (withSet s w).heap.get? s.heap.objs.size = some (sObj "set" (fresh0 w)) := Heap.get?_push_size _ rfl
  have ty0 : (withSet s w).TypeIs (.ref s.heap.objs.size) "set" := ⟨_, at0, rfl⟩
  have made := code_set_led1 (P := P) (w := w) (A := A.in1) (E := E) (s := s) x (Q₁ := fun o s1 => o = .ref s.heap.objs.size ∧ s1 = withSet s w) ⟨rfl, rfl⟩
  have fill : codeAny (model P w) A.in1 (.call (.builtin "set.__init__") ⟨[.ref s.heap.objs.size, x], []⟩) (wants (fun r s' => r = .none ∧ Q (.ref s.heap.objs.size) s') E) (withSet s w) :=
    codeAny_call_builtin F.called_set.init.plain F.entry_set_init (check_set_init_1 ty0 (wpAny_mono h (fun fin s' ⟨e, q⟩ => by subst e; exact ⟨rfl, q⟩) fun _ _ z => z.elim))
  obtain ⟨m0, ms, hmro⟩ := F.called_set.mro
  have k1 := F.called_set.notType
  have k2 := F.called_set.canCreate
  have k3 := F.called_set.made
  have k4 := F.called_set.sub
  have k5 := F.called_set.init.lookup
  have k6 := F.called_set.init.bind (.ref s.heap.objs.size)
  have k7 := F.typeCall_set_1 x
  refine wpAny_call (codeAny_of_tree (show wpAny _ _ (callAny (.type "set") _) _ _ _ from wpAny_pure ⟨Code.quiet_builtin _ (by decide +kernel), codeAny_builtin F.entry_type_call ?_⟩))
  rw [Around.under_plain (weight_type_call_type "set" [x] []) rfl]
  repeat (any_goals (first | assumption | wp_step))
  refine codeAny_mono made ?_
  rintro (e | (_ | o | _ | _)) s1 hr
  all_goals first | exact hr | exact hr.elim | skip
  obtain ⟨rfl, rfl⟩ := hr
  repeat (any_goals (first | assumption | wp_step))
  refine codeAny_mono fill ?_
  rintro (e | (_ | o | _ | _)) s2 hr2
  all_goals first | exact hr2 | exact hr2.elim | skip
  obtain ⟨rfl, q⟩ := hr2
  repeat (any_goals (first | assumption | wp_step))
end
end LG
-- LGV
namespace LG
open PySem PySem.Spec PyProof.Rows L2 PySem.Froz
set_option maxHeartbeats 1000000
section
variable {P : Program} {w : World} {A : Around} {E : Value → Shared → Prop} {s : Shared}
theorem call_set_texts {l : Addr} {its : Array Value} {zs : List Str} {Q : Value → Shared → Prop} (hh : A.handled = none) (hl : s.heap.IsList l its) (hz : StrsAre its.toList zs) (hb : zs.length + 1 < scanBound)
    (h : ∀ s' D m, s'.heap.get? s.heap.objs.size = some (sObj "set" D) → TxR P w D m → (∀ z, z ∈ m ↔ z ∈ zs) → m.length ≤ zs.length → (∀ b o, s.heap.get? b = some o → s'.heap.get? b = some o) → s'.gens = s.gens → s'.os = s.os → Q (.ref s.heap.objs.size) s') :
    wpAny (model P w) A (call (.type "set") [.ref l]) Q E s := by
  have at0 : (withSet s w).heap.get? s.heap.objs.size = some (sObj "set" (fresh0 w)) := Heap.get?_push_size _ rfl
  have ty0 : (withSet s w).TypeIs (.ref s.heap.objs.size) "set" := ⟨_, at0, rfl⟩
  have hlt : l < s.heap.objs.size := by obtain ⟨_, e, _⟩ := hl; exact Heap.lt_size e
  have hl1 : (withSet s w).heap.IsList l its := hl.push _
  have tyL : (withSet s w).TypeIs (.ref l) "list" := by obtain ⟨o, e, c, _⟩ := hl1; exact ⟨o, e, c⟩
  have f1 := F.sub_list_set
  have f2 := F.sub_list_frozenset
  have f3 : (Value.type "list" == Value.type "dict") = false := by decide
  have sz : (withSet s w).heap.objs.size = s.heap.objs.size + 1 := Heap.size_push ..
  have len : its.size = zs.length := by rw [← Array.length_toList, StrsAre.len_eq hz]
  refine call_set_by ?_
  have run : ∀ R : Result → Shared → Prop, (∀ s' D m, s'.heap.get? s.heap.objs.size = some (sObj "set" D) → TxR P w D m → (∀ z, z ∈ m ↔ z ∈ zs) → m.length ≤ zs.length → (∀ b o, s.heap.get? b = some o → s'.heap.get? b = some o) → s'.gens = s.gens → s'.os = s.os → R (.ok (.ret .none)) s') →
      codeAny (model P w) A.in1.in1 (.builtin "set.update.loop" ⟨[.ref s.heap.objs.size, .ref (withSet s w).heap.objs.size], []⟩) R { withSet s w with heap := (withSet s w).heap.push { cls := .type "list_iterator", data := .fields #[.ref l, .int 0 0] } } := fun R hR => by
    have W := (Walks.list (prog := P) (w := w) (A := A.in1.in1.in1) (by simpa using hh) (withSet s w).heap.objs.size l (by rw [sz]; exact Nat.ne_of_lt (Nat.lt_succ_of_lt hlt)) its).toS
    rw [len] at W
    refine upd_texts W (by rw [sz]; simp only [List.mem_cons, List.not_mem_nil, or_false, not_or]; exact ⟨Nat.ne_of_lt (Nat.lt_succ_self _), Nat.ne_of_gt hlt⟩) (fun i v hv => ?_) hb zs 0 _ (fresh0 w) [] rfl ⟨⟨_, Heap.get?_push_size _ rfl, rfl, rfl⟩, hl1.push _⟩ (Heap.get?_push_of_some _ at0) TxR.zero (Nat.zero_le _) (Nat.zero_le _) (by simp)
      fun s' D m mv ho T hm hml => hR s' D m ho T hm hml (fun b o e => ?_) mv.gens mv.os
    · have hi : i < zs.length := by rw [← len]; exact (Array.getElem?_eq_some_iff.mp hv).1
      obtain ⟨t, e⟩ := SS.strs_at hz i v (by rw [Array.getElem?_toList]; exact hv)
      exact ⟨zs[i], t, List.getElem?_eq_getElem hi, by rw [e, List.getD_eq_getElem?_getD, List.getElem?_eq_getElem hi]; rfl⟩
    · have lb := Heap.lt_size e
      refine mv.heap b o ?_ (Heap.get?_push_of_some _ (Heap.get?_push_of_some _ e))
      rw [sz]
      simp only [List.mem_cons, List.not_mem_nil, or_false, not_or]
      exact ⟨Nat.ne_of_lt lb, Nat.ne_of_lt (Nat.lt_succ_of_lt lb)⟩
  have walk : ∀ {Q' : Value → Shared → Prop} {E' : Value → Shared → Prop}, Q' (.ref (withSet s w).heap.objs.size) { withSet s w with heap := (withSet s w).heap.push { cls := .type "list_iterator", data := .fields #[.ref l, .int 0 0] } } → wpAny (model P w) A.in1.in1 (pyIter (.ref l)) Q' E' (withSet s w) := fun q => wpAny_pyIter_list hl1 q
  have used : ∀ {Q' : Bool → Shared → Prop} {E' : Value → Shared → Prop}, Q' false (withSet s w) → wpAny (model P w) A.in1.in1 (setUsed s.heap.objs.size) Q' E' (withSet s w) := fun q => wpAny_bind (wpAny_setState_of at0 rfl (by rfl) (wpAny_pure q))
  unfold Builtin.«set.__init__» noKeywords Builtin.Frozenset.updateFrom Builtin.Frozenset.isAnySet
  generalize hS : withSet s w = s1 at *
  generalize pyIter = PI at *
  generalize setUsed = SU at *
  wp_walk
  refine used ?_
  wp_walk
  refine walk ?_
  refine wpAny_bind (wpAny_runValue (run _ fun s' D m ho T hm hml hk hg hos => ?_))
  exact wpAny_pure (wpAny_pure ⟨rfl, h s' D m ho T hm hml hk hg hos⟩)
end
end LG
-- LGX
namespace LG
open PySem PySem.Spec PyProof.Rows L2 PySem.Froz
set_option maxHeartbeats 1000000
/-- the set of texts at a, its members m -/
def SetTx (P : Program) (w : World) (a : Addr) (m : List Str) : HO := .ext fun h => ∃ D, h.get? a = some (sObj "set" D) ∧ TxR P w D m
theorem setTx_ok {P : Program} {w : World} {H : Hp} {h : Heap} {a : Addr} {D : SD} {m : List Str} (ho : h.get? a = some (sObj "set" D)) (R : TxR P w D m) : ObjOk P w H h a (SetTx P w a m) :=
  ⟨⟨D, ho, R⟩, ⟨_, ho⟩, fun _ _ ⟨D', e, R'⟩ k => ⟨D', k _ e, R'⟩⟩
theorem perm_sub : ∀ {m ks : List Str}, m.Nodup → (∀ z ∈ m, z ∈ ks) → m.length = ks.length → m.Perm ks
  | [], ks, _, _, e => by rw [List.length_eq_zero_iff.mp e.symm]
  | z :: m, ks, nd, sub, e => by
    rw [List.nodup_cons] at nd
    have hz := sub z List.mem_cons_self
    have p := List.perm_cons_erase hz
    refine (List.Perm.cons z (perm_sub nd.2 (fun y hy => ?_) ?_)).trans p.symm
    · refine (List.mem_erase_of_ne fun c => nd.1 ?_).mpr (sub y (List.mem_cons_of_mem _ hy))
      rw [← c]; exact hy
    · have := p.length_eq
      simp only [List.length_cons] at this e
      omega
section
variable {X : Cx}
theorem cr_setTx (hc : X.calm = true) : CallR X (.type "set") (fun vs H Q => ∃ (a : Addr) (zs : List Str), vs = [.ref a] ∧ SqL X.K H a (zs.map V.str) ∧ zs.length ≤ 1000 ∧ ∀ (p : Addr) (m : List Str), H p = none → m.Nodup → (∀ z, z ∈ m ↔ z ∈ zs) → m.length ≤ zs.length → Q (.ref p) (upd H p (SetTx X.prog X.w p m))) := by
  rintro pins s σ H _ us Q I r ⟨a, zs, rfl, hs, hl, q⟩
  obtain ⟨its, rv, pl, _⟩ := I.list hs
  rw [Vals.ref1 r]
  refine call_set_texts (I.ok.hd hc) pl.isList (by simpa using strsAre_of rv) (by unfold scanBound; omega) fun s' D m ho T hm hml hk hg hos => ?_
  have hn := I.hok.fresh (Nat.le_refl s.heap.objs.size)
  exact ⟨.ref _, upd H s.heap.objs.size (SetTx X.prog X.w s.heap.objs.size m), I.call' (ch := []) hos (Un.laid hk (Nat.le_refl _) hn) (I.hok.laid hk (Nat.le_refl _) (setTx_ok ho T)) (by rw [hg]; exact I.bare) (fun _ z => nomatch z), rfl, q _ m hn T.nd hm hml⟩
theorem cr_sortedTx (hc : X.calm = true) : CallR X (.builtin "sorted") (fun vs H Q => ∃ (a : Addr) (m : List Str), vs = [.ref a] ∧ H a = some (SetTx X.prog X.w a m) ∧ m.length < 64 ∧ ∀ (ys : List Str) (p : Addr), ys.Perm m → sortedS ys = true → H p = none → Q (.ref p) (upd H p (.lst (ys.map V.str)))) := by
  rintro pins s σ H _ us Q I r ⟨a, m, rfl, ha, h64, q⟩
  obtain ⟨⟨D, ho, T⟩, _⟩ := (show ObjOk X.prog X.w H s.heap a (SetTx X.prog X.w a m) from I.hok a _ ha)
  rw [Vals.ref1 r]
  have hsz : D.1.size = m.length := T.ok.sz
  -- the members as texts
  have txt : ∀ e ∈ D.1.toList, ∃ x t, e.2 = Value.str x t := fun e he => by
    obtain ⟨⟨k, hk, _⟩, _⟩ := T.ok.el e he
    obtain ⟨t, ht⟩ := Value.isStrOf_shape (show Value.isStrOf k e.2 = true from hk)
    exact ⟨k, t, ht⟩
  have keys : m.Perm (D.1.toList.map fun e => strOf e.2) := perm_sub T.nd (fun z hz => by
    obtain ⟨e, he, ie⟩ := (T.ok.mem z).mp hz
    obtain ⟨x, t, ex⟩ := txt e he
    refine List.mem_map.mpr ⟨e, he, ?_⟩
    rw [ex] at ie ⊢
    exact (strKind X.prog X.w).inj _ _ _ (is_str x t) ie) (by rw [List.length_map, Array.length_toList]; exact hsz.symm)
  refine Calls.call_function_entry kind_sorted plain_sorted entry_sorted (args_sorted1 _) ?_
  unfold Builtin.«sorted»
  refine wpAny_bind (m := checkCount "sorted" 1 1 _) (wpAny_pure (wpAny_bind (collect_set (A := X.A.in1) (I.ok.hd hc) ⟨_, ho, rfl, rfl⟩ T.ok.fit (by rw [hsz]; unfold scanBound; omega) T.ris T.led fun s1 vs k1 hz1 g1 o1 pm => ?_)))
  have vl : vs.length = m.length := by rw [pm.length_eq, List.length_map, Array.length_toList, hsz]
  have hS : StrsAre vs (vs.map strOf) := strsAre_map vs fun v hv => by
    obtain ⟨e, he, rfl⟩ := List.mem_map.mp (pm.mem_iff.mp hv)
    exact txt e he
  have pS : (vs.map strOf).Perm m := by
    have := pm.map strOf
    rw [List.map_map] at this
    exact this.trans keys.symm
  have new : (s1.heap.push (seqObj "list" vs.toArray 0)).get? s1.heap.objs.size = some (seqObj "list" vs.toArray 0) := Heap.get?_push_size _ rfl
  refine wpAny_bind (wpAny_newList (wpAny_bind (wpAny_holding (wpAny_call_entry slot_list_sort ⟨_, new, rfl⟩ entry_list_sort (list_sort_treeK strKind_oneLt new hS.keysOf (fun v₁ v₂ rest e => keyKind_strs (by rw [← e]; exact hS)) (by omega) fun st' hp hs => ?_) (args_list_sort _)))) (small1000 (by omega) |> Nat.le_of_lt))
  obtain ⟨ys, y1, y2, y3⟩ := sorted_out_str hS hp hs
  obtain ⟨c, hcc⟩ := sortedHeap_at (vs := vs) (out := (arrOf st').map (·.2)) new
  refine ⟨_, rfl, wpAny_pure ⟨_, rfl, ?_⟩⟩
  have old : ∀ b o, s.heap.get? b = some o → (sortedHeap (s1.heap.push (seqObj "list" vs.toArray 0)) s1.heap.objs.size vs ((arrOf st').map (·.2))).get? b = some o := fun b o e => by
    have e1 := k1 b o e
    have lt := Heap.lt_size e1
    rw [sortedHeap_old (Nat.ne_of_lt lt) (by rw [size_push']; exact Nat.lt_succ_of_lt lt)]
    exact Heap.get?_push_of_some _ e1
  have hn := I.hok.fresh hz1
  have yl : (ys.map V.str).length ≤ sizeLine := by
    have := (y2.trans pS).length_eq
    rw [List.length_map]
    exact Nat.le_of_lt (small1000 (by omega))
  exact ⟨.ref _, upd H s1.heap.objs.size (.lst (ys.map V.str)), I.call' (ch := []) o1 (Un.laid old hz1 hn) (I.hok.laid old hz1 ⟨yl, _, c, vals_of_strs y1, hcc⟩) (by show AllBare s1.gens; rw [g1]; exact I.bare) (fun _ z => nomatch z), rfl, q ys _ (y2.trans pS) y3 hn⟩
end
end LG
-- K8H
namespace LG
open PySem L2
def top (i : Nat) : Stmt := PySem.Challenge.pw_leastguards_k08_whole_view_history.main.body.getD i (.Pass ⟨0, 0, 0, 0⟩)
abbrev s_is_row : Stmt := top 2
abbrev s_is_name : Stmt := top 3
abbrev s_first_other : Stmt := top 4
abbrev s_BadWord___init__ : Stmt := inClass (top 7) 0
abbrev s_BadView___init__ : Stmt := inClass (top 8) 0
abbrev s_checked_sights : Stmt := top 10
abbrev s_checked_words : Stmt := top 11
abbrev s_marked : Stmt := top 12
abbrev s_View___init__ : Stmt := inClass (top 13) 0
abbrev s_View_words : Stmt := inClass (top 13) 1
abbrev s_View_sights : Stmt := inClass (top 13) 2
abbrev s_View_holds : Stmt := inClass (top 13) 3
abbrev s_View_holds_2 : Stmt := inClass (top 13) 4
abbrev s_View_hold_just : Stmt := inClass (top 13) 5
abbrev s_View_copy : Stmt := inClass (top 13) 6
abbrev s_View___eq__ : Stmt := inClass (top 13) 7
abbrev s_View___len__ : Stmt := inClass (top 13) 8
abbrev s_View___contains__ : Stmt := inClass (top 13) 9
abbrev s_View___iter__ : Stmt := inClass (top 13) 10
abbrev s_View___getitem__ : Stmt := inClass (top 13) 11
abbrev s_View___setitem__ : Stmt := inClass (top 13) 12
abbrev s_View___or__ : Stmt := inClass (top 13) 13
abbrev s_View___ror__ : Stmt := inClass (top 13) 14
abbrev s_View___ior__ : Stmt := inClass (top 13) 15
abbrev s_View___sub__ : Stmt := inClass (top 13) 16
abbrev s_View___isub__ : Stmt := inClass (top 13) 17
abbrev s_seeing : Stmt := top 14
abbrev s__law_flag : Stmt := top 16
abbrev s__law_stream : Stmt := top 17
abbrev s__law_draw : Stmt := top 18
abbrev s__law_names : Stmt := top 19
abbrev s__law_do : Stmt := top 20
abbrev s__law_right : Stmt := top 21
abbrev s_law : Stmt := top 22
theorem sc_is_row : FnScope ["value"] ["value"] (defScope s_is_row) := ⟨rfl, rfl, rfl, by decide +kernel, rfl, by decide +kernel, by decide +kernel⟩
theorem sc_is_name : FnScope ["value", "char"] ["value"] (defScope s_is_name) := ⟨rfl, rfl, rfl, by decide +kernel, rfl, by decide +kernel, by decide +kernel⟩
theorem sc_first_other : FnScope ["names", "at", "name"] ["names"] (defScope s_first_other) := ⟨rfl, rfl, rfl, by decide +kernel, rfl, by decide +kernel, by decide +kernel⟩
theorem sc_checked_sights : FnScope ["sights", "table", "word", "sight"] ["sights"] (defScope s_checked_sights) := ⟨rfl, rfl, rfl, by decide +kernel, rfl, by decide +kernel, by decide +kernel⟩
theorem sc_checked_words : FnScope ["words", "at"] ["words"] (defScope s_checked_words) := ⟨rfl, rfl, rfl, by decide +kernel, rfl, by decide +kernel, by decide +kernel⟩
theorem sc_marked : FnScope ["words", "word"] ["words"] (defScope s_marked) := ⟨rfl, rfl, rfl, by decide +kernel, rfl, by decide +kernel, by decide +kernel⟩
theorem sc_View___init__ : FnScope ["self", "sights", "holds"] ["self", "sights", "holds"] (defScope s_View___init__) := ⟨rfl, rfl, rfl, by decide +kernel, rfl, by decide +kernel, by decide +kernel⟩
theorem sc_View_words : FnScope ["self"] ["self"] (defScope s_View_words) := ⟨rfl, rfl, rfl, by decide +kernel, rfl, by decide +kernel, by decide +kernel⟩
theorem sc_View_sights : FnScope ["self", "word"] ["self"] (defScope s_View_sights) := ⟨rfl, rfl, rfl, by decide +kernel, rfl, by decide +kernel, by decide +kernel⟩
theorem sc_View_holds : FnScope ["self"] ["self"] (defScope s_View_holds) := ⟨rfl, rfl, rfl, by decide +kernel, rfl, by decide +kernel, by decide +kernel⟩
theorem sc_View_holds_2 : FnScope ["self", "value"] ["self", "value"] (defScope s_View_holds_2) := ⟨rfl, rfl, rfl, by decide +kernel, rfl, by decide +kernel, by decide +kernel⟩
theorem sc_View_hold_just : FnScope ["self", "words"] ["self", "words"] (defScope s_View_hold_just) := ⟨rfl, rfl, rfl, by decide +kernel, rfl, by decide +kernel, by decide +kernel⟩
theorem sc_View_copy : FnScope ["self"] ["self"] (defScope s_View_copy) := ⟨rfl, rfl, rfl, by decide +kernel, rfl, by decide +kernel, by decide +kernel⟩
theorem sc_View___eq__ : FnScope ["self", "other"] ["self", "other"] (defScope s_View___eq__) := ⟨rfl, rfl, rfl, by decide +kernel, rfl, by decide +kernel, by decide +kernel⟩
theorem sc_View___len__ : FnScope ["self"] ["self"] (defScope s_View___len__) := ⟨rfl, rfl, rfl, by decide +kernel, rfl, by decide +kernel, by decide +kernel⟩
theorem sc_View___contains__ : FnScope ["self", "word"] ["self", "word"] (defScope s_View___contains__) := ⟨rfl, rfl, rfl, by decide +kernel, rfl, by decide +kernel, by decide +kernel⟩
theorem sc_View___iter__ : FnScope ["self"] ["self"] (defScope s_View___iter__) := ⟨rfl, rfl, rfl, by decide +kernel, rfl, by decide +kernel, by decide +kernel⟩
theorem sc_View___getitem__ : FnScope ["self", "word"] ["self", "word"] (defScope s_View___getitem__) := ⟨rfl, rfl, rfl, by decide +kernel, rfl, by decide +kernel, by decide +kernel⟩
theorem sc_View___setitem__ : FnScope ["self", "word", "sight"] ["self", "word", "sight"] (defScope s_View___setitem__) := ⟨rfl, rfl, rfl, by decide +kernel, rfl, by decide +kernel, by decide +kernel⟩
theorem sc_View___or__ : FnScope ["self", "more", "added"] ["self", "more"] (defScope s_View___or__) := ⟨rfl, rfl, rfl, by decide +kernel, rfl, by decide +kernel, by decide +kernel⟩
theorem sc_View___ror__ : FnScope ["self", "more", "added"] ["self", "more"] (defScope s_View___ror__) := ⟨rfl, rfl, rfl, by decide +kernel, rfl, by decide +kernel, by decide +kernel⟩
theorem sc_View___ior__ : FnScope ["self", "more", "added"] ["self", "more"] (defScope s_View___ior__) := ⟨rfl, rfl, rfl, by decide +kernel, rfl, by decide +kernel, by decide +kernel⟩
theorem sc_View___sub__ : FnScope ["self", "words", "gone", "table", "word"] ["self", "words"] (defScope s_View___sub__) := ⟨rfl, rfl, rfl, by decide +kernel, rfl, by decide +kernel, by decide +kernel⟩
theorem sc_View___isub__ : FnScope ["self", "words", "gone", "word"] ["self", "words"] (defScope s_View___isub__) := ⟨rfl, rfl, rfl, by decide +kernel, rfl, by decide +kernel, by decide +kernel⟩
theorem sc_seeing : FnScope ["words", "holds", "word"] ["words", "holds"] (defScope s_seeing) := ⟨rfl, rfl, rfl, by decide +kernel, rfl, by decide +kernel, by decide +kernel⟩
theorem sc__law_flag : FnScope ["_law_told", "_law_due"] ["_law_told", "_law_due"] (defScope s__law_flag) := ⟨rfl, rfl, rfl, by decide +kernel, rfl, by decide +kernel, by decide +kernel⟩
theorem sc__law_stream : FnScope ["_law_script", "_law_at", "_law_cell"] ["_law_script", "_law_at"] (defScope s__law_stream) := ⟨rfl, rfl, rfl, by decide +kernel, rfl, by decide +kernel, by decide +kernel⟩
theorem sc__law_draw : FnScope ["_law_stream_here", "_law_limit", "_law_rest", "_law_number"] ["_law_stream_here", "_law_limit"] (defScope s__law_draw) := ⟨rfl, rfl, rfl, by decide +kernel, rfl, by decide +kernel, by decide +kernel⟩
theorem sc__law_names : FnScope ["_law_stream_here", "_law_count", "_law_names_here", "_law_k", "_law_name", "_law_turn"] ["_law_stream_here", "_law_count"] (defScope s__law_names) := ⟨rfl, rfl, rfl, by decide +kernel, rfl, by decide +kernel, by decide +kernel⟩
theorem sc__law_do : FnScope ["_law_stream_here", "_law_views", "_law_models", "_law_names_here", "_law_which", "_law_kind", "_law_word", "_law_sight", "_law_row", "_law_view", "_law_table", "_law_holds", "_law_gone", "_law_seen", "_law_turn"] ["_law_stream_here", "_law_views", "_law_models", "_law_names_here"] (defScope s__law_do) := ⟨rfl, rfl, rfl, by decide +kernel, rfl, by decide +kernel, by decide +kernel⟩
theorem sc__law_right : FnScope ["_law_view", "_law_model", "_law_names_here", "_law_name"] ["_law_view", "_law_model", "_law_names_here"] (defScope s__law_right) := ⟨rfl, rfl, rfl, by decide +kernel, rfl, by decide +kernel, by decide +kernel⟩
theorem sc_law : FnScope ["_law_script", "_law_names_here", "_law_views", "_law_models", "_law_at", "_law_before", "_law_kept"] ["_law_script"] (defScope s_law) := ⟨rfl, rfl, rfl, by decide +kernel, rfl, by decide +kernel, by decide +kernel⟩
structure Blt (mg : Str → Option Value) : Prop where
  TypeError_ : mg "TypeError" = none
  ValueError_ : mg "ValueError" = none
  bool_ : mg "bool" = none
  dict_ : mg "dict" = none
  enumerate_ : mg "enumerate" = none
  int_ : mg "int" = none
  isinstance_ : mg "isinstance" = none
  len_ : mg "len" = none
  list_ : mg "list" = none
  min_ : mg "min" = none
  property_ : mg "property" = none
  range_ : mg "range" = none
  set_ : mg "set" = none
  sorted_ : mg "sorted" = none
  str_ : mg "str" = none
  super_ : mg "super" = none
  tuple_ : mg "tuple" = none
end LG
-- D1
namespace LG
open PySem L2
local macro_rules | `(tactic| walk_at "v") => `(tactic| first | refine we_var 0 rfl ?_ | refine we_var 1 rfl ?_ | refine we_var 2 rfl ?_ | refine we_var 3 rfl ?_ | refine we_var 4 rfl ?_ | refine we_var 5 rfl ?_ | refine we_var 6 rfl ?_ | refine we_var 7 rfl ?_ | refine we_var 8 rfl ?_ | refine we_var 9 rfl ?_ | refine we_var 10 rfl ?_ | refine we_var 11 rfl ?_ | refine we_var 12 rfl ?_ | refine we_var 13 rfl ?_ | refine we_var 14 rfl ?_ | refine we_var 15 rfl ?_)
local macro_rules | `(tactic| walk_at "c") => `(tactic| first | refine we_int ?_ | refine we_str ?_ | refine we_bl ?_ | refine we_non ?_ | walk_at "v")
local macro_rules | `(tactic| walk_at "s") => `(tactic| first | refine wb_one ?_ | refine wb_cons ?_ | refine wb_nil ?_)
section
variable {X : Cx} {a b c : Expr} {σ : L2.St} {H : Hp} {Q : VK} {R : Bool → Hp → Prop} {pos : Pos}
theorem wt_chain {op op' : CmpOp} {r r' : R2} (ho : OpR X (compareOp op) r) (ho' : OpR X (compareOp op') r')
    (h : WE X a σ H fun x H1 => WE X b σ H1 fun y H2 => r x y H2 fun z H3 => ∃ k, z = .bl k ∧ if k = true then WE X c σ H3 fun u H4 => r' y u H4 fun z H' => ∃ k, z = .bl k ∧ R k H' else ∃ k, V.bl false = .bl k ∧ R k H3)
    (hm : lastMarks [op, op'] [b, c] = false := by with_unfolding_all rfl) : WT X (.Compare a [op, op'] [b, c] pos) σ H R := toT (pt_chain ho ho' wE wE wE hm) h
end
/-! ### names -/
def isLow (c : Nat) : Bool := decide (97 ≤ c) && decide (c ≤ 122)
def isNm (z : Str) : Bool := (decide (1 ≤ z.length) && decide (z.length ≤ 12)) && z.cps.toList.all isLow
theorem cps_a : ("a" : Str).cps.toList = [97] := by decide +kernel
theorem cps_z : ("z" : Str).cps.toList = [122] := by decide +kernel
theorem lt_one {a b : Nat} : decide ([a] < [b]) = decide (a < b) := by
  by_cases h : a < b
  · rw [decide_eq_true h, decide_eq_true]
    exact List.Lex.rel h
  · rw [decide_eq_false h, decide_eq_false]
    intro q
    cases q with
    | rel q => exact h q
    | cons q => cases q
/-- a value as is_name sees it -/
def NameV (K : PySem.W.Frag) (H : Hp) (x : V) (b : Bool) : Prop := (∃ z, x = .str z ∧ z.length ≤ sizeLine ∧ b = isNm z) ∨ (∃ t, TyX K H x t ∧ PySem.W.kitOne K t (.type "str") = some false ∧ b = false)
theorem NameV.same {K : PySem.W.Frag} {H H' : Hp} {x : V} {b : Bool} (h : NameV K H x b) (s : Same H H') : NameV K H' x b := by
  rcases h with h | ⟨t, h1, h2, h3⟩
  · exact .inl h
  · exact .inr ⟨t, TyX.same h1 s, h2, h3⟩
def spIsRow (K : PySem.W.Frag) : Sp := fun vs H Q _ => ∃ (x : V) (t : Value) (b : Bool), vs = [x] ∧ TyX K H x t ∧ PySem.W.kitAny K t [.type "list", .type "tuple"] = some b ∧ ∀ H', Led H [] H' [] → Q (.bl b) H'
def spIsName (K : PySem.W.Frag) : Sp := fun vs H Q _ => ∃ (x : V) (b : Bool), vs = [x] ∧ NameV K H x b ∧ Q (.bl b) H
section
variable {P : Program} {w : World} {K : PySem.W.Frag} {mg : Str → Option Value} {base : Heap} {f : Addr} {fd : FuncData}
theorem ok_is_row (B : Blt mg) (F : FnP K "is_row" "is_row" s_is_row [] f fd) : FnOk P w K mg base (L2.CX P w) 1 f fd ["value"] (spIsRow K) := by
  refine FunD.okW F sc_is_row (fun vs H Q E h => ?_) (fun cdv A outer s H vs Q E hr h => ?_)
  · obtain ⟨x, t, b, rfl, _⟩ := h
    rfl
  · obtain ⟨x, t, b, rfl, ht, hk, q⟩ := h
    refine wb_one (ws_ret (we_callB call_isiT B.isinstance_ (by decide +kernel) ?_))
    refine wa_cons ?_
    walk_at "v"
    refine wa_cons (we_tup ?_)
    refine wa_cons (we_bltn (v := .ty "list") B.list_ (by decide +kernel) rfl ?_)
    refine wa_cons (we_bltn (v := .ty "tuple") B.tuple_ (by decide +kernel) rfl ?_)
    refine wa_nil ⟨by decide, fun p hp => wa_nil ?_⟩
    exact ⟨x, p, _, t, _, b, rfl, upd_same, .cons (.ty _) (.cons (.ty _) .nil), TyX.same ht (same_new hp), hk, q _ (Led.of_same (same_new hp))⟩
theorem ok_is_name (B : Blt mg) (gM : ∃ t, mg "MOST_LETTERS" = some (.int 12 t)) (F : FnP K "is_name" "is_name" s_is_name [] f fd) : FnOk P w K mg base (L2.CX P w) 1 f fd ["value"] (spIsName K) := by
  refine FunD.okW F sc_is_name (fun vs H Q E h => ?_) (fun cdv A outer s H vs Q E hr h => ?_)
  · obtain ⟨x, b, rfl, _⟩ := h
    rfl
  · obtain ⟨x, b, rfl, hn, q⟩ := h
    obtain ⟨tM, gM⟩ := gM
    refine wb_cons (ws_if (wt_or (wt_not (wt_val (we_callB call_isi B.isinstance_ (by decide +kernel) ?_)))))
    refine wa_cons ?_
    walk_at "v"
    refine wa_cons (we_bltn (v := .ty "str") B.str_ (by decide +kernel) rfl (wa_nil ?_))
    rcases hn with ⟨z, rfl, hz, rfl⟩ | ⟨t, ht, hk, rfl⟩
    · refine ⟨_, _, _, _, true, rfl, .ty _, .base (.str z), kit_ty (by decide +kernel), _, rfl, iteF ?_⟩
      refine ww_or1 (wt_not (wt_chain op_le op_le (we_int ?_)))
      refine we_callB call_len B.len_ (by decide +kernel) (wa_cons ?_)
      walk_at "v"
      refine wa_nil ⟨_, z.length, rfl, ⟨hz, rfl⟩, _, _, rfl, rfl, _, rfl, ?_⟩
      refine ite2 (fun h1 => ?_) (fun h1 => ?_)
      · refine we_glob (v := .int 12) gM ⟨_, rfl⟩ ⟨_, _, rfl, rfl, _, rfl, ?_⟩
        refine ite2 (fun h2 => ?_) (fun h2 => ?_)
        · refine wb_one (ws_ret (we_bl ?_))
          have e : isNm z = false := by
            unfold isNm
            have : decide (z.length ≤ 12) = false := by
              simp only [Bool.not_eq_true', decide_eq_false_iff_not] at h2
              exact decide_eq_false (by omega)
            rw [this]; simp
          rw [e] at q
          exact q
        · refine wb_nil ?_
          have h12 : 1 ≤ z.length ∧ z.length ≤ 12 := by
            simp only [Bool.not_eq_true', decide_eq_false_iff_not, Decidable.not_not, decide_eq_true_eq] at h1 h2
            omega
          refine wb_cons (ws_for (passes_of rfl) (pg_name (i := 1) sc_is_name.nd rfl (.inl rfl)) (wi_str ?_))
          walk_at "v"
          refine ⟨z, rfl, fun J w => ⟨_, _, _, w, fun i σ H' => H' = H ∧ (∃ v, σ = [some (.str z), v]) ∧ ∀ k c, k < i → z.cps[k]? = some c → isLow c = true, ?_, fun _ _ _ _ _ => trivial, ?_, ?_⟩⟩
          · exact ⟨rfl, ⟨_, rfl⟩, fun k c hk => by omega⟩
          · rintro i x σ H1 H2 hi ⟨rfl, ⟨v, rfl⟩, hk⟩ ⟨rfl, ch, hc, rfl⟩
            have bad : isLow ch = false → isNm z = false := fun e => by
              unfold isNm
              rw [Bool.and_eq_false_iff]
              right
              rw [List.all_eq_false]
              exact ⟨ch, Array.mem_toList_iff.mpr (Array.mem_of_getElem? hc), by rw [e]; simp⟩
            refine wb_one (ws_if (wt_not (wt_chain op_le_str op_le_str (we_str ?_))))
            walk_at "v"
            refine ⟨_, _, rfl, rfl, _, rfl, ?_⟩
            rw [cps_a, show ({ cps := #[ch] } : Str).cps.toList = [ch] from rfl, lt_one]
            refine ite2 (fun c1 => ?_) (fun c1 => ?_)
            · refine we_str ⟨_, _, rfl, rfl, _, rfl, ?_⟩
              rw [cps_z, show ({ cps := #[ch] } : Str).cps.toList = [ch] from rfl, lt_one]
              refine ite2 (fun c2 => ?_) (fun c2 => ?_)
              · refine wb_one (ws_ret (we_bl ?_))
                rw [bad (by unfold isLow; simp at c2; simp; omega)] at q
                exact q
              · refine wb_nil ⟨rfl, ⟨_, rfl⟩, fun k c hk' hc' => ?_⟩
                by_cases e : k = i
                · subst e
                  rw [hc] at hc'; cases hc'
                  unfold isLow; simp at c1 c2; simp; omega
                · exact hk k c (by omega) hc'
            · refine ⟨_, rfl, iteT (wb_one (ws_ret (we_bl ?_)))⟩
              rw [bad (by unfold isLow; simp at c1; simp; omega)] at q
              exact q
          · rintro σ H1 ⟨rfl, ⟨v, rfl⟩, hk⟩
            refine wb_one (ws_ret (we_bl ?_))
            have e : isNm z = true := by
              unfold isNm
              rw [decide_eq_true h12.1, decide_eq_true h12.2]
              simp only [Bool.and_self, Bool.true_and, List.all_eq_true]
              intro c hc
              obtain ⟨k, hk1, hk2⟩ := List.mem_iff_getElem.mp hc
              refine hk k c ?_ ?_
              · simpa using hk1
              · rw [← hk2]; simp
            rw [e] at q
            exact q
      · refine ⟨_, rfl, iteT (wb_one (ws_ret (we_bl ?_)))⟩
        have e : isNm z = false := by
          unfold isNm
          have : decide (1 ≤ z.length) = false := by
            simp only [decide_eq_true_eq] at h1
            exact decide_eq_false (by omega)
          rw [this]; simp
        rw [e] at q
        exact q
    · refine ⟨_, _, _, _, false, rfl, .ty _, ht, hk, _, rfl, iteT (iteT ?_)⟩
      exact wb_one (ws_ret (we_bl q))
end
end LG
-- D2
namespace LG
open PySem L2
local macro_rules | `(tactic| walk_at "v") => `(tactic| first | refine we_var 0 rfl ?_ | refine we_var 1 rfl ?_ | refine we_var 2 rfl ?_ | refine we_var 3 rfl ?_ | refine we_var 4 rfl ?_ | refine we_var 5 rfl ?_ | refine we_var 6 rfl ?_ | refine we_var 7 rfl ?_ | refine we_var 8 rfl ?_ | refine we_var 9 rfl ?_ | refine we_var 10 rfl ?_ | refine we_var 11 rfl ?_ | refine we_var 12 rfl ?_ | refine we_var 13 rfl ?_ | refine we_var 14 rfl ?_ | refine we_var 15 rfl ?_)
local macro_rules | `(tactic| walk_at "c") => `(tactic| first | refine we_int ?_ | refine we_str ?_ | refine we_bl ?_ | refine we_non ?_ | walk_at "v")
local macro_rules | `(tactic| walk_at "s") => `(tactic| first | refine wb_one ?_ | refine wb_cons ?_ | refine wb_nil ?_)
/-! ### first_other -/
def fstO (bs : List Bool) : Int := match bs.findIdx? (fun b => !b) with
  | some i => (i : Int)
  | none => -1
def RowAt (K : PySem.W.Frag) (H : Hp) (a : Addr) (xs : List V) : Prop := SqL K H a xs ∨ SqT K H a xs
theorem sqT_same {K : PySem.W.Frag} {H H' : Hp} {a : Addr} {xs : List V} (e : Same H H') (h : SqT K H a xs) : SqT K H' a xs := h.imp (fun h => h.imp (fun h => e _ _ h) fun ⟨o, h⟩ => ⟨o, e _ _ h⟩) id
theorem RowAt.same {K : PySem.W.Frag} {H H' : Hp} {a : Addr} {xs : List V} (h : RowAt K H a xs) (e : Same H H') : RowAt K H' a xs := h.imp (fun h => e.seq h) (fun h => sqT_same e h)
def spFirstOther (K : PySem.W.Frag) : Sp := fun vs H Q _ => ∃ (a : Addr) (xs : List V) (bs : List Bool), vs = [.ref a] ∧ RowAt K H a xs ∧ bs.length = xs.length ∧ (∀ (i : Nat) (x : V) (b : Bool), xs[i]? = some x → bs[i]? = some b → NameV K H x b) ∧
  ∀ H', Led H [] H' [] → Q (.int (fstO bs)) H'
section
variable {P : Program} {w : World} {K : PySem.W.Frag} {mg : Str → Option Value} {base : Heap} {f : Addr} {fd : FuncData}
theorem ok_first_other (B : Blt mg) (gN : GFn P w K mg base "is_name" 1 [] (spIsName K)) (F : FnP K "first_other" "first_other" s_first_other [] f fd) : FnOk P w K mg base (L2.CX P w) 2 f fd ["names"] (spFirstOther K) := by
  refine FunD.okW F sc_first_other (fun vs H Q E h => ?_) (fun cdv A outer s H vs Q E hr h => ?_)
  · obtain ⟨a, xs, bs, rfl, _⟩ := h
    rfl
  · obtain ⟨a, xs, bs, rfl, ha, hl, hb, q⟩ := h
    refine wb_cons ?_
    rcases ha with ha | ha
    · refine ws_for (passes_of rfl) (pg2 (i := 1) (j := 2) sc_first_other.nd rfl (.inl rfl) rfl (.inl rfl)) (wi_enum B.enumerate_ ?_)
      walk_at "v"
      refine ⟨a, xs, rfl, ha, fun J w => ⟨_, _, _, w, fun i σ H' => Same H H' ∧ (∃ u v, σ = [some (.ref a), u, v]) ∧ ∀ k, k < i → bs[k]? = some true, ?_, fun i σ H1 _ p => p.1.seq ha, ?_, ?_⟩⟩
      · exact ⟨Same.refl _, ⟨_, _, rfl⟩, fun k hk => by omega⟩
      · rintro i x σ H1 H2 hi ⟨hs, ⟨u, v, rfl⟩, hk⟩ ⟨T, y, z, rfl, hT, rfl, hy, hz⟩
        cases hy
        have hs2 : Same H (upd H1 T (.tup [.int (i : Nat), z])) := hs.trans (same_new hT)
        refine g2_of upd_same ?_
        obtain ⟨b, eb⟩ : ∃ b, bs[i]? = some b := ⟨bs[i]'(by omega), by simp [hl, hi]⟩
        refine wb_one (ws_if (wt_not (wt_val (we_call gN hr passL (wa_cons ?_)))))
        walk_at "v"
        refine wa_nil ⟨z, b, rfl, (hb i z b hz eb).same hs2, b, rfl, ?_⟩
        cases b with
        | false =>
          refine iteT (wb_one (ws_ret ?_))
          walk_at "v"
          have e : fstO bs = (i : Int) := by
            unfold fstO
            have : bs.findIdx? (fun b => !b) = some i := by
              rw [List.findIdx?_eq_some_iff_getElem]
              have h1 := List.getElem?_eq_some_iff.mp eb
              refine ⟨h1.1, by simp [h1.2], fun j hj => ?_⟩
              have h2 := List.getElem?_eq_some_iff.mp (hk j hj)
              simp [h2.2]
            rw [this]
          rw [e] at q
          exact q _ (Led.of_same hs2)
        | true =>
          refine iteF (wb_nil ⟨hs2, ⟨_, _, rfl⟩, fun k hk' => ?_⟩)
          by_cases e : k = i
          · rw [e]; exact eb
          · exact hk k (by omega)
      · rintro σ H1 ⟨hs, ⟨u, v, rfl⟩, hk⟩
        refine wb_one (ws_ret (we_un un_neg (we_int ⟨_, rfl, ?_⟩)))
        have e : fstO bs = -1 := by
          unfold fstO
          have : bs.findIdx? (fun b => !b) = none := by
            rw [List.findIdx?_eq_none_iff]
            intro x hx
            obtain ⟨k, hk1, hk2⟩ := List.mem_iff_getElem.mp hx
            have := hk k (by omega)
            rw [List.getElem?_eq_getElem hk1] at this
            rw [← hk2, Option.some.inj this]; rfl
          rw [this]
        rw [e] at q
        exact q _ (Led.of_same hs)
    · refine ws_for (passes_of rfl) (pg2 (i := 1) (j := 2) sc_first_other.nd rfl (.inl rfl) rfl (.inl rfl)) (wi_enumT B.enumerate_ ?_)
      walk_at "v"
      refine ⟨a, xs, rfl, ha, fun J w => ⟨_, _, _, w, fun i σ H' => Same H H' ∧ (∃ u v, σ = [some (.ref a), u, v]) ∧ ∀ k, k < i → bs[k]? = some true, ?_, fun i σ H1 _ p => sqT_same p.1 ha, ?_, ?_⟩⟩
      · exact ⟨Same.refl _, ⟨_, _, rfl⟩, fun k hk => by omega⟩
      · rintro i x σ H1 H2 hi ⟨hs, ⟨u, v, rfl⟩, hk⟩ ⟨T, y, z, rfl, hT, rfl, hy, hz⟩
        cases hy
        have hs2 : Same H (upd H1 T (.tup [.int (i : Nat), z])) := hs.trans (same_new hT)
        refine g2_of upd_same ?_
        obtain ⟨b, eb⟩ : ∃ b, bs[i]? = some b := ⟨bs[i]'(by omega), by simp [hl, hi]⟩
        refine wb_one (ws_if (wt_not (wt_val (we_call gN hr passL (wa_cons ?_)))))
        walk_at "v"
        refine wa_nil ⟨z, b, rfl, (hb i z b hz eb).same hs2, b, rfl, ?_⟩
        cases b with
        | false =>
          refine iteT (wb_one (ws_ret ?_))
          walk_at "v"
          have e : fstO bs = (i : Int) := by
            unfold fstO
            have : bs.findIdx? (fun b => !b) = some i := by
              rw [List.findIdx?_eq_some_iff_getElem]
              have h1 := List.getElem?_eq_some_iff.mp eb
              refine ⟨h1.1, by simp [h1.2], fun j hj => ?_⟩
              have h2 := List.getElem?_eq_some_iff.mp (hk j hj)
              simp [h2.2]
            rw [this]
          rw [e] at q
          exact q _ (Led.of_same hs2)
        | true =>
          refine iteF (wb_nil ⟨hs2, ⟨_, _, rfl⟩, fun k hk' => ?_⟩)
          by_cases e : k = i
          · rw [e]; exact eb
          · exact hk k (by omega)
      · rintro σ H1 ⟨hs, ⟨u, v, rfl⟩, hk⟩
        refine wb_one (ws_ret (we_un un_neg (we_int ⟨_, rfl, ?_⟩)))
        have e : fstO bs = -1 := by
          unfold fstO
          have : bs.findIdx? (fun b => !b) = none := by
            rw [List.findIdx?_eq_none_iff]
            intro x hx
            obtain ⟨k, hk1, hk2⟩ := List.mem_iff_getElem.mp hx
            have := hk k (by omega)
            rw [List.getElem?_eq_getElem hk1] at this
            rw [← hk2, Option.some.inj this]; rfl
          rw [this]
        rw [e] at q
        exact q _ (Led.of_same hs)
end
end LG
-- D3
namespace LG
open PySem L2
local macro_rules | `(tactic| walk_at "v") => `(tactic| first | refine we_var 0 rfl ?_ | refine we_var 1 rfl ?_ | refine we_var 2 rfl ?_ | refine we_var 3 rfl ?_ | refine we_var 4 rfl ?_ | refine we_var 5 rfl ?_ | refine we_var 6 rfl ?_ | refine we_var 7 rfl ?_ | refine we_var 8 rfl ?_ | refine we_var 9 rfl ?_ | refine we_var 10 rfl ?_ | refine we_var 11 rfl ?_ | refine we_var 12 rfl ?_ | refine we_var 13 rfl ?_ | refine we_var 14 rfl ?_ | refine we_var 15 rfl ?_)
local macro_rules | `(tactic| walk_at "c") => `(tactic| first | refine we_int ?_ | refine we_str ?_ | refine we_bl ?_ | refine we_non ?_ | walk_at "v")
local macro_rules | `(tactic| walk_at "s") => `(tactic| first | refine wb_one ?_ | refine wb_cons ?_ | refine wb_nil ?_)
/-! ### tables of texts -/
def tK (tb : List (Str × Str)) : List (Key × V) := tb.map fun p => (.inr p.1, .str p.2)
def cK (cn : List Str) : List (Key × V) := cn.map fun z => (.inr z, .bl true)
/-- once each, by the first place -/
def dd (zs : List Str) : List Str := zs.foldl (fun acc z => if z ∈ acc then acc else acc ++ [z]) []
abbrev Keys (tb : List (Str × Str)) : List Str := tb.map (·.1)
structure TbOk (tb : List (Str × Str)) : Prop where
  nd : (Keys tb).Nodup
  nm : ∀ p ∈ tb, isNm p.1 = true ∧ isNm p.2 = true
  sz : tb.length ≤ 1000
theorem key_inj {a b : Str} : ((Sum.inr a : Key) = Sum.inr b) ↔ a = b := ⟨fun h => Sum.inr.inj h, fun h => by rw [h]⟩
theorem valV_tK : ∀ (tb : List (Str × Str)) (z : Str), valV (tK tb) (.inr z) = (tb.lookup z).map V.str
  | [], z => rfl
  | (a, b) :: r, z => by
    by_cases h : a = z
    · subst h
      rw [show tK ((a, b) :: r) = ((Sum.inr a : Key), V.str b) :: tK r from rfl, valV_pos rfl, List.lookup_cons_self]; rfl
    · have h2 : ¬ ((Sum.inr a : Key), V.str b).1 = Sum.inr z := fun e => h (Sum.inr.inj e)
      rw [show tK ((a, b) :: r) = ((Sum.inr a : Key), V.str b) :: tK r from rfl, valV_neg h2, valV_tK r z, List.lookup_cons, show (z == a) = false from beq_eq_false_iff_ne.mpr fun e => h e.symm]
theorem lookup_none_of {tb : List (Str × Str)} {z : Str} (h : z ∉ Keys tb) : tb.lookup z = none := by
  induction tb with
  | nil => rfl
  | cons p r ih =>
    obtain ⟨a, b⟩ := p
    simp only [Keys, List.map_cons, List.mem_cons, not_or] at h
    rw [List.lookup_cons, show (z == a) = false from beq_eq_false_iff_ne.mpr h.1]
    exact ih h.2
theorem putK_tK_new {tb : List (Str × Str)} {z y : Str} (h : z ∉ Keys tb) : putK (tK tb) (.inr z) (.str y) = tK (tb ++ [(z, y)]) := by
  rw [putK_new _ (by rw [valV_tK, lookup_none_of h]; rfl)]
  simp [tK]
theorem valV_cK : ∀ (cn : List Str) (z : Str), valV (cK cn) (.inr z) = if z ∈ cn then some (.bl true) else none
  | [], z => by simp [cK, valV]
  | a :: r, z => by
    by_cases h : a = z
    · subst h
      rw [show cK (a :: r) = ((Sum.inr a : Key), V.bl true) :: cK r from rfl, valV_pos rfl]; simp
    · have h2 : ¬ ((Sum.inr a : Key), V.bl true).1 = Sum.inr z := fun e => h (Sum.inr.inj e)
      rw [show cK (a :: r) = ((Sum.inr a : Key), V.bl true) :: cK r from rfl, valV_neg h2, valV_cK r z]
      have : z ∈ a :: r ↔ z ∈ r := ⟨fun q => (List.mem_cons.mp q).elim (fun e => (h e.symm).elim) id, List.mem_cons_of_mem _⟩
      simp only [this]
theorem putK_cK (cn : List Str) (z : Str) : putK (cK cn) (.inr z) (.bl true) = cK (if z ∈ cn then cn else cn ++ [z]) := by
  by_cases h : z ∈ cn
  · rw [if_pos h]
    unfold putK
    have h1 : (cK cn).any (fun kv => decide (kv.1 = (Sum.inr z : Key))) = true := by rw [valV_any, valV_cK, if_pos h]; rfl
    rw [if_pos h1]
    unfold cK
    rw [List.map_map]
    refine List.map_congr_left fun a _ => ?_
    simp only [Function.comp]
    split <;> rfl
  · rw [if_neg h, putK_new _ (by rw [valV_cK, if_neg h])]
    simp [cK]
theorem dd_snoc (zs : List Str) (z : Str) : dd (zs ++ [z]) = if z ∈ dd zs then dd zs else dd zs ++ [z] := by
  unfold dd; rw [List.foldl_append]; rfl
theorem rev_ind {α : Type} {p : List α → Prop} (h0 : p []) (h1 : ∀ l a, p l → p (l ++ [a])) (l : List α) : p l := by
  have : ∀ n (l : List α), l.length = n → p l := by
    intro n
    induction n with
    | zero => intro l h; rw [List.length_eq_zero_iff.mp h]; exact h0
    | succ n ih =>
      intro l h
      have hne : l ≠ [] := fun e => by rw [e] at h; cases h
      rw [← List.dropLast_concat_getLast hne]
      exact h1 _ _ (ih _ (by rw [List.length_dropLast, h]; rfl))
  exact this _ l rfl
theorem mem_dd (zs : List Str) : ∀ z, z ∈ dd zs ↔ z ∈ zs := by
  refine rev_ind (p := fun zs => ∀ z, z ∈ dd zs ↔ z ∈ zs) (fun z => Iff.rfl) (fun l a ih z => ?_) zs
  rw [dd_snoc]
  split
  · rename_i h
    rw [ih z, List.mem_append]
    refine ⟨.inl, fun q => q.elim id fun q => ?_⟩
    rw [List.mem_singleton] at q
    rw [q]; exact (ih a).mp h
  · rw [List.mem_append, List.mem_append, ih z]
theorem nd_dd (zs : List Str) : (dd zs).Nodup := by
  refine rev_ind (p := fun zs => (dd zs).Nodup) List.nodup_nil (fun l a ih => ?_) zs
  rw [dd_snoc]
  split
  · exact ih
  · rename_i h
    rw [List.nodup_append]
    exact ⟨ih, by simp, fun x hx y hy => by rw [List.mem_singleton] at hy; rw [hy]; exact fun e => h (e ▸ hx)⟩
theorem len_dd (zs : List Str) : (dd zs).length ≤ zs.length := by
  refine rev_ind (p := fun zs => (dd zs).length ≤ zs.length) (Nat.le_refl _) (fun l a ih => ?_) zs
  rw [dd_snoc]
  split
  · simp; omega
  · simp; omega
theorem len_tK (tb : List (Str × Str)) : (tK tb).length = tb.length := by simp [tK]
theorem len_cK (cn : List Str) : (cK cn).length = cn.length := by simp [cK]
theorem small {n : Nat} (h : n ≤ 100000) : n < sizeLine := Nat.lt_of_le_of_lt h (by decide)
theorem small' {n : Nat} (h : n ≤ 100000) : n ≤ sizeLine := Nat.le_trans h (by decide)
theorem isNm_len {z : Str} (h : isNm z = true) : z.length ≤ 12 := by
  unfold isNm at h
  simp only [Bool.and_eq_true, decide_eq_true_eq] at h
  omega
theorem nameV {K : PySem.W.Frag} {H : Hp} {z : Str} (h : isNm z = true) : NameV K H (.str z) true := .inl ⟨z, rfl, small' (by have := isNm_len h; omega), h.symm⟩
theorem RowAt.ty {K : PySem.W.Frag} {H : Hp} {a : Addr} {xs : List V} (h : RowAt K H a xs) : ∃ t, TyX K H (.ref a) t ∧ PySem.W.kitAny K t [.type "list", .type "tuple"] = some true := by
  have k1 : PySem.W.kitAny K (.type "list") [.type "list", .type "tuple"] = some true := kitAny_cons (b := true) (kit_ty (b := "list") (by decide +kernel)) (fun q => nomatch q) (fun _ => rfl)
  have k2 : PySem.W.kitAny K (.type "tuple") [.type "list", .type "tuple"] = some true := kitAny_cons (b := false) (kit_ty (by decide +kernel)) (fun _ => kitAny_cons (b := true) (kit_ty (by decide +kernel)) (fun q => nomatch q) (fun _ => rfl)) (fun q => nomatch q)
  rcases h with ((h | ⟨o, h⟩) | ⟨o, its, n, h1, h2, _⟩) | ((h | ⟨o, h⟩) | ⟨o, its, n, h1, h2, _⟩)
  · exact ⟨_, .base (.lst h), k1⟩
  · exact ⟨_, .base (.frz h), k1⟩
  · exact ⟨_, .kList h1 h2, k1⟩
  · exact ⟨_, .base (.tup h), k2⟩
  · exact ⟨_, .fTuple h, k2⟩
  · exact ⟨_, .kTuple h1 h2, k2⟩
/-! ### promises where nothing is refused -/
def spWords (K : PySem.W.Frag) : Sp := fun vs H Q _ => ∃ (a : Addr) (xs : List V), vs = [.ref a] ∧ RowAt K H a xs ∧ (∀ x ∈ xs, NameV K H x true) ∧ ∀ p H', Led H [] H' [(p, .lst xs)] → Q (.ref p) H'
def spMarked (K : PySem.W.Frag) : Sp := fun vs H Q _ => ∃ (a : Addr) (zs : List Str), vs = [.ref a] ∧ H a = some (.lst (zs.map V.str)) ∧ zs.length ≤ 1000 ∧ ∀ p H', Led H [] H' [(p, .dK (cK (dd zs)))] → Q (.ref p) H'
def spSights (K : PySem.W.Frag) : Sp := fun vs H Q _ => ∃ (a : Addr) (tb : List (Str × Str)), vs = [.ref a] ∧ H a = some (.dK (tK tb)) ∧ TbOk tb ∧ ∀ p H', Led H [] H' [(p, .dK (tK tb))] → Q (.ref p) H'
section
variable {P : Program} {w : World} {K : PySem.W.Frag} {mg : Str → Option Value} {base : Heap} {f : Addr} {fd : FuncData}
theorem ok_checked_words (B : Blt mg) (gR : GFn P w K mg base "is_row" 1 [] (spIsRow K)) (gO : GFn P w K mg base "first_other" 2 [] (spFirstOther K)) (F : FnP K "checked_words" "checked_words" s_checked_words [] f fd) : FnOk P w K mg base (L2.CX P w) 3 f fd ["words"] (spWords K) := by
  refine FunD.okW F sc_checked_words (fun vs H Q E h => ?_) (fun cdv A outer s H vs Q E hr h => ?_)
  · obtain ⟨a, xs, rfl, _⟩ := h
    rfl
  · obtain ⟨a, xs, rfl, ha, hb, q⟩ := h
    obtain ⟨t, ht, hk⟩ := ha.ty
    refine wb_cons (ws_if (wt_not (wt_val (we_call gR (hr.mono (by decide)) passL (wa_cons ?_)))))
    walk_at "v"
    refine wa_nil ⟨_, t, true, rfl, ht, hk, fun H1 S1 => ⟨_, rfl, iteF (wb_nil ?_)⟩⟩
    refine wb_cons (ws_set 1 sc_checked_words.nd (we_call gO hr passL (wa_cons ?_)))
    walk_at "v"
    refine wa_nil ⟨a, xs, List.replicate xs.length true, rfl, ha.same S1.same, by simp, fun i x b hx hb' => ?_, fun H2 S2 => ?_⟩
    · rw [(List.mem_replicate.mp (List.mem_of_getElem? hb')).2]
      exact (hb x (List.mem_of_getElem? hx)).same S1.same
    have e : fstO (List.replicate xs.length true) = -1 := by
      unfold fstO
      rw [List.findIdx?_eq_none_iff.mpr fun x hx => by rw [(List.mem_replicate.mp hx).2]; rfl]
    refine wb_cons (ws_if (wt_cmp op_ge ?_))
    walk_at "v"
    refine we_int ⟨_, _, rfl, rfl, _, rfl, ?_⟩
    rw [e]
    refine iteF (wb_nil ?_)
    refine wb_one (ws_ret (we_callTy call_list_of B.list_ (by decide +kernel) (wa_cons ?_)))
    walk_at "v"
    have s2 := S1.same.trans S2.same
    refine wa_nil ⟨a, xs, rfl, ha.same s2, ?_⟩
    exact (Led.of_same s2 : Led H [] H2 []).new_ fun p H3 _ S3 => q p H3 S3
theorem ok_marked (F : FnP K "marked" "marked" s_marked [] f fd) : FnOk P w K mg base (L2.CX P w) 1 f fd ["words"] (spMarked K) := by
  refine FunD.okW F sc_marked (fun vs H Q E h => ?_) (fun cdv A outer s H vs Q E hr h => ?_)
  · obtain ⟨a, zs, rfl, _⟩ := h
    rfl
  · obtain ⟨a, zs, rfl, ha, hz, q⟩ := h
    refine wb_one (ws_ret (we_dc (own := [("word", 1)]) (g := gName 1) sc_marked.nd (blkOk_by (N := ["words", "word"]) (sc := defScope s_marked) (by decide +kernel)) (fun _ _ _ _ _ => pg_name (i := 1) sc_marked.nd rfl (.inl rfl)) (wi_list ?_)))
    walk_at "v"
    refine ⟨a, _, rfl, SqL.of ha, fun J w D hD => ⟨_, _, _, w, fun i H' => Led H [] H' [(D, .dK (cK (dd (zs.take i))))], ?_, ?_, ?_, ?_⟩⟩
    · exact Led.refl.alloc hD _
    · intro i H' _ S
      exact SqL.of (S.same _ _ ha)
    · rintro i x H1 H2 hi S ⟨rfl, hx⟩
      rw [List.getElem?_map] at hx
      obtain ⟨z, hz', rfl⟩ := Option.map_eq_some_iff.mp hx
      refine ⟨rfl, fun s0 H0 C cl fp => ?_⟩
      walk_at "v"
      refine fun s0 H0 C cl fp => we_bl ⟨_, .inr z, rfl, S.get 0 rfl, ?_, ?_⟩
      · rw [len_cK]
        have := len_dd (zs.take i)
        refine small (Nat.le_trans this ?_)
        simp; omega
      · have e : dd (zs.take (i + 1)) = if z ∈ dd (zs.take i) then dd (zs.take i) else dd (zs.take i) ++ [z] := by
          rw [List.take_add_one, hz']; exact dd_snoc _ _
        rw [putK_cK, ← e]
        exact S.put _
    · intro H' S
      have e : zs.take (zs.map V.str).length = zs := by simp
      rw [e] at S
      exact q D H' S
end
end LG
-- D4
namespace LG
open PySem L2
local macro_rules | `(tactic| walk_at "v") => `(tactic| first | refine we_var 0 rfl ?_ | refine we_var 1 rfl ?_ | refine we_var 2 rfl ?_ | refine we_var 3 rfl ?_ | refine we_var 4 rfl ?_ | refine we_var 5 rfl ?_ | refine we_var 6 rfl ?_ | refine we_var 7 rfl ?_ | refine we_var 8 rfl ?_ | refine we_var 9 rfl ?_ | refine we_var 10 rfl ?_ | refine we_var 11 rfl ?_ | refine we_var 12 rfl ?_ | refine we_var 13 rfl ?_ | refine we_var 14 rfl ?_ | refine we_var 15 rfl ?_)
local macro_rules | `(tactic| walk_at "c") => `(tactic| first | refine we_int ?_ | refine we_str ?_ | refine we_bl ?_ | refine we_non ?_ | walk_at "v")
local macro_rules | `(tactic| walk_at "s") => `(tactic| first | refine wb_one ?_ | refine wb_cons ?_ | refine wb_nil ?_)
theorem nd_take {α : Type} {l : List α} (nd : l.Nodup) {i : Nat} (hi : i < l.length) : l[i] ∉ l.take i := by
  intro hm
  obtain ⟨j, hj, e⟩ := List.mem_iff_getElem.mp hm
  rw [List.getElem_take] at e
  have hj' : j < i := by
    rw [List.length_take] at hj; omega
  exact List.pairwise_iff_getElem.mp nd j i (by omega) hi hj' e
theorem nd_keys {tb : List (Str × Str)} (nd : (Keys tb).Nodup) {i : Nat} (hi : i < tb.length) : tb[i].1 ∉ Keys (tb.take i) := by
  have h := nd_take nd (i := i) (by simpa using hi)
  simpa [Keys, List.map_take] using h
structure VTxt (K : PySem.W.Frag) (mg : Str → Option Value) (C : Addr) : Prop where
  cl : Cls K C
  nT : NoAttr K C "table"
  nC : NoAttr K C "can"
  mgC : mg "View" = some (.ref C)
theorem tc_ne : ¬ (("table" : Str) = "can") := by decide +kernel
/-- a view's attributes -/
def vF (d1 d2 : Addr) : List (Str × V) := [("table", .ref d1), ("can", .ref d2)]
theorem vF_table {d1 d2 : Addr} : (vF d1 d2).lookup ("table" : Str) = some (.ref d1) := by
  unfold vF; exact List.lookup_cons_self
theorem vF_can {d1 d2 : Addr} : (vF d1 d2).lookup ("can" : Str) = some (.ref d2) := by
  unfold vF
  rw [List.lookup_cons, show (("can" : Str) == "table") = false by decide +kernel]
  exact List.lookup_cons_self
theorem putF_first (f : Str) (v : V) : putF f v [] = [(f, v)] := rfl
theorem vF_putT {d1 d2 e : Addr} : putF "table" (.ref e) (vF d1 d2) = vF e d2 := by
  unfold vF
  show (if ("table" : Str) = "table" then _ else _) = _
  rw [if_pos rfl]
theorem vF_putC {d1 d2 e : Addr} : putF "can" (.ref e) (vF d1 d2) = vF d1 e := by
  unfold vF
  show (if ("table" : Str) = "can" then _ else (("table" : Str), V.ref d1) :: (if ("can" : Str) = "can" then _ else _)) = _
  rw [if_neg tc_ne, if_pos rfl]
theorem putF_T1 {d1 e : Addr} : putF "table" (.ref e) [(("table" : Str), V.ref d1)] = [(("table" : Str), V.ref e)] := by
  show (if ("table" : Str) = "table" then _ else _) = _
  rw [if_pos rfl]
theorem putF_C1 {d1 e : Addr} : putF "can" (.ref e) [(("table" : Str), V.ref d1)] = vF d1 e := by
  show (if ("table" : Str) = "can" then _ else _) = _
  rw [if_neg tc_ne]; rfl
section
variable {X : Cx} {o value : Expr} {f : Str} {pos pos' : Pos} {σ : L2.St} {H : Hp} {D : Ends}
theorem ws_fld (h : WE X value σ H fun y H1 => WE X o σ H1 fun x H2 => ∃ a C dx fs, x = .ref a ∧ H2 a = some (.ins C dx fs) ∧ Cls X.K C ∧ NoAttr X.K C f ∧ fs.length < 1000 ∧ D.nx σ (upd H2 a (.ins C dx (putF f y fs))))
    (hs : swapsWith value (some (.Attribute o f pos')) pos.line X.env = pure false := by rfl) : WS X (.Assign [.Attribute o f pos'] value pos) D σ H := toS (ps_fld wE wE hs) h
theorem we_dnewK {Q : VK} (h : ∀ p, H p = none → Q (.ref p) (upd H p (.dK []))) : WE X (.Dict [] [] pos) σ H Q := toE pe_dnewK h
theorem ws_dput {i : Expr} (hu : X.A.units + 1 < cLine) (h : WE X value σ H fun v H1 => WE X o σ H1 fun x H2 => WE X i σ H2 fun y H3 => ∃ a H4, x = .ref a ∧ DPut H3 a y v H4 ∧ D.nx σ H4)
    (hs : swapsWith value (some (.Subscript o i pos')) pos.line X.env = pure false := by rfl) : WS X (.Assign [.Subscript o i pos'] value pos) D σ H := toS (ps_dput hu wE wE wE hs) h
end
section
variable {P : Program} {w : World} {K : PySem.W.Frag} {mg : Str → Option Value} {base : Heap} {f : Addr} {fd : FuncData}
theorem ok_checked_sights (B : Blt mg) (gN : GFn P w K mg base "is_name" 1 [] (spIsName K)) (F : FnP K "checked_sights" "checked_sights" s_checked_sights [] f fd) : FnOk P w K mg base (L2.CX P w) 2 f fd ["sights"] (spSights K) := by
  refine FunD.okW F sc_checked_sights (fun vs H Q E h => ?_) (fun cdv A outer s H vs Q E hr h => ?_)
  · obtain ⟨a, tb, rfl, _⟩ := h
    rfl
  · obtain ⟨a, tb, rfl, ha, ok, q⟩ := h
    have hu := hu_of hr
    refine wb_cons (ws_if (wt_not (wt_val (we_callB call_isi B.isinstance_ (by decide +kernel) (wa_cons ?_)))))
    walk_at "v"
    refine wa_cons (we_bltn (v := .ty "dict") B.dict_ (by decide +kernel) rfl (wa_nil ?_))
    refine ⟨_, _, _, _, true, rfl, .ty _, .base (.dK ha), kit_ty (by decide +kernel), _, rfl, iteF (wb_nil ?_)⟩
    refine wb_cons (ws_set 1 sc_checked_sights.nd (we_dnewK ?_))
    intro t ht
    have S1 := (Led.refl : Led H [] H []).alloc ht (.dK [])
    refine wb_cons (ws_lock (S1.same _ _ ha) trivial fun od => ?_)
    refine ws_for (passes_of rfl) (pg2 (i := 2) (j := 3) sc_checked_sights.nd rfl (.inl rfl) rfl (.inl rfl)) (wi_items ?_)
    walk_at "v"
    refine ⟨a, od, _, rfl, upd_same, fun J w => ⟨_, _, _, w, fun i σ H' => (∃ u v, σ = [some (.ref a), some (.ref t), u, v]) ∧ Led H [a] H' [(a, .frz od (.dK (tK tb))), (t, .dK (tK (tb.take i)))], ?_, ?_, ?_, ?_⟩⟩
    · exact ⟨⟨_, _, rfl⟩, S1.lock ha (by simp)⟩
    · rintro i σ H' _ ⟨_, S⟩
      exact S.get 0 rfl
    · rintro i x σ H2 H3 hi ⟨⟨u, v, rfl⟩, S⟩ ⟨T, y, z, rfl, hT, rfl, hy, hz⟩
      rw [len_tK] at hi
      have hi' : tb[i]? = some tb[i] := List.getElem?_eq_getElem hi
      simp only [tK, List.getElem?_map, hi', Option.map_some, Option.some.injEq] at hy hz
      subst hy hz
      obtain ⟨n1, n2⟩ := ok.nm _ (List.getElem_mem hi)
      refine g2_of upd_same ?_
      have S3 := S.alloc hT (.tup [V.str tb[i].1, V.str tb[i].2])
      refine wb_cons (ws_if (wt_or (wt_not (wt_val (we_call gN hr passL (wa_cons ?_))))))
      walk_at "v"
      refine wa_nil ⟨_, true, rfl, nameV n1, _, rfl, iteF (ww_or1 (wt_not (wt_val (we_call gN hr passL (wa_cons ?_)))))⟩
      walk_at "v"
      refine wa_nil ⟨_, true, rfl, nameV n2, _, rfl, iteF (wb_nil (wb_one (ws_dput hu ?_)))⟩
      walk_at "v"
      walk_at "v"
      walk_at "v"
      have hl : (tK (tb.take i)).length < sizeLine := small (by rw [len_tK, List.length_take]; have := ok.sz; omega)
      refine ⟨t, _, rfl, DPut.k (k := .inr tb[i].1) (S3.get 2 rfl) hl, ⟨_, _, rfl⟩, ?_⟩
      have nin : tb[i].1 ∉ Keys (tb.take i) := nd_keys ok.nd hi
      rw [putK_tK_new nin, show (tb.take i) ++ [(tb[i].1, tb[i].2)] = tb.take (i + 1) by rw [List.take_add_one, hi']; rfl]
      exact (((S3.pick 2 rfl rfl).put _).pick 2 rfl rfl).drop 2 rfl |>.perm (List.Perm.refl _)
    · rintro σ H2 ⟨⟨u, v, rfl⟩, S⟩
      rw [len_tK, List.take_length] at S
      refine ⟨S.get 0 rfl, wb_one (ws_ret ?_)⟩
      walk_at "v"
      exact q t _ (S.unlock ha)
end
end LG
-- D5
namespace LG
open PySem L2
local macro_rules | `(tactic| walk_at "v") => `(tactic| first | refine we_var 0 rfl ?_ | refine we_var 1 rfl ?_ | refine we_var 2 rfl ?_ | refine we_var 3 rfl ?_ | refine we_var 4 rfl ?_ | refine we_var 5 rfl ?_ | refine we_var 6 rfl ?_ | refine we_var 7 rfl ?_ | refine we_var 8 rfl ?_ | refine we_var 9 rfl ?_ | refine we_var 10 rfl ?_ | refine we_var 11 rfl ?_ | refine we_var 12 rfl ?_ | refine we_var 13 rfl ?_ | refine we_var 14 rfl ?_ | refine we_var 15 rfl ?_)
local macro_rules | `(tactic| walk_at "c") => `(tactic| first | refine we_int ?_ | refine we_str ?_ | refine we_bl ?_ | refine we_non ?_ | walk_at "v")
local macro_rules | `(tactic| walk_at "s") => `(tactic| first | refine wb_one ?_ | refine wb_cons ?_ | refine wb_nil ?_)
/-- a view stands at p -/
structure ViewAt (C : Addr) (H : Hp) (p dx d1 d2 : Addr) (tb : List (Str × Str)) (cn : List Str) : Prop where
  ob : H p = some (.ins C dx (vF d1 d2))
  t : H d1 = some (.dK (tK tb))
  c : H d2 = some (.dK (cK cn))
theorem ViewAt.same {C : Addr} {H H' : Hp} {p dx d1 d2 : Addr} {tb : List (Str × Str)} {cn : List Str} (h : ViewAt C H p dx d1 d2 tb cn) (s : Same H H') : ViewAt C H' p dx d1 d2 tb cn := ⟨s _ _ h.ob, s _ _ h.t, s _ _ h.c⟩
abbrev vL (C p dx d1 d2 : Addr) (tb : List (Str × Str)) (cn : List Str) : Lg := [(p, .ins C dx (vF d1 d2)), (d1, .dK (tK tb)), (d2, .dK (cK cn))]
/-- the first argument of View -/
def SgAt (H : Hp) (v : V) (tb : List (Str × Str)) : Prop := (v = .non ∧ tb = []) ∨ ∃ a, v = .ref a ∧ H a = some (.dK (tK tb))
theorem SgAt.same {H H' : Hp} {v : V} {tb : List (Str × Str)} (h : SgAt H v tb) (s : Same H H') : SgAt H' v tb := h.imp id fun ⟨a, e, q⟩ => ⟨a, e, s _ _ q⟩
theorem ne_ins {H : Hp} {p a : Addr} {C dx : Addr} {fs : List (Str × V)} {o : HO} (hp : H p = some (.ins C dx fs)) (ha : H a = some o) (hne : ∀ C dx fs, o ≠ .ins C dx fs) : a ∉ [p] := by
  rw [List.mem_singleton]
  intro e; subst e; rw [hp] at ha; exact hne _ _ _ (Option.some.inj ha).symm
theorem RowAt.ofIns {K : PySem.W.Frag} {H H' : Hp} {p a C dx : Addr} {fs : List (Str × V)} {L : Lg} {xs : List V} (h : RowAt K H a xs) (S : Led H [p] H' L) (hp : H p = some (.ins C dx fs)) : RowAt K H' a xs := by
  rcases h with ((h | ⟨o, h⟩) | h) | ((h | ⟨o, h⟩) | h)
  · exact .inl (.inl (.inl (S.keep _ _ h (ne_ins hp h (by intro _ _ _ z; cases z)))))
  · exact .inl (.inl (.inr ⟨o, S.keep _ _ h (ne_ins hp h (by intro _ _ _ z; cases z))⟩))
  · exact .inl (.inr h)
  · exact .inr (.inl (.inl (S.keep _ _ h (ne_ins hp h (by intro _ _ _ z; cases z)))))
  · exact .inr (.inl (.inr ⟨o, S.keep _ _ h (ne_ins hp h (by intro _ _ _ z; cases z))⟩))
  · exact .inr (.inr h)
theorem SgAt.ofIns {H H' : Hp} {p C dx : Addr} {fs : List (Str × V)} {L : Lg} {v : V} {tb : List (Str × Str)} (h : SgAt H v tb) (S : Led H [p] H' L) (hp : H p = some (.ins C dx fs)) : SgAt H' v tb :=
  h.imp id fun ⟨a, e, h⟩ => ⟨a, e, S.keep _ _ h (ne_ins hp h (by intro _ _ _ z; cases z))⟩
def spInit (K : PySem.W.Frag) (C : Addr) : Sp := fun vs H Q _ => ∃ (p dx : Addr) (sv : V) (ha : Addr) (tb : List (Str × Str)) (zs : List Str), vs = [.ref p, sv, .ref ha] ∧ H p = some (.ins C dx []) ∧ SgAt H sv tb ∧ TbOk tb ∧ RowAt K H ha (zs.map V.str) ∧ (∀ z ∈ zs, isNm z = true) ∧ zs.length ≤ 1000 ∧
  ∀ d1 d2 H', Led H [p] H' (vL C p dx d1 d2 tb (dd zs)) → Q .non H'
section
variable {P : Program} {w : World} {K : PySem.W.Frag} {mg : Str → Option Value} {base : Heap} {f C : Addr} {fd : FuncData} {dvs : List V}
theorem ok_init (T : VTxt K mg C) (gS : GFn P w K mg base "checked_sights" 2 [] (spSights K)) (gW : GFn P w K mg base "checked_words" 3 [] (spWords K)) (gM : GFn P w K mg base "marked" 1 [] (spMarked K)) (F : FnP K "__init__" "View.__init__" s_View___init__ dvs f fd) :
    FnOk P w K mg base (L2.CX P w) 4 f fd ["self", "sights", "holds"] (spInit K C) := by
  refine FunD.okW F sc_View___init__ (fun vs H Q E h => ?_) (fun cdv A outer s H vs Q E hr h => ?_)
  · obtain ⟨p, dx, sv, ha, tb, zs, rfl, _⟩ := h
    rfl
  · obtain ⟨p, dx, sv, ha, tb, zs, rfl, hp, hs, ok, hh, hz, hl, q⟩ := h
    have S0 : Led H [p] H [(p, .ins C dx [])] := Led.start ⟨by simp, fun x hx => by rw [List.mem_singleton.mp hx]; exact hp⟩ rfl
    -- self.table = {}
    refine wb_cons (ws_fld (we_dnewK fun t ht => ?_))
    have S1 := S0.alloc ht (.dK [])
    walk_at "v"
    refine ⟨p, C, dx, _, rfl, S1.get 1 rfl, T.cl, T.nT, by decide, ?_⟩
    have S2 := (S1.pick 1 rfl rfl).put (.ins C dx (putF "table" (.ref t) []))
    generalize hH2 : upd (upd H t (.dK [])) p (.ins C dx (putF "table" (.ref t) [])) = H2 at S2 ⊢
    have hh2 : RowAt K H2 ha (zs.map V.str) := hh.ofIns S2 hp
    have hs2 : SgAt H2 sv tb := hs.ofIns S2 hp
    -- if sights is not None
    refine wb_cut (fun σ H' => ∃ d1, σ = [some (.ref p), some sv, some (.ref ha)] ∧ Led H [p] H' [(p, .ins C dx [("table", .ref d1)]), (d1, .dK (tK tb))] ∧ RowAt K H' ha (zs.map V.str)) ?_ ?_
    · refine ws_if (wt_cmp op_notN ?_)
      walk_at "v"
      refine we_non ⟨rfl, _, rfl, ?_⟩
      rcases hs2 with ⟨rfl, rfl⟩ | ⟨a, rfl, h⟩
      · refine iteF (wb_nil ⟨t, rfl, S2, hh2⟩)
      · refine iteT (wb_one (ws_fld (we_call gS (hr.mono (by decide)) passL (wa_cons ?_))))
        walk_at "v"
        refine wa_nil ⟨a, tb, rfl, h, ok, fun d H3 T3 => ?_⟩
        have S3 := S2.pure T3
        walk_at "v"
        refine ⟨p, C, dx, _, rfl, S3.get 1 rfl, T.cl, T.nT, by show 1 < 1000; decide, ?_⟩
        have S4 := (S3.pick 1 rfl rfl).put (.ins C dx (putF "table" (.ref d) (putF "table" (.ref t) [])))
        refine ⟨d, rfl, ?_, ?_⟩
        · rw [putF_first, putF_T1] at S4 ⊢
          exact S4.drop 2 rfl
        · exact hh.ofIns S4 hp
    · rintro σ H3 ⟨d1, rfl, S3, hh3⟩
      -- self.can = marked(checked_words(holds))
      refine wb_one (ws_fld (we_call gM (hr.mono (by decide)) passL (wa_cons (we_call gW (hr.mono (by decide)) passL (wa_cons ?_)))))
      walk_at "v"
      refine wa_nil ⟨ha, _, rfl, hh3, fun x hx => ?_, fun l H4 T4 => wa_nil ?_⟩
      · obtain ⟨z, hz', rfl⟩ := List.mem_map.mp hx
        exact nameV (hz z hz')
      have S4 := S3.pure T4
      refine ⟨l, zs, rfl, S4.get 0 rfl, hl, fun d2 H5 T5 => ?_⟩
      have S5 := S4.pure T5
      walk_at "v"
      refine ⟨p, C, dx, _, rfl, S5.get 2 rfl, T.cl, T.nC, by show 1 < 1000; decide, ?_⟩
      have S6 := (S5.pick 2 rfl rfl).put (.ins C dx (putF "can" (.ref d2) [("table", .ref d1)]))
      rw [putF_C1] at S6
      refine q d1 d2 _ ?_
      rw [putF_C1]
      exact ((S6.drop 2 rfl).pick 2 rfl rfl).pick 1 rfl rfl
end
end LG
-- D6
namespace LG
open PySem L2
local macro_rules | `(tactic| walk_at "v") => `(tactic| first | refine we_var 0 rfl ?_ | refine we_var 1 rfl ?_ | refine we_var 2 rfl ?_ | refine we_var 3 rfl ?_ | refine we_var 4 rfl ?_ | refine we_var 5 rfl ?_ | refine we_var 6 rfl ?_ | refine we_var 7 rfl ?_ | refine we_var 8 rfl ?_ | refine we_var 9 rfl ?_ | refine we_var 10 rfl ?_ | refine we_var 11 rfl ?_ | refine we_var 12 rfl ?_ | refine we_var 13 rfl ?_ | refine we_var 14 rfl ?_ | refine we_var 15 rfl ?_)
local macro_rules | `(tactic| walk_at "c") => `(tactic| first | refine we_int ?_ | refine we_str ?_ | refine we_bl ?_ | refine we_non ?_ | walk_at "v")
local macro_rules | `(tactic| walk_at "s") => `(tactic| first | refine wb_one ?_ | refine wb_cons ?_ | refine wb_nil ?_)
theorem keys_tK (tb : List (Str × Str)) : ((tK tb).map fun kv => kV kv.1) = (Keys tb).map V.str := by simp [tK, Keys, kV]
theorem keys_cK (cn : List Str) : ((cK cn).map fun kv => kV kv.1) = cn.map V.str := by simp [cK, kV]
/-- what reads a view: C the class -/
abbrev RdV (C : Addr) (H : Hp) (p : Addr) (tb : List (Str × Str)) (cn : List Str) : Prop := ∃ dx d1 d2, ViewAt C H p dx d1 d2 tb cn
def spWordsP (C : Addr) : Sp := fun vs H Q _ => ∃ (p : Addr) (tb : List (Str × Str)) (cn : List Str), vs = [.ref p] ∧ RdV C H p tb cn ∧ tb.length < 64 ∧ ∀ (l : Addr) (ys : List Str) (H' : Hp), Led H [] H' [(l, .lst (ys.map V.str))] → ys.Perm (Keys tb) → PyProof.Rows.sortedS ys = true → Q (.ref l) H'
def spHoldsP (C : Addr) : Sp := fun vs H Q _ => ∃ (p : Addr) (tb : List (Str × Str)) (cn : List Str), vs = [.ref p] ∧ RdV C H p tb cn ∧ cn.length < 64 ∧ ∀ (l : Addr) (ys : List Str) (H' : Hp), Led H [] H' [(l, .lst (ys.map V.str))] → ys.Perm cn → PyProof.Rows.sortedS ys = true → Q (.ref l) H'
def spLen (C : Addr) : Sp := fun vs H Q _ => ∃ (p : Addr) (tb : List (Str × Str)) (cn : List Str), vs = [.ref p] ∧ RdV C H p tb cn ∧ Q (.int tb.length) H
def spGet (C : Addr) : Sp := fun vs H Q _ => ∃ (p : Addr) (tb : List (Str × Str)) (cn : List Str) (z : Str), vs = [.ref p, .str z] ∧ RdV C H p tb cn ∧ isNm z = true ∧ Q (((tb.lookup z).map V.str).getD .non) H
def spHas (C : Addr) : Sp := fun vs H Q _ => ∃ (p : Addr) (tb : List (Str × Str)) (cn : List Str) (z : Str), vs = [.ref p, .str z] ∧ RdV C H p tb cn ∧ Q (.bl (tb.lookup z).isSome) H
section
variable {P : Program} {w : World} {K : PySem.W.Frag} {mg : Str → Option Value} {base : Heap} {f C : Addr} {fd : FuncData}
theorem ok_words (B : Blt mg) (T : VTxt K mg C) (F : FnP K "words" "View.words" s_View_words [] f fd) : FnOk P w K mg base (L2.CX P w) 1 f fd ["self"] (spWordsP C) := by
  refine FunD.okW F sc_View_words (fun vs H Q E h => ?_) (fun cdv A outer s H vs Q E hr h => ?_)
  · obtain ⟨p, tb, cn, rfl, _⟩ := h
    rfl
  · obtain ⟨p, tb, cn, rfl, ⟨dx, d1, d2, v⟩, hl, q⟩ := h
    refine wb_one (ws_ret (we_callB cr_sortedS B.sorted_ (by decide +kernel) (wa_cons (we_callTy (call_listD rfl) B.list_ (by decide +kernel) (wa_cons (we_fld ?_))))))
    walk_at "v"
    refine ⟨p, C, dx, _, _, rfl, v.ob, T.cl, T.nT, vF_table, wa_nil ⟨d1, _, rfl, .inl v.t, fun l hl' => wa_nil ?_⟩⟩
    rw [keys_tK]
    have S1 := (Led.refl : Led H [] H []).alloc hl' (.lst ((Keys tb).map V.str))
    exact ⟨l, Keys tb, rfl, SqL.of upd_same, by simpa using hl, fun ys r hp hs hr' => q r ys _ ((S1.alloc hr' _).drop 1 rfl) hp hs⟩
theorem ok_holds (B : Blt mg) (T : VTxt K mg C) (F : FnP K "holds" "View.holds" s_View_holds [] f fd) : FnOk P w K mg base (L2.CX P w) 1 f fd ["self"] (spHoldsP C) := by
  refine FunD.okW F sc_View_holds (fun vs H Q E h => ?_) (fun cdv A outer s H vs Q E hr h => ?_)
  · obtain ⟨p, tb, cn, rfl, _⟩ := h
    rfl
  · obtain ⟨p, tb, cn, rfl, ⟨dx, d1, d2, v⟩, hl, q⟩ := h
    refine wb_one (ws_ret (we_callB cr_sortedS B.sorted_ (by decide +kernel) (wa_cons (we_callTy (call_listD rfl) B.list_ (by decide +kernel) (wa_cons (we_fld ?_))))))
    walk_at "v"
    refine ⟨p, C, dx, _, _, rfl, v.ob, T.cl, T.nC, vF_can, wa_nil ⟨d2, _, rfl, .inl v.c, fun l hl' => wa_nil ?_⟩⟩
    rw [keys_cK]
    have S1 := (Led.refl : Led H [] H []).alloc hl' (.lst (cn.map V.str))
    exact ⟨l, cn, rfl, SqL.of upd_same, hl, fun ys r hp hs hr' => q r ys _ ((S1.alloc hr' _).drop 1 rfl) hp hs⟩
theorem ok_len (B : Blt mg) (T : VTxt K mg C) (F : FnP K "__len__" "View.__len__" s_View___len__ [] f fd) : FnOk P w K mg base (L2.CX P w) 1 f fd ["self"] (spLen C) := by
  refine FunD.okW F sc_View___len__ (fun vs H Q E h => ?_) (fun cdv A outer s H vs Q E hr h => ?_)
  · obtain ⟨p, tb, cn, rfl, _⟩ := h
    rfl
  · obtain ⟨p, tb, cn, rfl, ⟨dx, d1, d2, v⟩, q⟩ := h
    refine wb_one (ws_ret (we_callB call_lenD B.len_ PySem.boot_len (wa_cons (we_fld ?_))))
    walk_at "v"
    refine ⟨p, C, dx, _, _, rfl, v.ob, T.cl, T.nT, vF_table, wa_nil ⟨d1, _, rfl, v.t, ?_⟩⟩
    rw [len_tK]
    exact q
theorem ok_getitem (B : Blt mg) (T : VTxt K mg C) (gN : GFn P w K mg base "is_name" 1 [] (spIsName K)) (F : FnP K "__getitem__" "View.__getitem__" s_View___getitem__ [] f fd) : FnOk P w K mg base (L2.CX P w) 2 f fd ["self", "word"] (spGet C) := by
  refine FunD.okW F sc_View___getitem__ (fun vs H Q E h => ?_) (fun cdv A outer s H vs Q E hr h => ?_)
  · obtain ⟨p, tb, cn, z, rfl, _⟩ := h
    rfl
  · obtain ⟨p, tb, cn, z, rfl, ⟨dx, d1, d2, v⟩, hz, q⟩ := h
    refine wb_cons (ws_if (wt_not (wt_val (we_call gN hr passL (wa_cons ?_)))))
    walk_at "v"
    refine wa_nil ⟨_, true, rfl, nameV hz, _, rfl, iteF (wb_nil (wb_one (ws_ret (toE (pe_dget1 (hu_of hr) wE wE ⟨rfl, rfl, rfl, rfl⟩) (we_fld ?_)))))⟩
    walk_at "v"
    refine ⟨p, C, dx, _, _, rfl, v.ob, T.cl, T.nT, vF_table, d1, rfl, .inl ⟨_, .inl v.t⟩, ?_⟩
    walk_at "v"
    refine ⟨_, DGet.k (k := .inr z) v.t, ?_⟩
    rw [valV_tK]
    exact q
theorem ok_contains (B : Blt mg) (T : VTxt K mg C) (F : FnP K "__contains__" "View.__contains__" s_View___contains__ [] f fd) : FnOk P w K mg base (L2.CX P w) 1 f fd ["self", "word"] (spHas C) := by
  refine FunD.okW F sc_View___contains__ (fun vs H Q E h => ?_) (fun cdv A outer s H vs Q E hr h => ?_)
  · obtain ⟨p, tb, cn, z, rfl, _⟩ := h
    rfl
  · obtain ⟨p, tb, cn, z, rfl, ⟨dx, d1, d2, v⟩, q⟩ := h
    refine wb_one (ws_ret (we_and (we_callB call_isi B.isinstance_ (by decide +kernel) (wa_cons ?_))))
    walk_at "v"
    refine wa_cons (we_bltn (v := .ty "str") B.str_ (by decide +kernel) rfl (wa_nil ⟨_, _, _, _, true, rfl, .ty _, .base (.str z), kit_ty (by decide +kernel), _, rfl, iteT (we_one (toE (pe_cmp (pc_din (hu_of hr) wE wE)) ?_))⟩))
    walk_at "v"
    refine we_fld ?_
    walk_at "v"
    refine ⟨p, C, dx, _, _, rfl, v.ob, T.cl, T.nT, vF_table, d1, _, rfl, DGet.k (k := .inr z) v.t, ?_⟩
    rw [valV_tK]
    cases e : tb.lookup z <;> (rw [e] at q; exact q)
end
end LG
-- TB
namespace LG
open PySem L2
/-! tables in plain: lists of pairs, keys once -/
abbrev Tb := List (Str × Str)
def tbPut (tb : Tb) (z y : Str) : Tb := if z ∈ Keys tb then tb.map (fun p => if p.1 = z then (p.1, y) else p) else tb ++ [(z, y)]
def tbKeep (tb : Tb) (f : Str → Bool) : Tb := tb.filter fun p => f p.1
def tbDel (tb : Tb) (z : Str) : Tb := tbKeep tb fun k => decide (k ≠ z)
def tbSub (tb : Tb) (zs : List Str) : Tb := tbKeep tb fun k => decide (k ∉ zs)
def tbMerge (tb mb : Tb) : Tb := mb.foldl (fun acc p => tbPut acc p.1 p.2) tb
def seeTb (zs : List Str) : Tb := zs.foldl (fun acc z => tbPut acc z z) []
theorem any_tK (tb : Tb) (z : Str) : ((tK tb).any fun kv => decide (kv.1 = (Sum.inr z : Key))) = true ↔ z ∈ Keys tb := by
  simp [tK, Keys]
theorem putK_tK (tb : Tb) (z y : Str) : putK (tK tb) (.inr z) (.str y) = tK (tbPut tb z y) := by
  unfold putK tbPut
  by_cases h : z ∈ Keys tb
  · rw [if_pos ((any_tK tb z).mpr h), if_pos h]
    simp only [tK, List.map_map]
    refine List.map_congr_left fun p _ => ?_
    by_cases e : p.1 = z <;> simp [e]
  · rw [if_neg (fun q => h ((any_tK tb z).mp q)), if_neg h]
    simp [tK]
theorem dropK_tK (tb : Tb) (z : Str) : dropK (tK tb) (.inr z) = tK (tbDel tb z) := by
  unfold dropK tbDel tbKeep tK
  rw [List.filter_map]
  congr 1
  refine List.filter_congr fun p _ => ?_
  simp [Function.comp]
theorem mergeK_tK : ∀ (mb tb : Tb), mergeK (tK tb) (tK mb) = tK (tbMerge tb mb)
  | [], tb => rfl
  | p :: mb, tb => by
    show mergeK (putK (tK tb) (.inr p.1) (.str p.2)) (tK mb) = _
    rw [putK_tK, mergeK_tK mb]
    rfl
theorem map_str_inj {a b : Option Str} (h : a.map V.str = b.map V.str) : a = b := by
  cases a <;> cases b <;> simp_all
theorem lk_put (tb : Tb) (z y j : Str) : (tbPut tb z y).lookup j = if j = z then some y else tb.lookup j := by
  have h := valV_put (tK tb) (.inr z : Key) (.inr j) (.str y)
  rw [putK_tK, valV_tK, valV_tK] at h
  refine map_str_inj (h.trans ?_)
  by_cases e : j = z <;> simp [e]
theorem lk_keep (f : Str → Bool) (j : Str) : ∀ tb : Tb, (tbKeep tb f).lookup j = if f j = true then tb.lookup j else none
  | [] => by simp [tbKeep]
  | p :: tb => by
    have ih := lk_keep f j tb
    unfold tbKeep at ih ⊢
    by_cases e : j = p.1
    · subst e
      by_cases h : f p.1 = true
      · rw [List.filter_cons_of_pos (p := fun p : Str × Str => f p.1) h]; simp [List.lookup, h]
      · rw [List.filter_cons_of_neg (p := fun p : Str × Str => f p.1) h, ih]; simp [h]
    · have e' : (j == p.1) = false := by simpa using e
      by_cases h : f p.1 = true
      · rw [List.filter_cons_of_pos (p := fun p : Str × Str => f p.1) h]; simp only [List.lookup, e', ih]
      · rw [List.filter_cons_of_neg (p := fun p : Str × Str => f p.1) h, ih]; simp only [List.lookup, e']
theorem lk_del (tb : Tb) (z j : Str) : (tbDel tb z).lookup j = if j = z then none else tb.lookup j := by
  unfold tbDel; rw [lk_keep]; by_cases e : j = z <;> simp [e]
theorem lk_sub (tb : Tb) (zs : List Str) (j : Str) : (tbSub tb zs).lookup j = if j ∈ zs then none else tb.lookup j := by
  unfold tbSub; rw [lk_keep]; by_cases e : j ∈ zs <;> simp [e]
theorem lk_merge (j : Str) : ∀ (mb tb : Tb), (Keys mb).Nodup → (tbMerge tb mb).lookup j = if (mb.lookup j).isSome = true then mb.lookup j else tb.lookup j
  | [], tb, _ => by simp [tbMerge]
  | p :: mb, tb, nd => by
    have nd' : p.1 ∉ Keys mb ∧ (Keys mb).Nodup := by simpa [Keys] using nd
    show (tbMerge (tbPut tb p.1 p.2) mb).lookup j = _
    rw [lk_merge j mb _ nd'.2, lk_put]
    by_cases e : j = p.1
    · subst e
      rw [lookup_none_of nd'.1]
      simp [List.lookup]
    · have e' : (j == p.1) = false := by simpa using e
      simp only [List.lookup, e', e, if_false]
theorem keys_put (tb : Tb) (z y : Str) : Keys (tbPut tb z y) = if z ∈ Keys tb then Keys tb else Keys tb ++ [z] := by
  unfold tbPut
  by_cases h : z ∈ Keys tb
  · rw [if_pos h, if_pos h]
    simp only [Keys, List.map_map]
    refine List.map_congr_left fun p _ => ?_
    by_cases e : p.1 = z <;> simp [e]
  · rw [if_neg h, if_neg h]; simp [Keys]
theorem nd_put {tb : Tb} (nd : (Keys tb).Nodup) (z y : Str) : (Keys (tbPut tb z y)).Nodup := by
  rw [keys_put]
  by_cases h : z ∈ Keys tb
  · rw [if_pos h]; exact nd
  · rw [if_neg h, List.nodup_append]
    exact ⟨nd, by simp, fun a ha b hb e => h (by rw [List.mem_singleton.mp hb] at e; exact e ▸ ha)⟩
theorem mem_put {tb : Tb} {z y : Str} {p : Str × Str} (h : p ∈ tbPut tb z y) : p ∈ tb ∨ p = (z, y) := by
  unfold tbPut at h
  by_cases c : z ∈ Keys tb
  · rw [if_pos c] at h
    obtain ⟨q, hq, e⟩ := List.mem_map.mp h
    by_cases e1 : q.1 = z
    · rw [if_pos e1, e1] at e; exact .inr e.symm
    · rw [if_neg e1] at e; exact .inl (e ▸ hq)
  · rw [if_neg c] at h
    rcases List.mem_append.mp h with h | h
    · exact .inl h
    · exact .inr (by simpa using h)
theorem nd_keep {tb : Tb} (nd : (Keys tb).Nodup) (f : Str → Bool) : (Keys (tbKeep tb f)).Nodup := List.Nodup.sublist (List.filter_sublist.map _) nd
theorem mem_keep {tb : Tb} {f : Str → Bool} {p : Str × Str} (h : p ∈ tbKeep tb f) : p ∈ tb := (List.mem_filter.mp h).1
theorem nd_merge : ∀ (mb : Tb) {tb : Tb}, (Keys tb).Nodup → (Keys (tbMerge tb mb)).Nodup
  | [], _, nd => nd
  | p :: mb, _, nd => nd_merge mb (nd_put nd p.1 p.2)
theorem mem_merge : ∀ (mb : Tb) {tb : Tb} {p : Str × Str}, p ∈ tbMerge tb mb → p ∈ tb ∨ p ∈ mb
  | [], _, _, h => .inl h
  | q :: mb, _, _, h => by
    rcases mem_merge mb h with h | h
    · rcases mem_put h with h | rfl
      · exact .inl h
      · exact .inr List.mem_cons_self
    · exact .inr (List.mem_cons_of_mem _ h)
theorem len_put (tb : Tb) (z y : Str) : (tbPut tb z y).length ≤ tb.length + 1 := by
  unfold tbPut; split <;> simp
theorem len_merge : ∀ (mb tb : Tb), (tbMerge tb mb).length ≤ tb.length + mb.length
  | [], tb => by simp [tbMerge]
  | p :: mb, tb => by
    have h1 := len_merge mb (tbPut tb p.1 p.2)
    have h2 := len_put tb p.1 p.2
    show (tbMerge (tbPut tb p.1 p.2) mb).length ≤ _
    simp only [List.length_cons]; omega
theorem see_snoc (zs : List Str) (z : Str) : seeTb (zs ++ [z]) = tbPut (seeTb zs) z z := by simp [seeTb, List.foldl_append]
theorem nd_see (zs : List Str) : (Keys (seeTb zs)).Nodup := by
  refine rev_ind (p := fun zs => (Keys (seeTb zs)).Nodup) (by simp [seeTb, Keys]) (fun l a h => ?_) zs
  rw [see_snoc]; exact nd_put h _ _
theorem mem_see (zs : List Str) : ∀ p ∈ seeTb zs, p.1 ∈ zs ∧ p.2 ∈ zs := by
  refine rev_ind (p := fun zs => ∀ p ∈ seeTb zs, p.1 ∈ zs ∧ p.2 ∈ zs) (by simp [seeTb]) (fun l a h => ?_) zs
  intro p hp
  rw [see_snoc] at hp
  rcases mem_put hp with hp | rfl
  · exact ⟨List.mem_append_left _ (h p hp).1, List.mem_append_left _ (h p hp).2⟩
  · exact ⟨by simp, by simp⟩
theorem len_see (zs : List Str) : (seeTb zs).length ≤ zs.length := by
  refine rev_ind (p := fun zs => (seeTb zs).length ≤ zs.length) (by simp [seeTb]) (fun l a h => ?_) zs
  rw [see_snoc]
  have := len_put (seeTb l) a a
  simp only [List.length_append, List.length_singleton]; omega
theorem dd_self {cn : List Str} (nd : cn.Nodup) : dd cn = cn := by
  refine rev_ind (p := fun cn : List Str => cn.Nodup → dd cn = cn) (fun _ => rfl) (fun l a ih nd => ?_) cn nd
  rw [List.nodup_append] at nd
  have h := ih nd.1
  rw [dd_snoc, h, if_neg (fun q => nd.2.2 a q a (by simp) rfl)]
theorem mem_lk {tb : Tb} (nd : (Keys tb).Nodup) : ∀ {p : Str × Str}, p ∈ tb → tb.lookup p.1 = some p.2 := by
  induction tb with
  | nil => intro p h; cases h
  | cons q tb ih =>
    intro p h
    have nd' : q.1 ∉ Keys tb ∧ (Keys tb).Nodup := by simpa [Keys] using nd
    rcases List.mem_cons.mp h with rfl | h
    · simp [List.lookup]
    · have e : p.1 ≠ q.1 := fun e => nd'.1 (e ▸ List.mem_map_of_mem h)
      have e' : (p.1 == q.1) = false := by simpa using e
      simp only [List.lookup, e', ih nd'.2 h]
theorem lk_mem {tb : Tb} {z y : Str} : tb.lookup z = some y → (z, y) ∈ tb := by
  induction tb with
  | nil => intro h; cases h
  | cons q tb ih =>
    intro h
    by_cases e : z = q.1
    · subst e
      simp [List.lookup] at h
      subst h; exact List.mem_cons_self
    · have e' : (z == q.1) = false := by simpa using e
      simp only [List.lookup, e'] at h
      exact List.mem_cons_of_mem _ (ih h)
theorem key_iff {tb : Tb} {z : Str} : z ∈ Keys tb ↔ (tb.lookup z).isSome = true := by
  constructor
  · intro h
    cases e : tb.lookup z with
    | some _ => rfl
    | none =>
      exfalso
      induction tb with
      | nil => cases h
      | cons q tb ih =>
        by_cases c : z = q.1
        · subst c; simp [List.lookup] at e
        · have c' : (z == q.1) = false := by simpa using c
          simp only [List.lookup, c'] at e
          have h' : z = q.1 ∨ z ∈ Keys tb := by simpa [Keys] using h
          exact ih (h'.resolve_left c) e
  · intro h
    obtain ⟨y, e⟩ := Option.isSome_iff_exists.mp h
    exact List.mem_map_of_mem (f := Prod.fst) (lk_mem e)
end LG
-- D7
namespace LG
open PySem L2
local macro_rules | `(tactic| walk_at "v") => `(tactic| first | refine we_var 0 rfl ?_ | refine we_var 1 rfl ?_ | refine we_var 2 rfl ?_ | refine we_var 3 rfl ?_ | refine we_var 4 rfl ?_ | refine we_var 5 rfl ?_ | refine we_var 6 rfl ?_ | refine we_var 7 rfl ?_ | refine we_var 8 rfl ?_ | refine we_var 9 rfl ?_ | refine we_var 10 rfl ?_ | refine we_var 11 rfl ?_ | refine we_var 12 rfl ?_ | refine we_var 13 rfl ?_ | refine we_var 14 rfl ?_ | refine we_var 15 rfl ?_)
local macro_rules | `(tactic| walk_at "c") => `(tactic| first | refine we_int ?_ | refine we_str ?_ | refine we_bl ?_ | refine we_non ?_ | walk_at "v")
local macro_rules | `(tactic| walk_at "s") => `(tactic| first | refine wb_one ?_ | refine wb_cons ?_ | refine wb_nil ?_)
structure VInst (K : PySem.W.Frag) (C : Addr) : Prop where
  hc : PySem.W.findIn K (.ref C) "__class__" = some (some (.builtin "object.__class__"))
  hn : PySem.W.specialIn K (.builtin "object.__class__") "__get__" = some (some (.builtin "getset_descriptor.__get__"))
  htk : PySem.W.takesIn K (.builtin "object.__class__") = some true
  hm : PySem.W.mroIn K C (.type "object") = some true
  kit : PySem.W.kitOne K (.ref C) (.ref C) = some true
def CnOk (cn : List Str) : Prop := cn.Nodup ∧ (∀ z ∈ cn, isNm z = true) ∧ cn.length ≤ 1000
def spSightsP (C : Addr) : Sp := fun vs H Q _ => ∃ (p : Addr) (tb : Tb) (cn : List Str), vs = [.ref p] ∧ RdV C H p tb cn ∧ (Keys tb).Nodup ∧ tb.length < 64 ∧ ∀ (l : Addr) (tb' : Tb) (H' : Hp), Led H [] H' [(l, .dK (tK tb'))] → (Keys tb').Nodup → (∀ z, tb'.lookup z = tb.lookup z) → Q (.ref l) H'
def spCopy (C : Addr) : Sp := fun vs H Q _ => ∃ (p : Addr) (tb : Tb) (cn : List Str), vs = [.ref p] ∧ RdV C H p tb cn ∧ TbOk tb ∧ CnOk cn ∧ ∀ x dx d1 d2 H', Led H [] H' (vL C x dx d1 d2 tb cn) → Q (.ref x) H'
def spHold (K : PySem.W.Frag) (C : Addr) : Sp := fun vs H Q _ => ∃ (p dx d1 d2 a : Addr) (zs : List Str), vs = [.ref p, .ref a] ∧ H p = some (.ins C dx (vF d1 d2)) ∧ RowAt K H a (zs.map V.str) ∧ (∀ z ∈ zs, isNm z = true) ∧ zs.length ≤ 1000 ∧ ∀ e H', Led H [p] H' [(p, .ins C dx (vF d1 e)), (e, .dK (cK (dd zs)))] → Q .non H'
def spSet (C : Addr) : Sp := fun vs H Q _ => ∃ (p dx d1 d2 : Addr) (tb : Tb) (z : Str) (o : Option Str), vs = [.ref p, .str z, (o.map V.str).getD .non] ∧ H p = some (.ins C dx (vF d1 d2)) ∧ H d1 = some (.dK (tK tb)) ∧ isNm z = true ∧ (∀ y, o = some y → isNm y = true) ∧ tb.length ≤ 1000 ∧
  ∀ H', Led H [d1] H' [(d1, .dK (tK (match o with | some y => tbPut tb z y | none => tbDel tb z)))] → Q .non H'
def spIor (C : Addr) : Sp := fun vs H Q _ => ∃ (p dx d1 d2 m : Addr) (tb mb : Tb), vs = [.ref p, .ref m] ∧ H p = some (.ins C dx (vF d1 d2)) ∧ H d1 = some (.dK (tK tb)) ∧ H m = some (.dK (tK mb)) ∧ TbOk mb ∧ tb.length ≤ 1000 ∧
  ∀ e H', Led H [p] H' [(p, .ins C dx (vF e d2)), (e, .dK (tK (tbMerge (tbMerge [] mb) tb)))] → Q (.ref p) H'
def spIsub (K : PySem.W.Frag) (C : Addr) : Sp := fun vs H Q _ => ∃ (p dx d1 d2 a : Addr) (tb : Tb) (zs : List Str), vs = [.ref p, .ref a] ∧ H p = some (.ins C dx (vF d1 d2)) ∧ H d1 = some (.dK (tK tb)) ∧ (Keys tb).Nodup ∧ tb.length ≤ 1000 ∧ RowAt K H a (zs.map V.str) ∧ (∀ z ∈ zs, isNm z = true) ∧ zs.length ≤ 1000 ∧
  ∀ e H', Led H [p] H' [(p, .ins C dx (vF e d2)), (e, .dK (tK (tbSub tb zs)))] → Q (.ref p) H'
def eqTb (tb tb' : Tb) : Bool := tb.length == tb'.length && tb.all fun p => (tb'.lookup p.1).isSome && (tb.lookup p.1 == tb'.lookup p.1)
def eqCn (cn cn' : List Str) : Bool := cn.length == cn'.length && cn.all fun z => decide (z ∈ cn')
def spEqV (C : Addr) : Sp := fun vs H Q _ => ∃ (p q : Addr) (tb tb' : Tb) (cn cn' : List Str), vs = [.ref p, .ref q] ∧ RdV C H p tb cn ∧ RdV C H q tb' cn' ∧ (Keys tb).Nodup ∧ Q (.bl (eqTb tb tb' && eqCn cn cn')) H
def spSeeing (K : PySem.W.Frag) (C : Addr) : Sp := fun vs H Q _ => ∃ (a b : Addr) (zs hs : List Str), vs = [.ref a, .ref b] ∧ RowAt K H a (zs.map V.str) ∧ RowAt K H b (hs.map V.str) ∧ (∀ z ∈ zs, isNm z = true) ∧ zs.length ≤ 1000 ∧ (∀ z ∈ hs, isNm z = true) ∧ hs.length ≤ 1000 ∧
  ∀ x dx d1 d2 H', Led H [] H' (vL C x dx d1 d2 (seeTb zs) (dd hs)) → Q (.ref x) H'
theorem keys_of (g : Str → Str) : ∀ ys : List Str, Keys (ys.map fun z => (z, g z)) = ys
  | [] => rfl
  | y :: ys => congrArg (y :: ·) (keys_of g ys)
theorem nmRow {K : PySem.W.Frag} {H : Hp} {zs : List Str} (h : ∀ z ∈ zs, isNm z = true) : ∀ x ∈ zs.map V.str, NameV K H x true := fun x hx => by
  obtain ⟨z, hz', rfl⟩ := List.mem_map.mp hx
  exact nameV (h z hz')
section
variable {P : Program} {w : World} {K : PySem.W.Frag} {mg : Str → Option Value} {base : Heap} {f C : Addr} {fd : FuncData}
theorem ok_sights (B : Blt mg) (T : VTxt K mg C) (F : FnP K "sights" "View.sights" s_View_sights [] f fd) : FnOk P w K mg base (L2.CX P w) 1 f fd ["self"] (spSightsP C) := by
  refine FunD.okW F sc_View_sights (fun vs H Q E h => ?_) (fun cdv A outer s H vs Q E hr h => ?_)
  · obtain ⟨p, tb, cn, rfl, _⟩ := h
    rfl
  · obtain ⟨p, tb, cn, rfl, ⟨dx, d1, d2, v⟩, nd, hl, q⟩ := h
    refine wb_one (ws_ret (we_dc (own := [("word", 1)]) (g := gName 1) sc_View_sights.nd (blkOk_by (N := ["self", "word"]) (sc := defScope s_View_sights) (by decide +kernel)) (fun _ _ _ _ _ => pg_name (i := 1) sc_View_sights.nd rfl (.inl rfl)) (wi_list
      (we_callB cr_sortedS B.sorted_ (by decide +kernel) (wa_cons (we_callTy (call_listD rfl) B.list_ (by decide +kernel) (wa_cons (we_fld ?_))))))))
    walk_at "v"
    refine ⟨p, C, dx, _, _, rfl, v.ob, T.cl, T.nT, vF_table, wa_nil ⟨d1, _, rfl, .inl v.t, fun l hl' => wa_nil ?_⟩⟩
    rw [keys_tK]
    have S1 := (Led.refl : Led H [] H []).alloc hl' (.lst ((Keys tb).map V.str))
    refine ⟨l, Keys tb, rfl, SqL.of upd_same, by simpa using hl, fun ys r hp hs hr' => ?_⟩
    have S2 := (S1.alloc hr' (.lst (ys.map V.str))).drop 1 rfl
    have nys : ys.Nodup := hp.nodup_iff.mpr nd
    refine ⟨r, _, rfl, SqL.of upd_same, fun J w D hD => ⟨_, _, _, w, fun i H' => Led H [] H' [(D, .dK (tK ((ys.take i).map fun z => (z, (tb.lookup z).getD z)))), (r, .lst (ys.map V.str))], ?_, ?_, ?_, ?_⟩⟩
    · exact S2.alloc hD _
    · intro i H' _ S
      exact SqL.of (S.get 1 rfl)
    · rintro i x H1 H2 hi S ⟨rfl, hx⟩
      rw [List.getElem?_map] at hx
      obtain ⟨z, hz', rfl⟩ := Option.map_eq_some_iff.mp hx
      have hz : z ∈ Keys tb := hp.mem_iff.mp (List.mem_of_getElem? hz')
      obtain ⟨y, ey⟩ := Option.isSome_iff_exists.mp (key_iff.mp hz)
      refine ⟨rfl, fun s0 H0 C0 cl fp => ?_⟩
      walk_at "v"
      refine fun s0 H0 C0 cl fp => toE (pe_dget (hu_of hr) wE wE (by intro _ _; with_unfolding_all rfl)) (we_fld ?_)
      walk_at "v"
      refine ⟨p, C, dx, _, _, rfl, S.same _ _ v.ob, T.cl, T.nT, vF_table, ?_⟩
      walk_at "v"
      refine ⟨d1, .str y, rfl, ?_, _, .inr z, rfl, S.get 0 rfl, ?_, ?_⟩
      · have g := DGet.k (k := .inr z) (S.same _ _ v.t)
        rw [valV_tK, ey] at g
        exact g
      · rw [len_tK]
        exact small (by have := hp.length_eq; simp [Keys] at this; simp; omega)
      · have nin : z ∉ Keys ((ys.take i).map fun z => (z, (tb.lookup z).getD z)) := by
          obtain ⟨hi', e⟩ := List.getElem?_eq_some_iff.mp hz'
          have := nd_take nys hi'
          rw [e] at this
          rw [keys_of]; exact this
        rw [putK_tK_new nin, show ((ys.take i).map fun z => (z, (tb.lookup z).getD z)) ++ [(z, y)] = (ys.take (i + 1)).map fun z => (z, (tb.lookup z).getD z) by rw [List.take_add_one, hz']; simp [ey]]
        exact S.put _
    · intro H' S
      have e : ys.take (ys.map V.str).length = ys := by simp
      rw [e] at S
      have ke : Keys (ys.map fun z => (z, (tb.lookup z).getD z)) = ys := keys_of _ _
      refine q D _ H' (S.drop 1 rfl) (by rw [ke]; exact nys) fun z => ?_
      by_cases hz : z ∈ ys
      · obtain ⟨y, ey⟩ := Option.isSome_iff_exists.mp (key_iff.mp (hp.mem_iff.mp hz))
        have := mem_lk (tb := ys.map fun z => (z, (tb.lookup z).getD z)) (by rw [ke]; exact nys) (p := (z, (tb.lookup z).getD z)) (List.mem_map_of_mem hz)
        rw [this, ey]; rfl
      · rw [lookup_none_of (by rw [ke]; exact hz), lookup_none_of fun h => hz (hp.mem_iff.mpr h)]
theorem ok_copy (B : Blt mg) (T : VTxt K mg C) (gV : KFn P w K mg base "View" C 4 [] (spInit K C)) (F : FnP K "copy" "View.copy" s_View_copy [] f fd) : FnOk P w K mg base (L2.CX P w) 6 f fd ["self"] (spCopy C) := by
  refine FunD.okW F sc_View_copy (fun vs H Q E h => ?_) (fun cdv A outer s H vs Q E hr h => ?_)
  · obtain ⟨p, tb, cn, rfl, _⟩ := h
    rfl
  · obtain ⟨p, tb, cn, rfl, ⟨dx, d1, d2, v⟩, ok, ⟨c1, c2, c3⟩, q⟩ := h
    refine wb_one (ws_ret (we_make gV hr passL (wa_cons (we_fld ?_))))
    walk_at "v"
    refine ⟨p, C, dx, _, _, rfl, v.ob, T.cl, T.nT, vF_table, wa_cons (we_callTy (call_listD rfl) B.list_ (by decide +kernel) (wa_cons (we_fld ?_)))⟩
    walk_at "v"
    refine ⟨p, C, dx, _, _, rfl, v.ob, T.cl, T.nC, vF_can, wa_nil ⟨d2, _, rfl, .inl v.c, fun l hl => wa_nil fun x dy hx hdy ne => ?_⟩⟩
    rw [keys_cK] at hx hdy ⊢
    have S1 := (((Led.refl : Led H [] H []).alloc hl (.lst (cn.map V.str))).alloc hdy (.own x)).alloc (p := x) (by rw [upd_ne (Ne.symm ne)]; exact hx) (.ins C dy [])
    refine ⟨x, dy, .ref d1, l, tb, cn, rfl, upd_same, .inr ⟨d1, rfl, S1.same _ _ v.t⟩, ok, .inl (.inl (.inl (S1.get 2 rfl))), c2, c3, fun e1 e2 H' T' => ⟨rfl, ?_⟩⟩
    rw [dd_self c1] at T'
    exact q x dy e1 e2 H' (((S1.call (A := [(x, .ins C dy [])]) T' rfl rfl).drop 4 rfl).drop 3 rfl)
theorem ok_holdset (T : VTxt K mg C) (gW : GFn P w K mg base "checked_words" 3 [] (spWords K)) (gM : GFn P w K mg base "marked" 1 [] (spMarked K)) (F : FnP K "holds" "View.holds" s_View_holds_2 [] f fd) : FnOk P w K mg base (L2.CX P w) 4 f fd ["self", "value"] (spHold K C) := by
  refine FunD.okW F sc_View_holds_2 (fun vs H Q E h => ?_) (fun cdv A outer s H vs Q E hr h => ?_)
  · obtain ⟨p, dx, d1, d2, a, zs, rfl, _⟩ := h
    rfl
  · obtain ⟨p, dx, d1, d2, a, zs, rfl, hp, ha, hz, hl, q⟩ := h
    have S0 : Led H [p] H [(p, .ins C dx (vF d1 d2))] := Led.start ⟨by simp, fun x hx => by rw [List.mem_singleton.mp hx]; exact hp⟩ rfl
    refine wb_one (ws_fld (we_call gM (hr.mono (by decide)) passL (wa_cons (we_call gW (hr.mono (by decide)) passL (wa_cons ?_)))))
    walk_at "v"
    refine wa_nil ⟨a, _, rfl, ha, nmRow hz, fun l H4 T4 => wa_nil ?_⟩
    have S4 := S0.pure T4
    refine ⟨l, zs, rfl, S4.get 0 rfl, hl, fun e H5 T5 => ?_⟩
    have S5 := S4.pure T5
    walk_at "v"
    refine ⟨p, C, dx, _, rfl, S5.get 2 rfl, T.cl, T.nC, by show 2 < 1000; decide, ?_⟩
    have S6 := (S5.pick 2 rfl rfl).put (.ins C dx (putF "can" (.ref e) (vF d1 d2)))
    rw [vF_putC] at S6
    exact q e _ (S6.drop 2 rfl)
theorem ok_hold_just (gP : PsFn P w K mg base C "holds" 4 (spHold K C)) (F : FnP K "hold_just" "View.hold_just" s_View_hold_just [] f fd) : FnOk P w K mg base (L2.CX P w) 7 f fd ["self", "words"] (spHold K C) := by
  refine FunD.okW F sc_View_hold_just (fun vs H Q E h => ?_) (fun cdv A outer s H vs Q E hr h => ?_)
  · obtain ⟨p, dx, d1, d2, a, zs, rfl, _⟩ := h
    rfl
  · obtain ⟨p, dx, d1, d2, a, zs, rfl, hp, ha, hz, hl, q⟩ := h
    refine wb_one (ws_pset gP hr passL ?_)
    walk_at "v"
    walk_at "v"
    exact ⟨p, dx, _, rfl, hp, p, dx, d1, d2, a, zs, rfl, hp, ha, hz, hl, fun e H' S => q e H' S⟩
theorem ok_setitem (T : VTxt K mg C) (gN : GFn P w K mg base "is_name" 1 [] (spIsName K)) (F : FnP K "__setitem__" "View.__setitem__" s_View___setitem__ [] f fd) : FnOk P w K mg base (L2.CX P w) 2 f fd ["self", "word", "sight"] (spSet C) := by
  refine FunD.okW F sc_View___setitem__ (fun vs H Q E h => ?_) (fun cdv A outer s H vs Q E hr h => ?_)
  · obtain ⟨p, dx, d1, d2, tb, z, o, rfl, _⟩ := h
    rfl
  · obtain ⟨p, dx, d1, d2, tb, z, o, rfl, hp, ht, hz, hy, hl, q⟩ := h
    have S0 : Led H [d1] H [(d1, .dK (tK tb))] := Led.start ⟨by simp, fun x hx => by rw [List.mem_singleton.mp hx]; exact ht⟩ rfl
    refine wb_cons (ws_if (wt_not (wt_val (we_call gN hr passL (wa_cons ?_)))))
    walk_at "v"
    refine wa_nil ⟨_, true, rfl, nameV hz, _, rfl, iteF (wb_nil ?_)⟩
    cases o with
    | some y =>
      refine wb_cons (ws_if (wt_and (wt_cmp op_notN ?_)))
      walk_at "v"
      refine we_non ⟨rfl, _, rfl, iteT (ww_and1 (wt_not (wt_val (we_call gN hr passL (wa_cons ?_)))))⟩
      walk_at "v"
      refine wa_nil ⟨_, true, rfl, nameV (hy y rfl), _, rfl, iteF (wb_nil ?_)⟩
      refine wb_one (ws_if (wt_cmp op_notN ?_))
      walk_at "v"
      refine we_non ⟨rfl, _, rfl, iteT (wb_one (ws_dput (hu_of hr) ?_))⟩
      walk_at "v"
      refine we_fld ?_
      walk_at "v"
      refine ⟨p, C, dx, _, _, rfl, hp, T.cl, T.nT, vF_table, ?_⟩
      walk_at "v"
      refine ⟨d1, _, rfl, DPut.k (k := .inr z) ht (small (by rw [len_tK]; omega)), ?_⟩
      show Q .non (upd H d1 (.dK (putK (tK tb) (.inr z) (.str y))))
      rw [putK_tK]
      exact q _ (S0.put _)
    | none =>
      refine wb_cons (ws_if (wt_and (wt_cmp op_notN ?_)))
      walk_at "v"
      refine we_non ⟨rfl, _, rfl, iteF (iteF (wb_nil ?_))⟩
      refine wb_one (ws_if (wt_cmp op_notN ?_))
      walk_at "v"
      refine we_non ⟨rfl, _, rfl, iteF ?_⟩
      refine wb_one (ws_if (toT (pt_cmp (pc_din (hu_of hr) wE wE)) ?_))
      walk_at "v"
      refine we_fld ?_
      walk_at "v"
      refine ⟨p, C, dx, _, _, rfl, hp, T.cl, T.nT, vF_table, d1, _, rfl, DGet.k (k := .inr z) ht, _, rfl, ?_⟩
      rw [valV_tK]
      cases e : tb.lookup z with
      | none =>
        refine iteF (wb_nil ?_)
        have e2 : tbDel tb z = tb := by
          unfold tbDel tbKeep
          refine List.filter_eq_self.mpr fun p hp => decide_eq_true fun h => ?_
          have : z ∈ Keys tb := h ▸ List.mem_map_of_mem hp
          rw [key_iff, e] at this
          cases this
        refine q _ ?_
        show Led H [d1] H [(d1, .dK (tK (tbDel tb z)))]
        rw [e2]; exact S0
      | some y =>
        refine iteT (wb_one (toS (ps_ddel wE wE) (we_fld ?_)))
        walk_at "v"
        refine ⟨p, C, dx, _, _, rfl, hp, T.cl, T.nT, vF_table, ?_⟩
        walk_at "v"
        refine ⟨d1, _, .inr z, rfl, ht, rfl, by rw [valV_tK, e]; rfl, ?_⟩
        rw [dropK_tK]
        exact q _ (S0.put _)
theorem ok_ior (T : VTxt K mg C) (gS : GFn P w K mg base "checked_sights" 2 [] (spSights K)) (F : FnP K "__ior__" "View.__ior__" s_View___ior__ [] f fd) : FnOk P w K mg base (L2.CX P w) 3 f fd ["self", "more"] (spIor C) := by
  refine FunD.okW F sc_View___ior__ (fun vs H Q E h => ?_) (fun cdv A outer s H vs Q E hr h => ?_)
  · obtain ⟨p, dx, d1, d2, m, tb, mb, rfl, _⟩ := h
    rfl
  · obtain ⟨p, dx, d1, d2, m, tb, mb, rfl, hp, ht, hm, ok, hl, q⟩ := h
    have S0 : Led H [p] H [(p, .ins C dx (vF d1 d2))] := Led.start ⟨by simp, fun x hx => by rw [List.mem_singleton.mp hx]; exact hp⟩ rfl
    have hd : d1 ∉ [p] := ne_ins hp ht (by intro _ _ _ z; cases z)
    refine wb_cons (ws_set 2 sc_View___ior__.nd (we_call gS hr passL (wa_cons ?_)))
    walk_at "v"
    refine wa_nil ⟨m, mb, rfl, hm, ok, fun a H1 T1 => ?_⟩
    have S1 := S0.pure T1
    refine wb_cons (ws_fld (we_dict2 fun D hD => ?_))
    have S2 := S1.alloc hD (.dK (tK []))
    walk_at "v"
    have l1 := len_merge mb []
    simp only [List.length_nil] at l1
    have sz := ok.sz
    refine ⟨a, tK mb, rfl, fun e => ?_, .inl (S2.get 1 rfl), S2.get 0 rfl, small' (by rw [len_tK]; omega), we_fld ?_⟩
    · subst e; rw [S1.get 0 rfl] at hD; cases hD
    walk_at "v"
    have S3 := S2.put (.dK (mergeK [] (tK mb)))
    refine ⟨p, C, dx, _, _, rfl, S3.get 2 rfl, T.cl, T.nT, vF_table, d1, tK tb, rfl, fun e => ?_, .inl (S3.keep _ _ ht hd), S3.get 0 rfl, small' ?_, ?_⟩
    · subst e; rw [S1.keep _ _ ht hd] at hD; cases hD
    · rw [show ([] : List (Key × V)) = tK [] from rfl, mergeK_tK, len_tK, len_tK]; omega
    walk_at "v"
    have S4 := S3.put (.dK (mergeK (mergeK [] (tK mb)) (tK tb)))
    refine ⟨p, C, dx, _, rfl, S4.get 2 rfl, T.cl, T.nT, by show 2 < 1000; decide, ?_⟩
    have S5 := (S4.pick 2 rfl rfl).put (.ins C dx (putF "table" (.ref D) (vF d1 d2)))
    rw [show ([] : List (Key × V)) = tK [] from rfl, mergeK_tK, mergeK_tK, vF_putT] at S5 ⊢
    refine wb_one (ws_ret ?_)
    walk_at "v"
    exact q D _ (S5.drop 2 rfl)
theorem ok_isub (T : VTxt K mg C) (gW : GFn P w K mg base "checked_words" 3 [] (spWords K)) (gM : GFn P w K mg base "marked" 1 [] (spMarked K)) (F : FnP K "__isub__" "View.__isub__" s_View___isub__ [] f fd) : FnOk P w K mg base (L2.CX P w) 4 f fd ["self", "words"] (spIsub K C) := by
  refine FunD.okW F sc_View___isub__ (fun vs H Q E h => ?_) (fun cdv A outer s H vs Q E hr h => ?_)
  · obtain ⟨p, dx, d1, d2, a, tb, zs, rfl, _⟩ := h
    rfl
  · obtain ⟨p, dx, d1, d2, a, tb, zs, rfl, hp, ht, nd, hl, ha, hz, hzl, q⟩ := h
    have S0 : Led H [p] H [(p, .ins C dx (vF d1 d2))] := Led.start ⟨by simp, fun x hx => by rw [List.mem_singleton.mp hx]; exact hp⟩ rfl
    have hd : d1 ∉ [p] := ne_ins hp ht (by intro _ _ _ z; cases z)
    refine wb_cons (ws_set 2 sc_View___isub__.nd (we_call gM (hr.mono (by decide)) passL (wa_cons (we_call gW hr passL (wa_cons ?_)))))
    walk_at "v"
    refine wa_nil ⟨a, _, rfl, ha, nmRow hz, fun l H4 T4 => wa_nil ?_⟩
    have S4 := S0.pure T4
    refine ⟨l, zs, rfl, S4.get 0 rfl, hzl, fun g H5 T5 => ?_⟩
    have S5 := (S4.pure T5).drop 1 rfl
    refine wb_cons (ws_fld (we_lock (S5.keep _ _ ht hd) trivial fun od => ?_))
    have S6 := S5.lock (od := od) ht hd
    refine we_dcIf (own := [("word", 3)]) (g := gName 3) sc_View___isub__.nd (blkOk_by (N := ["self", "words", "gone", "word"]) (sc := defScope s_View___isub__) (by decide +kernel)) (fun _ _ _ _ _ => pg_name (i := 3) sc_View___isub__.nd rfl (.inl rfl)) (wi_keys (we_fld ?_))
    walk_at "v"
    refine ⟨p, C, dx, _, _, rfl, S6.get 2 rfl, T.cl, T.nT, vF_table, d1, od, _, rfl, S6.get 0 rfl, fun J w D hD => ⟨_, _, _, w, fun i H' => Led H [d1, p] H' [(D, .dK (tK (tbSub (tb.take i) zs))), (d1, .frz od (.dK (tK tb))), (g, .dK (cK (dd zs))), (p, .ins C dx (vF d1 d2))], ?_, ?_, ?_, ?_⟩⟩
    · exact S6.alloc hD _
    · intro i H' _ S
      exact S.get 1 rfl
    · rintro i x H1 H2 hi S ⟨rfl, k, v, hx, rfl⟩
      rw [len_tK] at hi
      have hi' : tb[i]? = some tb[i] := List.getElem?_eq_getElem hi
      simp only [tK, List.getElem?_map, hi', Option.map_some, Option.some.injEq, Prod.mk.injEq] at hx
      obtain ⟨rfl, rfl⟩ := hx
      have tk1 : tbSub (tb.take (i + 1)) zs = if tb[i].1 ∈ zs then tbSub (tb.take i) zs else tbSub (tb.take i) zs ++ [(tb[i].1, tb[i].2)] := by
        unfold tbSub tbKeep
        rw [List.take_add_one, hi', List.filter_append]
        by_cases c : tb[i].1 ∈ zs <;> simp [c]
      refine ⟨rfl, fun s0 H0 C0 cl fp => toT (pt_cmp (pc_dnotin (hu_of hr) wE wE)) ?_⟩
      walk_at "v"
      walk_at "v"
      refine ⟨g, _, rfl, DGet.k (k := .inr tb[i].1) (S.get 2 rfl), _, rfl, ?_⟩
      rw [valV_cK]
      have mm : tb[i].1 ∈ dd zs ↔ tb[i].1 ∈ zs := mem_dd zs _
      by_cases c : tb[i].1 ∈ zs
      · rw [if_pos (mm.mpr c)]
        refine iteF ?_
        show Led H [d1, p] H2 [(D, .dK (tK (tbSub (tb.take (i + 1)) zs))), _, _, _]
        rw [tk1, if_pos c]; exact S
      · rw [if_neg (fun h => c (mm.mp h))]
        refine iteT fun s0 H0 C0 cl fp => ?_
        walk_at "v"
        refine fun s0 H0 C0 cl fp => toE (pe_dget (hu_of hr) wE wE (by intro _ _; with_unfolding_all rfl)) (we_fld ?_)
        walk_at "v"
        refine ⟨p, C, dx, _, _, rfl, S.get 3 rfl, T.cl, T.nT, vF_table, ?_⟩
        walk_at "v"
        refine ⟨d1, .str tb[i].2, rfl, ?_, _, .inr tb[i].1, rfl, S.get 0 rfl, ?_, ?_⟩
        · have e := mem_lk nd (List.getElem_mem hi)
          have e2 : valV (tK tb) (.inr tb[i].1) = some (.str tb[i].2) := by rw [valV_tK, e]; rfl
          exact .inl ⟨_, _, .inr ⟨od, S.get 1 rfl⟩, rfl, e2.symm⟩
        · rw [len_tK]
          refine small (Nat.le_trans (List.length_filter_le _ _) ?_)
          simp; omega
        · have nin : tb[i].1 ∉ Keys (tbSub (tb.take i) zs) := fun h => by
            obtain ⟨x, hx, e⟩ := List.mem_map.mp h
            exact nd_keys nd hi (e ▸ List.mem_map_of_mem (mem_keep hx))
          show Led H [d1, p] _ [(D, .dK (tK (tbSub (tb.take (i + 1)) zs))), _, _, _]
          rw [putK_tK_new nin, tk1, if_neg c]
          exact S.put _
    · intro H' S
      rw [len_tK, List.take_length] at S
      refine ⟨S.get 1 rfl, ?_⟩
      have S7 := (S.pick 1 rfl rfl).unlock ht
      walk_at "v"
      refine ⟨p, C, dx, _, rfl, S7.get 2 rfl, T.cl, T.nT, by show 2 < 1000; decide, ?_⟩
      have S8 := (S7.pick 2 rfl rfl).put (.ins C dx (putF "table" (.ref D) (vF d1 d2)))
      rw [vF_putT] at S8 ⊢
      refine wb_one (ws_ret ?_)
      walk_at "v"
      exact q D _ (S8.drop 2 rfl)
end
end LG
-- D8
namespace LG
open PySem L2
local macro_rules | `(tactic| walk_at "v") => `(tactic| first | refine we_var 0 rfl ?_ | refine we_var 1 rfl ?_ | refine we_var 2 rfl ?_ | refine we_var 3 rfl ?_ | refine we_var 4 rfl ?_ | refine we_var 5 rfl ?_ | refine we_var 6 rfl ?_ | refine we_var 7 rfl ?_ | refine we_var 8 rfl ?_ | refine we_var 9 rfl ?_ | refine we_var 10 rfl ?_ | refine we_var 11 rfl ?_ | refine we_var 12 rfl ?_ | refine we_var 13 rfl ?_ | refine we_var 14 rfl ?_ | refine we_var 15 rfl ?_)
local macro_rules | `(tactic| walk_at "c") => `(tactic| first | refine we_int ?_ | refine we_str ?_ | refine we_bl ?_ | refine we_non ?_ | walk_at "v")
local macro_rules | `(tactic| walk_at "s") => `(tactic| first | refine wb_one ?_ | refine wb_cons ?_ | refine wb_nil ?_)
theorem beq_str_some (a b : Str) : (some a == some b) = (a == b) := rfl
def eT (tb tb' : Tb) : Key → Bool := fun k => match k with | .inr z => tb.lookup z == tb'.lookup z | .inl _ => false
theorem cmps_tK {tb tb' : Tb} (nd : (Keys tb).Nodup) : Cmps (eT tb tb') (tK tb) (tK tb') := by
  intro p hp u hu
  obtain ⟨q, hq, rfl⟩ := List.mem_map.mp hp
  rw [valV_tK] at hu
  obtain ⟨y, ey, rfl⟩ := Option.map_eq_some_iff.mp hu
  show Eq1 (.str q.2) (.str y) (tb.lookup q.1 == tb'.lookup q.1)
  rw [mem_lk nd hq, ey]
  exact .str q.2 y
theorem eqKV_tK (tb tb' : Tb) : eqKV (eT tb tb') (tK tb) (tK tb') = eqTb tb tb' := by
  unfold eqKV eqTb
  rw [len_tK, len_tK]
  congr 1
  unfold tK
  rw [List.all_map]
  congr 1
  funext p
  show ((valV (tK tb') (.inr p.1)).isSome && _) = _
  rw [valV_tK, Option.isSome_map]
  rfl
theorem cmps_cK {cn cn' : List Str} : Cmps (fun _ => true) (cK cn) (cK cn') := by
  intro p hp u hu
  obtain ⟨q, hq, rfl⟩ := List.mem_map.mp hp
  rw [valV_cK] at hu
  split at hu
  · cases hu; exact .bl true true
  · cases hu
theorem eqKV_cK (cn cn' : List Str) : eqKV (fun _ => true) (cK cn) (cK cn') = eqCn cn cn' := by
  unfold eqKV eqCn
  rw [len_cK, len_cK]
  congr 1
  unfold cK
  rw [List.all_map]
  congr 1
  funext p
  show ((valV (cK cn') (.inr p)).isSome && true) = _
  rw [valV_cK]
  by_cases c : p ∈ cn' <;> simp [c]
section
variable {P : Program} {w : World} {K : PySem.W.Frag} {mg : Str → Option Value} {base : Heap} {f C : Addr} {fd : FuncData}
theorem ok_eq (B : Blt mg) (T : VTxt K mg C) (V1 : VInst K C) (F : FnP K "__eq__" "View.__eq__" s_View___eq__ [] f fd) : FnOk P w K mg base (L2.CX P w) 1 f fd ["self", "other"] (spEqV C) := by
  refine FunD.okW F sc_View___eq__ (fun vs H Q E h => ?_) (fun cdv A outer s H vs Q E hr h => ?_)
  · obtain ⟨p, q, tb, tb', cn, cn', rfl, _⟩ := h
    rfl
  · obtain ⟨p, p', tb, tb', cn, cn', rfl, ⟨dx, d1, d2, v⟩, ⟨dy, e1, e2, v'⟩, nd, q⟩ := h
    refine wb_one (ws_ret (we_and (we_callB call_isi B.isinstance_ (by decide +kernel) (wa_cons ?_))))
    walk_at "v"
    refine wa_cons (we_glob (v := .ref C) T.mgC rfl (wa_nil ⟨_, _, _, _, true, rfl, .own C, .base (.ins v'.ob T.cl V1.hc V1.hn V1.htk V1.hm), V1.kit, _, rfl, iteT (we_and (we_cmp (op_eqKV (e := eT tb tb') hr.units0) (we_fld ?_)))⟩))
    walk_at "v"
    refine ⟨p, C, dx, _, _, rfl, v.ob, T.cl, T.nT, vF_table, we_fld ?_⟩
    walk_at "v"
    refine ⟨p', C, dy, _, _, rfl, v'.ob, T.cl, T.nT, vF_table, d1, e1, _, _, rfl, rfl, v.t, v'.t, cmps_tK nd, _, rfl, ?_⟩
    rw [eqKV_tK]
    cases h : eqTb tb tb' with
    | false =>
      rw [h] at q
      exact iteF q
    | true =>
      rw [h, Bool.true_and] at q
      refine iteT (we_one (we_cmp (op_eqKV (e := fun _ => true) hr.units0) (we_fld ?_)))
      walk_at "v"
      refine ⟨p, C, dx, _, _, rfl, v.ob, T.cl, T.nC, vF_can, we_fld ?_⟩
      walk_at "v"
      refine ⟨p', C, dy, _, _, rfl, v'.ob, T.cl, T.nC, vF_can, d2, e2, _, _, rfl, rfl, v.c, v'.c, cmps_cK, ?_⟩
      rw [eqKV_cK]
      exact q
end
end LG
-- DSee
namespace LG
open PySem L2
local macro_rules | `(tactic| walk_at "v") => `(tactic| first | refine we_var 0 rfl ?_ | refine we_var 1 rfl ?_ | refine we_var 2 rfl ?_ | refine we_var 3 rfl ?_ | refine we_var 4 rfl ?_ | refine we_var 5 rfl ?_ | refine we_var 6 rfl ?_ | refine we_var 7 rfl ?_ | refine we_var 8 rfl ?_ | refine we_var 9 rfl ?_ | refine we_var 10 rfl ?_ | refine we_var 11 rfl ?_ | refine we_var 12 rfl ?_ | refine we_var 13 rfl ?_ | refine we_var 14 rfl ?_ | refine we_var 15 rfl ?_)
local macro_rules | `(tactic| walk_at "c") => `(tactic| first | refine we_int ?_ | refine we_str ?_ | refine we_bl ?_ | refine we_non ?_ | walk_at "v")
local macro_rules | `(tactic| walk_at "s") => `(tactic| first | refine wb_one ?_ | refine wb_cons ?_ | refine wb_nil ?_)
section
variable {P : Program} {w : World} {K : PySem.W.Frag} {mg : Str → Option Value} {base : Heap} {f C : Addr} {fd : FuncData}
theorem ok_seeing (gV : KFn P w K mg base "View" C 4 [] (spInit K C)) (gW : GFn P w K mg base "checked_words" 3 [] (spWords K)) {dvs : List V} (F : FnP K "seeing" "seeing" s_seeing dvs f fd) : FnOk P w K mg base (L2.CX P w) 6 f fd ["words", "holds"] (spSeeing K C) := by
  refine FunD.okW F sc_seeing (fun vs H Q E h => ?_) (fun cdv A outer s H vs Q E hr h => ?_)
  · obtain ⟨a, b, zs, hs, rfl, _⟩ := h
    rfl
  · obtain ⟨a, b, zs, hs, rfl, ha, hb, hz, hzl, hh, hhl, q⟩ := h
    refine wb_one (ws_ret (we_make gV hr passL (wa_cons (we_dc (own := [("word", 2)]) (g := gName 2) sc_seeing.nd (blkOk_by (N := ["words", "holds", "word"]) (sc := defScope s_seeing) (by decide +kernel)) (fun _ _ _ _ _ => pg_name (i := 2) sc_seeing.nd rfl (.inl rfl)) (wi_list (we_call gW (hr.mono (by decide)) passL (wa_cons ?_)))))))
    walk_at "v"
    refine wa_nil ⟨a, _, rfl, ha, nmRow hz, fun l H1 S1 => ?_⟩
    refine ⟨l, _, rfl, SqL.of (S1.get 0 rfl), fun J w D hD => ⟨_, _, _, w, fun i H' => Led H [] H' [(D, .dK (tK (seeTb (zs.take i)))), (l, .lst (zs.map V.str))], ?_, ?_, ?_, ?_⟩⟩
    · exact S1.alloc hD _
    · intro i H' _ S
      exact SqL.of (S.get 1 rfl)
    · rintro i x H2 H3 hi S ⟨rfl, hx⟩
      rw [List.getElem?_map] at hx
      obtain ⟨z, hz', rfl⟩ := Option.map_eq_some_iff.mp hx
      refine ⟨rfl, fun s0 H0 C cl fp => ?_⟩
      walk_at "v"
      refine fun s0 H0 C cl fp => ?_
      walk_at "v"
      refine ⟨_, .inr z, rfl, S.get 0 rfl, ?_, ?_⟩
      · rw [len_tK]
        refine small (Nat.le_trans (len_see _) ?_)
        simp; omega
      · rw [putK_tK, ← see_snoc, show zs.take i ++ [z] = zs.take (i + 1) by rw [List.take_add_one, hz']; rfl]
        exact S.put _
    · intro H2 S
      have e : zs.take (zs.map V.str).length = zs := by simp
      rw [e] at S
      refine wa_cons ?_
      walk_at "v"
      refine wa_nil fun x dx hx hdx ne => ?_
      have S3 := (S.alloc hdx (.own x)).alloc (p := x) (by rw [upd_ne (Ne.symm ne)]; exact hx) (.ins C dx [])
      refine ⟨x, dx, .ref D, b, seeTb zs, hs, rfl, upd_same, .inr ⟨D, rfl, S3.get 2 rfl⟩, ⟨nd_see zs, fun p hp => ⟨hz _ (mem_see zs p hp).1, hz _ (mem_see zs p hp).2⟩, Nat.le_trans (len_see zs) hzl⟩, hb.same S3.same, hh, hhl, fun e1 e2 H' T' => ⟨rfl, ?_⟩⟩
      exact q x dx e1 e2 H' ((((S3.call (A := [(x, .ins C dx [])]) T' rfl rfl).drop 5 rfl).drop 4 rfl).drop 3 rfl)
end
end LG
-- D9
namespace LG
open PySem L2
local macro_rules | `(tactic| walk_at "v") => `(tactic| first | refine we_var 0 rfl ?_ | refine we_var 1 rfl ?_ | refine we_var 2 rfl ?_ | refine we_var 3 rfl ?_ | refine we_var 4 rfl ?_ | refine we_var 5 rfl ?_ | refine we_var 6 rfl ?_ | refine we_var 7 rfl ?_ | refine we_var 8 rfl ?_ | refine we_var 9 rfl ?_ | refine we_var 10 rfl ?_ | refine we_var 11 rfl ?_ | refine we_var 12 rfl ?_ | refine we_var 13 rfl ?_ | refine we_var 14 rfl ?_ | refine we_var 15 rfl ?_)
local macro_rules | `(tactic| walk_at "c") => `(tactic| first | refine we_int ?_ | refine we_str ?_ | refine we_bl ?_ | refine we_non ?_ | walk_at "v")
local macro_rules | `(tactic| walk_at "s") => `(tactic| first | refine wb_one ?_ | refine wb_cons ?_ | refine wb_nil ?_)
def spFlag : Sp := fun vs H Q _ => ∃ a b : Bool, vs = [.bl a, .bl b] ∧ Q (.bl (decide (V.bl a = V.bl b))) H
def spStream (K : PySem.W.Frag) : Sp := fun vs H Q _ => ∃ (l : Addr) (ns : List Int) (i : Nat), vs = [.ref l, .int i] ∧ SqL K H l (ns.map V.int) ∧ ∀ (p : Addr) (a b c : Int) (H' : Hp), Led H [] H' [(p, .lst [.int a, .int b, .int c])] → Q (.ref p) H'
/-- a stream stands at p -/
def StrAt (H : Hp) (p : Addr) : Prop := ∃ a b c : Int, H p = some (.lst [.int a, .int b, .int c])
def spDraw : Sp := fun vs H Q _ => ∃ (p : Addr) (m : Int) (a b c : Int), vs = [.ref p, .int m] ∧ H p = some (.lst [.int a, .int b, .int c]) ∧ 0 < m ∧ m < 1000 ∧ ∀ (r a' b' c' : Int) (H' : Hp), Led H [p] H' [(p, .lst [.int a', .int b', .int c'])] → 0 ≤ r → r < m → Q (.int r) H'
section
variable {P : Program} {w : World} {K : PySem.W.Frag} {mg : Str → Option Value} {base : Heap} {f C : Addr} {fd : FuncData}
theorem ok_flag (B : Blt mg) (F : FnP K "_law_flag" "_law_flag" s__law_flag [] f fd) : FnOk P w K mg base (L2.CX P w) 1 f fd ["_law_told", "_law_due"] spFlag := by
  refine FunD.okW F sc__law_flag (fun vs H Q E h => ?_) (fun cdv A outer s H vs Q E hr h => ?_)
  · obtain ⟨a, b, rfl, _⟩ := h
    rfl
  · obtain ⟨a, b, rfl, q⟩ := h
    refine wb_one (ws_ret (we_and (we_callB call_isi B.isinstance_ (by decide +kernel) (wa_cons ?_))))
    walk_at "v"
    refine wa_cons (we_bltn (v := .ty "bool") B.bool_ (by decide +kernel) rfl (wa_nil ⟨_, _, _, _, true, rfl, .ty _, .base (.bl a), kit_ty (by decide +kernel), _, rfl, iteT (we_one (we_cmp op_eq ?_))⟩))
    walk_at "v"
    walk_at "v"
    exact ⟨rfl, q⟩
theorem ok_stream (B : Blt mg) (F : FnP K "_law_stream" "_law_stream" s__law_stream [] f fd) : FnOk P w K mg base (L2.CX P w) 1 f fd ["_law_script", "_law_at"] (spStream K) := by
  refine FunD.okW F sc__law_stream (fun vs H Q E h => ?_) (fun cdv A outer s H vs Q E hr h => ?_)
  · obtain ⟨l, ns, i, rfl, _⟩ := h
    rfl
  · obtain ⟨l, ns, i, rfl, hl, q⟩ := h
    refine wb_cons (ws_set 2 sc__law_stream.nd (we_int ?_))
    refine wb_cut (fun σ H' => ∃ c : Int, σ = [some (.ref l), some (.int i), some (.int c)] ∧ H' = H) (ws_if (wt_cmp op_lt ?_)) ?_
    · walk_at "v"
      refine we_callB call_len B.len_ (by decide +kernel) (wa_cons ?_)
      walk_at "v"
      refine wa_nil ⟨_, (ns.map V.int).length, rfl, .inl ⟨_, hl, rfl⟩, _, _, rfl, rfl, _, rfl, ?_⟩
      refine ite2 (fun h => ?_) (fun _ => wb_nil ⟨0, rfl, rfl⟩)
      refine wb_one (ws_set 2 sc__law_stream.nd (toE (pe_ix ix_list wE wE (by intro _ _; with_unfolding_all rfl)) ?_))
      walk_at "v"
      walk_at "v"
      have lt : i < ns.length := by
        have := of_decide_eq_true h
        simpa using this
      refine ⟨l, _, i, .int ns[i], rfl, rfl, hl, ?_, ⟨_, rfl, rfl⟩⟩
      unfold atI ixN
      rw [if_pos (Int.natCast_nonneg i), if_pos (by simpa using lt)]
      simp [lt]
    · rintro σ _ ⟨c, rfl, rfl⟩
      refine wb_cons (ws_if (wt_cmp op_ge ?_))
      walk_at "v"
      refine we_op op_pow (we_int (we_int ⟨_, _, rfl, rfl, ⟨by decide, by decide, by decide⟩, _, _, rfl, rfl, _, rfl, ?_⟩))
      refine ite2 (fun h => ?_) (fun _ => wb_nil ?_)
      · refine wb_one (ws_ret (we_lst (wa_cons ?_)))
        walk_at "v"
        refine wa_cons (we_int (wa_cons ?_))
        walk_at "v"
        exact wa_nil ⟨show 3 ≤ sizeLine from small' (by decide), Led.refl.new_ fun p H1 _ S => q p _ _ _ H1 S⟩
      · refine wb_one (ws_ret (we_lst (wa_cons (we_int (wa_cons (we_int (wa_cons (we_op op_mod (we_callTy call_int1 B.int_ (by decide +kernel) (wa_cons (we_op op_add (we_op op_mul ?_))))))))))))
        walk_at "v"
        refine we_int ⟨_, _, rfl, rfl, .inr (by decide), we_op op_mul ?_⟩
        walk_at "v"
        refine we_int ⟨_, _, rfl, rfl, .inr (by decide), _, _, rfl, rfl, wa_nil (.inl ⟨_, rfl, we_int ⟨_, _, rfl, rfl, show (0 : Int) < 2147483647 by decide, ?_⟩⟩)⟩
        exact wa_nil ⟨show 3 ≤ sizeLine from small' (by decide), Led.refl.new_ fun p H1 _ S => q p _ _ _ H1 S⟩
end
end LG
-- D10
namespace LG
open PySem L2
local macro_rules | `(tactic| walk_at "v") => `(tactic| first | refine we_var 0 rfl ?_ | refine we_var 1 rfl ?_ | refine we_var 2 rfl ?_ | refine we_var 3 rfl ?_ | refine we_var 4 rfl ?_ | refine we_var 5 rfl ?_ | refine we_var 6 rfl ?_ | refine we_var 7 rfl ?_ | refine we_var 8 rfl ?_ | refine we_var 9 rfl ?_ | refine we_var 10 rfl ?_ | refine we_var 11 rfl ?_ | refine we_var 12 rfl ?_ | refine we_var 13 rfl ?_ | refine we_var 14 rfl ?_ | refine we_var 15 rfl ?_)
local macro_rules | `(tactic| walk_at "c") => `(tactic| first | refine we_int ?_ | refine we_str ?_ | refine we_bl ?_ | refine we_non ?_ | walk_at "v")
local macro_rules | `(tactic| walk_at "s") => `(tactic| first | refine wb_one ?_ | refine wb_cons ?_ | refine wb_nil ?_)
section
variable {P : Program} {w : World} {K : PySem.W.Frag} {mg : Str → Option Value} {base : Heap} {f C : Addr} {fd : FuncData}
theorem ok_draw (B : Blt mg) (F : FnP K "_law_draw" "_law_draw" s__law_draw [] f fd) : FnOk P w K mg base (L2.CX P w) 1 f fd ["_law_stream_here", "_law_limit"] spDraw := by
  refine FunD.okW F sc__law_draw (fun vs H Q E h => ?_) (fun cdv A outer s H vs Q E hr h => ?_)
  · obtain ⟨p, m, a, b, c, rfl, _⟩ := h
    rfl
  · obtain ⟨p, m, a, b, c, rfl, hp, m0, m1, q⟩ := h
    have S0 : Led H [p] H [(p, .lst [.int a, .int b, .int c])] := Led.start ⟨by simp, fun x hx => by rw [List.mem_singleton.mp hx]; exact hp⟩ rfl
    have md : ∀ x : Int, 0 ≤ x % m ∧ x % m < m := fun x => ⟨Int.emod_nonneg x (by omega), Int.emod_lt_of_pos x m0⟩
    refine wb_cons (ws_if (wt_cmp op_gt (toE (pe_ix ix_list wE wE (by intro _ _; with_unfolding_all rfl)) ?_)))
    walk_at "v"
    refine we_int ⟨p, _, _, .int a, rfl, rfl, SqL.of hp, rfl, we_int ⟨_, _, rfl, rfl, _, rfl, ?_⟩⟩
    refine ite2 (fun ha => ?_) (fun _ => wb_nil ?_)
    · refine wb_cons (ws_set 2 sc__law_draw.nd (toE (pe_ix ix_list wE wE (by intro _ _; with_unfolding_all rfl)) ?_))
      walk_at "v"
      refine we_int ⟨p, _, _, .int a, rfl, rfl, SqL.of hp, rfl, ?_⟩
      refine wb_cons (toS (ps_asg wE (pg_sub wE wE set_list)) (we_op op_fdiv ?_))
      walk_at "v"
      walk_at "v"
      refine ⟨_, _, rfl, rfl, ⟨m0, by omega⟩, ?_⟩
      walk_at "v"
      refine we_int ⟨p, _, _, 0, rfl, rfl, hp, rfl, ?_⟩
      have S1 := S0.put (.lst [.int (a / m), .int b, .int c])
      refine wb_one (ws_ret (we_op op_mod (we_callTy call_int1 B.int_ (by decide +kernel) (wa_cons ?_))))
      walk_at "v"
      refine wa_nil (.inl ⟨_, rfl, ?_⟩)
      walk_at "v"
      exact ⟨_, _, rfl, rfl, m0, q _ _ _ _ _ S1 (md a).1 (md a).2⟩
    · refine wb_cons (toS (ps_asg wE (pg_sub wE wE set_list)) (we_op op_add (toE (pe_ix ix_list wE wE (by intro _ _; with_unfolding_all rfl)) ?_)))
      walk_at "v"
      refine we_int ⟨p, _, _, .int b, rfl, rfl, SqL.of hp, rfl, we_int ⟨_, _, rfl, rfl, ?_⟩⟩
      walk_at "v"
      refine we_int ⟨p, _, _, 1, rfl, rfl, hp, rfl, ?_⟩
      have S1 : Led H [p] (upd H p (.lst [.int a, .int (b + 1), .int c])) [(p, .lst [.int a, .int (b + 1), .int c])] := S0.put _
      refine wb_cons (ws_set 3 sc__law_draw.nd (we_op op_mod (we_callTy call_int1 B.int_ (by decide +kernel) (wa_cons (we_op op_add (we_op op_add (we_op op_mul (toE (pe_ix ix_list wE wE (by intro _ _; with_unfolding_all rfl)) ?_))))))))
      walk_at "v"
      refine we_int ⟨p, _, _, .int c, rfl, rfl, SqL.of (S1.get 0 rfl), rfl, we_int ⟨_, _, rfl, rfl, .inr (by decide), we_op op_mul (toE (pe_ix ix_list wE wE (by intro _ _; with_unfolding_all rfl)) ?_)⟩⟩
      walk_at "v"
      refine we_int ⟨p, _, _, .int (b + 1), rfl, rfl, SqL.of (S1.get 0 rfl), rfl, we_int ⟨_, _, rfl, rfl, .inr (by decide), ⟨_, _, rfl, rfl, we_int ⟨_, _, rfl, rfl, wa_nil (.inl ⟨_, rfl, we_int ⟨_, _, rfl, rfl, show (0 : Int) < 2147483647 by decide, ?_⟩⟩)⟩⟩⟩⟩
      generalize hn : (c * 48271 + (b + 1) * 40692 + 30103) % 2147483647 = n
      have n0 : 0 ≤ n ∧ n < 2147483647 := by rw [← hn]; exact ⟨Int.emod_nonneg _ (by decide), Int.emod_lt_of_pos _ (by decide)⟩
      refine wb_cons (ws_set 3 sc__law_draw.nd (we_op op_mod (we_callTy call_int1 B.int_ (by decide +kernel) (wa_cons (we_op op_mul ?_)))))
      walk_at "v"
      refine we_op op_add (we_op op_fdiv ?_)
      walk_at "v"
      refine we_int ⟨_, _, rfl, rfl, ⟨by decide, by decide⟩, we_int ⟨_, _, rfl, rfl, ⟨_, _, rfl, rfl, .inl ⟨by omega, by omega⟩, wa_nil (.inl ⟨_, rfl, we_int ⟨_, _, rfl, rfl, show (0 : Int) < 2147483629 by decide, ?_⟩⟩)⟩⟩⟩
      refine wb_cons (toS (ps_asg wE (pg_sub wE wE set_list)) ?_)
      walk_at "v"
      walk_at "v"
      refine we_int ⟨p, _, _, 2, rfl, rfl, S1.get 0 rfl, rfl, ?_⟩
      refine wb_one (ws_ret (we_op op_mod (we_callTy call_int1 B.int_ (by decide +kernel) (wa_cons (we_op op_fdiv ?_)))))
      walk_at "v"
      refine we_int ⟨_, _, rfl, rfl, ⟨by decide, by decide⟩, wa_nil (.inl ⟨_, rfl, ?_⟩)⟩
      walk_at "v"
      exact ⟨_, _, rfl, rfl, m0, q _ _ _ _ _ (S1.put _) (md _).1 (md _).2⟩
end
end LG
-- D11
namespace LG
open PySem L2
local macro_rules | `(tactic| walk_at "v") => `(tactic| first | refine we_var 0 rfl ?_ | refine we_var 1 rfl ?_ | refine we_var 2 rfl ?_ | refine we_var 3 rfl ?_ | refine we_var 4 rfl ?_ | refine we_var 5 rfl ?_ | refine we_var 6 rfl ?_ | refine we_var 7 rfl ?_ | refine we_var 8 rfl ?_ | refine we_var 9 rfl ?_ | refine we_var 10 rfl ?_ | refine we_var 11 rfl ?_ | refine we_var 12 rfl ?_ | refine we_var 13 rfl ?_ | refine we_var 14 rfl ?_ | refine we_var 15 rfl ?_)
local macro_rules | `(tactic| walk_at "c") => `(tactic| first | refine we_int ?_ | refine we_str ?_ | refine we_bl ?_ | refine we_non ?_ | walk_at "v")
local macro_rules | `(tactic| walk_at "s") => `(tactic| first | refine wb_one ?_ | refine wb_cons ?_ | refine wb_nil ?_)
def spNames : Sp := fun vs H Q _ => ∃ p : Addr, vs = [.ref p, .int 5] ∧ StrAt H p ∧ ∀ (l : Addr) (ns : List Str) (H' : Hp), Led H [p] H' [(l, .lst (ns.map V.str))] → ns.length = 5 → (∀ z ∈ ns, isNm z = true) → Q (.ref l) H'
theorem atI_low {L : List Nat} (h : L.all isLow = true) {r : Int} (r0 : 0 ≤ r) (r1 : r < L.length) : ∃ c, atI L r = some c ∧ isLow c = true := by
  have lt : r.toNat < L.length := by omega
  refine ⟨L[r.toNat], ?_, List.all_eq_true.mp h _ (List.getElem_mem lt)⟩
  unfold atI ixN
  rw [if_pos r0, if_pos r1]
  exact List.getElem?_eq_getElem lt
theorem low_push {z : Str} {c : Nat} (h : z.cps.toList.all isLow = true) (hc : isLow c = true) : (z ++ (⟨#[c]⟩ : Str)).cps.toList.all isLow = true ∧ (z ++ (⟨#[c]⟩ : Str)).length = z.length + 1 := by
  have e : (z ++ (⟨#[c]⟩ : Str)).cps = z.cps ++ #[c] := rfl
  constructor
  · rw [e]; simp only [Array.toList_append, List.all_append, h, Bool.true_and]; simp [hc]
  · show (z ++ (⟨#[c]⟩ : Str)).cps.size = z.cps.size + 1
    rw [e]; simp
theorem isNm_of {z : Str} (h : z.cps.toList.all isLow = true) (h1 : 1 ≤ z.length) (h2 : z.length ≤ 12) : isNm z = true := by
  unfold isNm; rw [h, decide_eq_true h1, decide_eq_true h2]; rfl
section
variable {P : Program} {w : World} {K : PySem.W.Frag} {mg : Str → Option Value} {base : Heap} {f C : Addr} {fd : FuncData}
theorem ok_names (B : Blt mg) (gD : GFn P w K mg base "_law_draw" 1 [] spDraw) (F : FnP K "_law_names" "_law_names" s__law_names [] f fd) : FnOk P w K mg base (L2.CX P w) 2 f fd ["_law_stream_here", "_law_count"] spNames := by
  refine FunD.okW F sc__law_names (fun vs H Q E h => ?_) (fun cdv A outer s H vs Q E hr h => ?_)
  · obtain ⟨p, rfl, _⟩ := h
    rfl
  · obtain ⟨p, rfl, ⟨a0, b0, c0, hp⟩, q⟩ := h
    have S0 : Led H [p] H [(p, .lst [.int a0, .int b0, .int c0])] := Led.start ⟨by simp, fun x hx => by rw [List.mem_singleton.mp hx]; exact hp⟩ rfl
    refine wb_cons (ws_set 2 sc__law_names.nd (we_lst (wa_nil ⟨Nat.zero_le _, fun l hl => ?_⟩)))
    have S1 := S0.alloc hl (.lst [])
    refine wb_cons (ws_for (passes_of rfl) (pg_name (i := 3) sc__law_names.nd rfl (.inl rfl)) (wi_range1 B.range_ ?_))
    walk_at "v"
    refine ⟨5, rfl, by decide, by decide, fun J w => ⟨_, _, _, w, fun i σ H' => (∃ u v t, σ = [some (.ref p), some (.int 5), some (.ref l), u, v, t]) ∧ ∃ ns : List Str, ns.length = i ∧ (∀ z ∈ ns, isNm z = true) ∧ ∃ a b c, Led H [p] H' [(l, .lst (ns.map V.str)), (p, .lst [.int a, .int b, .int c])], ?_, ?_, ?_, ?_⟩⟩
    · exact ⟨⟨_, _, _, rfl⟩, [], rfl, by simp, a0, b0, c0, S1⟩
    · intros; trivial
    · rintro i x σ H1 H2 hi ⟨⟨u, v, t, rfl⟩, ns, nl, nn, a, b, c, S⟩ ⟨rfl, rfl⟩
      have hi5 : i < 5 := hi
      refine wb_cons (ws_set 4 sc__law_names.nd (we_str ?_))
      refine wb_cut (fun σ H' => ∃ t z, σ = [some (.ref p), some (.int 5), some (.ref l), some (.int (0 + i)), some (.str z), t] ∧ isNm z = true ∧ ∃ a b c, Led H [p] H' [(p, .lst [.int a, .int b, .int c]), (l, .lst (ns.map V.str))]) (ws_for (passes_of rfl) (pg_name (i := 5) sc__law_names.nd rfl (.inl rfl)) (wi_range1 B.range_ (we_op op_add (we_int (we_call gD hr passL (wa_cons ?_)))))) ?_
      · walk_at "v"
        refine wa_cons (we_int (wa_nil ⟨p, 3, a, b, c, rfl, S.get 1 rfl, by decide, by decide, fun r a1 b1 c1 H3 T3 r0 r1 => ?_⟩))
        have S3 := (S.pick 1 rfl rfl).call (A := [_]) T3 rfl rfl
        refine ⟨_, _, rfl, rfl, 1 + r, rfl, by omega, by omega, fun J w => ⟨_, _, _, w, fun m σ H' => ∃ t z, σ = [some (.ref p), some (.int 5), some (.ref l), some (.int (0 + i)), some (.str z), t] ∧ z.cps.toList.all isLow = true ∧ z.length = m ∧ ∃ a b c, Led H [p] H' [(p, .lst [.int a, .int b, .int c]), (l, .lst (ns.map V.str))], ?_, ?_, ?_, ?_⟩⟩
        · exact ⟨_, _, rfl, by decide +kernel, by decide +kernel, _, _, _, S3⟩
        · intros; trivial
        · rintro m y σ H4 H5 hm ⟨t, z, rfl, lo, zl, a2, b2, c2, S4⟩ ⟨rfl, rfl⟩
          refine wb_one (ws_set 4 sc__law_names.nd (we_op op_add_str ?_))
          walk_at "v"
          refine toE (pe_ix ix_str wE wE (by intro _ _; with_unfolding_all rfl)) (we_str (we_call gD hr passL (wa_cons ?_)))
          walk_at "v"
          refine wa_cons (we_int (wa_nil ⟨p, 26, a2, b2, c2, rfl, S4.get 0 rfl, by decide, by decide, fun r' a3 b3 c3 H6 T6 r0' r1' => ?_⟩))
          have S6 := S4.call (A := [_]) T6 rfl rfl
          obtain ⟨ch, ech, lch⟩ := atI_low (L := ("abcdefghijklmnopqrstuvwxyz" : Str).cps.toList) (by decide +kernel) r0' (by rw [show (("abcdefghijklmnopqrstuvwxyz" : Str).cps.toList.length : Int) = 26 by decide +kernel]; exact r1')
          have lp := low_push lo lch
          refine ⟨_, _, ch, rfl, rfl, small' (by decide +kernel), ech, _, _, rfl, rfl, small' (by rw [show (⟨#[ch]⟩ : Str).length = 1 from rfl, zl]; omega), ?_⟩
          exact ⟨_, _, rfl, lp.1, by rw [lp.2, zl], _, _, _, S6⟩
        · rintro σ H4 ⟨t, z, rfl, lo, zl, a2, b2, c2, S4⟩
          exact ⟨t, z, rfl, isNm_of lo (by omega) (by omega), _, _, _, S4⟩
      · rintro σ H3 ⟨t, z, rfl, nz, a1, b1, c1, S3⟩
        refine wb_cut (fun σ H' => ∃ z, σ = [some (.ref p), some (.int 5), some (.ref l), some (.int (0 + i)), some (.str z), t] ∧ isNm z = true ∧ H' = H3) (ws_if (wt_cmp op_in_seq ?_)) ?_
        · walk_at "v"
          walk_at "v"
          refine ⟨l, _, rfl, .inl (SqL.of (S3.get 1 rfl)), rfl, by simp [flatV], _, rfl, ite2 (fun _ => ?_) (fun _ => wb_nil ⟨z, rfl, nz, rfl⟩)⟩
          refine wb_one (ws_set 4 sc__law_names.nd (we_op op_add_str (we_str (toE (pe_ix ix_str wE wE (by intro _ _; with_unfolding_all rfl)) (we_str ?_)))))
          walk_at "v"
          obtain ⟨ch, ech, lch⟩ := atI_low (L := ("abcdefghijkl" : Str).cps.toList) (by decide +kernel) (r := 0 + (i : Int)) (by omega) (by rw [show (("abcdefghijkl" : Str).cps.toList.length : Int) = 12 by decide +kernel]; omega)
          have lp := low_push (z := ("name" : Str)) (by decide +kernel) lch
          refine ⟨_, _, ch, rfl, rfl, small' (by decide +kernel), ech, _, _, rfl, rfl, small' (by rw [show (⟨#[ch]⟩ : Str).length = 1 from rfl, show ("name" : Str).length = 4 by decide +kernel]; omega), ?_⟩
          have l4 : ("name" : Str).length = 4 := by decide +kernel
          exact ⟨_, rfl, isNm_of lp.1 (by rw [lp.2]; omega) (by rw [lp.2, l4]; omega), rfl⟩
        · rintro σ _ ⟨z, rfl, nz, rfl⟩
          refine wb_one (ws_expr (toE (pe_bm PySem.F.plainAttrs_list PySem.F.slot_list_append PySem.F.type_list_append mt_append wE wA) ?_))
          walk_at "v"
          refine ⟨.inl ⟨rfl, _, SqL.of (S3.get 1 rfl)⟩, wa_cons ?_⟩
          walk_at "v"
          refine wa_nil ⟨l, _, _, rfl, rfl, S3.get 1 rfl, small (by simp; omega), ⟨_, _, _, rfl⟩, ns ++ [z], by simp [nl], fun y hy => ?_, a1, b1, c1, ?_⟩
          · rcases List.mem_append.mp hy with hy | hy
            · exact nn y hy
            · rw [List.mem_singleton.mp hy]; exact nz
          · rw [List.map_append]
            exact (S3.pick 1 rfl rfl).put _
    · rintro σ H2 ⟨⟨u, v, t, rfl⟩, ns, nl, nn, a, b, c, S⟩
      refine wb_one (ws_ret ?_)
      walk_at "v"
      exact q l ns _ (S.drop 1 rfl) nl nn
end
end LG
-- PL
namespace LG
open PySem L2
open PyProof.Rows (sortedS risingS)
/-! ### plain: sorted texts, tables as maps -/
abbrev le_ (a b : Str) : Prop := a.cps.toList ≤ b.cps.toList
theorem le_anti {a b : Str} (h1 : le_ a b) (h2 : le_ b a) : a = b := by
  have := List.le_antisymm h1 h2
  cases a; cases b
  simp only [Str.mk.injEq]
  exact Array.toList_inj.mp this
theorem rising_le : ∀ {xs : List Str} {p : Str}, risingS p xs = true → (∀ x ∈ xs, le_ p x) ∧ xs.Pairwise le_
  | [], _, _ => ⟨by simp, List.Pairwise.nil⟩
  | x :: r, p, h => by
    rw [risingS, Bool.and_eq_true] at h
    have px : le_ p x := by
      have := h.1
      rw [PyProof.Rows.ltCps_eq] at this
      exact fun q => by rw [decide_eq_true q] at this; cases this
    obtain ⟨h1, h2⟩ := rising_le h.2
    exact ⟨fun y hy => (List.mem_cons.mp hy).elim (fun e => e ▸ px) fun hy => List.le_trans px (h1 y hy), List.pairwise_cons.mpr ⟨h1, h2⟩⟩
theorem sorted_pw {xs : List Str} (h : sortedS xs = true) : xs.Pairwise le_ := by
  cases xs with
  | nil => exact List.Pairwise.nil
  | cons x r =>
    obtain ⟨h1, h2⟩ := rising_le (p := x) (xs := r) h
    exact List.pairwise_cons.mpr ⟨h1, h2⟩
theorem pw_unique : ∀ {xs ys : List Str}, xs.Pairwise le_ → ys.Pairwise le_ → xs.Perm ys → xs = ys
  | [], ys, _, _, p => (List.nil_perm.mp p).symm
  | x :: xs, [], _, _, p => by have := p.length_eq; simp at this
  | x :: xs, y :: ys, hx, hy, p => by
    rw [List.pairwise_cons] at hx hy
    have e : x = y := by
      rcases List.mem_cons.mp (p.mem_iff.mp List.mem_cons_self) with e | h1
      · exact e
      · rcases List.mem_cons.mp (p.mem_iff.mpr List.mem_cons_self) with e | h2
        · exact e.symm
        · exact le_anti (hx.1 y h2) (hy.1 x h1)
    subst e
    rw [pw_unique hx.2 hy.2 p.cons_inv]
theorem sorted_unique {xs ys : List Str} (hx : sortedS xs = true) (hy : sortedS ys = true) (p : xs.Perm ys) : xs = ys := pw_unique (sorted_pw hx) (sorted_pw hy) p
theorem len_sub : ∀ {m ks : List Str}, m.Nodup → (∀ z ∈ m, z ∈ ks) → m.length ≤ ks.length
  | [], _, _, _ => Nat.zero_le _
  | z :: m, ks, nd, sub => by
    rw [List.nodup_cons] at nd
    have p := List.perm_cons_erase (sub z List.mem_cons_self)
    have := len_sub (ks := ks.erase z) nd.2 fun y hy => (List.mem_erase_of_ne fun c => nd.1 (by rw [← c]; exact hy)).mpr (sub y (List.mem_cons_of_mem _ hy))
    rw [p.length_eq]
    simp only [List.length_cons]; omega
theorem perm_mem {m ks : List Str} (n1 : m.Nodup) (n2 : ks.Nodup) (h : ∀ z, z ∈ m ↔ z ∈ ks) : m.Perm ks :=
  perm_sub n1 (fun z hz => (h z).mp hz) (Nat.le_antisymm (len_sub n1 fun z hz => (h z).mp hz) (len_sub n2 fun z hz => (h z).mpr hz))
theorem keys_perm {tb tb' : Tb} (n1 : (Keys tb).Nodup) (n2 : (Keys tb').Nodup) (h : ∀ z, tb.lookup z = tb'.lookup z) : (Keys tb).Perm (Keys tb') :=
  perm_mem n1 n2 fun z => by rw [key_iff, key_iff, h]
theorem len_keys (tb : Tb) : (Keys tb).length = tb.length := by simp [Keys]
theorem len_eq {tb tb' : Tb} (n1 : (Keys tb).Nodup) (n2 : (Keys tb').Nodup) (h : ∀ z, tb.lookup z = tb'.lookup z) : tb.length = tb'.length := by
  rw [← len_keys, ← len_keys tb']; exact (keys_perm n1 n2 h).length_eq
theorem eqTb_iff {tb tb' : Tb} (n1 : (Keys tb).Nodup) (n2 : (Keys tb').Nodup) : eqTb tb tb' = true ↔ ∀ z, tb.lookup z = tb'.lookup z := by
  unfold eqTb
  rw [Bool.and_eq_true, beq_iff_eq, List.all_eq_true]
  constructor
  · rintro ⟨hl, ha⟩ z
    have sub : ∀ z ∈ Keys tb, z ∈ Keys tb' := fun z hz => by
      obtain ⟨p, hp, rfl⟩ := List.mem_map.mp hz
      have := ha p hp
      rw [Bool.and_eq_true] at this
      exact key_iff.mpr this.1
    have pm : (Keys tb).Perm (Keys tb') := perm_sub n1 sub (by rw [len_keys, len_keys]; exact hl)
    by_cases c : z ∈ Keys tb
    · obtain ⟨p, hp, rfl⟩ := List.mem_map.mp c
      have := ha p hp
      rw [Bool.and_eq_true] at this
      exact beq_iff_eq.mp this.2
    · rw [lookup_none_of c, lookup_none_of fun q => c (pm.mem_iff.mpr q)]
  · intro h
    refine ⟨len_eq n1 n2 h, fun p hp => ?_⟩
    rw [← h p.1, mem_lk n1 hp]
    simp
theorem eqCn_iff {cn cn' : List Str} (n1 : cn.Nodup) (n2 : cn'.Nodup) : eqCn cn cn' = true ↔ ∀ z, z ∈ cn ↔ z ∈ cn' := by
  unfold eqCn
  rw [Bool.and_eq_true, beq_iff_eq, List.all_eq_true]
  constructor
  · rintro ⟨hl, ha⟩ z
    exact (perm_sub n1 (fun z hz => of_decide_eq_true (ha z hz)) hl).mem_iff
  · intro h
    exact ⟨(perm_mem n1 n2 h).length_eq, fun z hz => decide_eq_true ((h z).mp hz)⟩
/-- the view's contents and the model's -/
structure Tab (ns : List Str) (tb : Tb) : Prop where
  nd : (Keys tb).Nodup
  mem : ∀ p ∈ tb, p.1 ∈ ns ∧ p.2 ∈ ns
structure Rel (ns : List Str) (tb : Tb) (cn : List Str) (mb : Tb) (hs : List Str) : Prop where
  t : Tab ns tb
  m : Tab ns mb
  eq : ∀ z, tb.lookup z = mb.lookup z
  cnd : cn.Nodup
  cin : ∀ z ∈ cn, z ∈ ns
  pm : hs.Perm cn
  so : sortedS hs = true
structure Nms (ns : List Str) : Prop where
  len : ns.length = 5
  nm : ∀ z ∈ ns, isNm z = true
theorem Tab.ok {ns : List Str} {tb : Tb} (N : Nms ns) (h : Tab ns tb) : TbOk tb ∧ tb.length ≤ 5 := by
  have l5 : tb.length ≤ 5 := by
    rw [← len_keys, ← N.len]
    refine len_sub h.nd fun z hz => ?_
    obtain ⟨p, hp, rfl⟩ := List.mem_map.mp hz
    exact (h.mem p hp).1
  exact ⟨⟨h.nd, fun p hp => ⟨N.nm _ (h.mem p hp).1, N.nm _ (h.mem p hp).2⟩, by omega⟩, l5⟩
theorem Rel.cok {ns : List Str} {tb mb : Tb} {cn hs : List Str} (N : Nms ns) (h : Rel ns tb cn mb hs) : CnOk cn ∧ cn.length ≤ 5 := by
  have l5 : cn.length ≤ 5 := by rw [← N.len]; exact len_sub h.cnd h.cin
  exact ⟨⟨h.cnd, fun z hz => N.nm z (h.cin z hz), by omega⟩, l5⟩
theorem bool_eq {a b : Bool} (h : a = true ↔ b = true) : a = b := by cases a <;> cases b <;> simp_all
theorem rel_eq {ns : List Str} {tb mb tb' mb' : Tb} {cn hs cn' hs' : List Str} (h : Rel ns tb cn mb hs) (h' : Rel ns tb' cn' mb' hs') : (eqTb tb tb' && eqCn cn cn') = (eqTb mb mb' && (hs == hs')) := by
  refine bool_eq ?_
  rw [Bool.and_eq_true, Bool.and_eq_true, eqTb_iff h.t.nd h'.t.nd, eqTb_iff h.m.nd h'.m.nd, eqCn_iff h.cnd h'.cnd, beq_iff_eq]
  refine and_congr ?_ ?_
  · exact forall_congr' fun z => by rw [h.eq, h'.eq]
  · constructor
    · intro q
      refine sorted_unique h.so h'.so (h.pm.trans ((perm_mem h.cnd h'.cnd q).trans h'.pm.symm))
    · intro q z
      rw [← h.pm.mem_iff, q, h'.pm.mem_iff]
end LG
-- D12
namespace LG
open PySem L2
local macro_rules | `(tactic| walk_at "v") => `(tactic| first | refine we_var 0 rfl ?_ | refine we_var 1 rfl ?_ | refine we_var 2 rfl ?_ | refine we_var 3 rfl ?_ | refine we_var 4 rfl ?_ | refine we_var 5 rfl ?_ | refine we_var 6 rfl ?_ | refine we_var 7 rfl ?_ | refine we_var 8 rfl ?_ | refine we_var 9 rfl ?_ | refine we_var 10 rfl ?_ | refine we_var 11 rfl ?_ | refine we_var 12 rfl ?_ | refine we_var 13 rfl ?_ | refine we_var 14 rfl ?_ | refine we_var 15 rfl ?_)
local macro_rules | `(tactic| walk_at "c") => `(tactic| first | refine we_int ?_ | refine we_str ?_ | refine we_bl ?_ | refine we_non ?_ | walk_at "v")
local macro_rules | `(tactic| walk_at "s") => `(tactic| first | refine wb_one ?_ | refine wb_cons ?_ | refine wb_nil ?_)
theorem nm_strOk {z : Str} (h : isNm z = true) : PyData.strOk z = true := by
  unfold isNm at h
  rw [Bool.and_eq_true] at h
  have ha := List.all_eq_true.mp h.2
  unfold PyData.strOk
  rw [Array.all_eq_true']
  intro c hc
  have := ha c (by simpa using hc)
  unfold isLow at this
  rw [Bool.and_eq_true, decide_eq_true_eq, decide_eq_true_eq] at this
  simp; omega
def ModAt (H : Hp) (T : Addr) (mb : Tb) (hs : List Str) : Prop := ∃ td tl, H T = some (.tup [.ref td, .ref tl]) ∧ H td = some (.dK (tK mb)) ∧ H tl = some (.lst (hs.map V.str))
def spRight (C : Addr) : Sp := fun vs H Q _ => ∃ (p T l : Addr) (ns : List Str) (tb mb : Tb) (cn hs : List Str), vs = [.ref p, .ref T, .ref l] ∧ RdV C H p tb cn ∧ ModAt H T mb hs ∧ H l = some (.lst (ns.map V.str)) ∧ Nms ns ∧ Rel ns tb cn mb hs ∧ ∀ H', Led H [] H' [] → Q (.bl true) H'
section
variable {P : Program} {w : World} {K : PySem.W.Frag} {mg : Str → Option Value} {base : Heap} {f C : Addr} {fd : FuncData}
theorem ok_right (B : Blt mg) (prS : PrFn P w K mg base C "sights" 1 (spSightsP C)) (prW : PrFn P w K mg base C "words" 1 (spWordsP C)) (prH : PrFn P w K mg base C "holds" 1 (spHoldsP C)) (gL : MFn P w K mg base C "__len__" 1 [] (spLen C)) (gC : MFn P w K mg base C "__contains__" 1 [] (spHas C))
    (gG : MFn P w K mg base C "__getitem__" 2 [] (spGet C)) (hk : ∀ f, PySem.W.findIn K (.ref C) "__getitem__" = some (some (.ref f)) → PySem.W.fnIn K f = true) (gF : GFn P w K mg base "_law_flag" 1 [] spFlag)
    (F : FnP K "_law_right" "_law_right" s__law_right [] f fd) : FnOk P w K mg base (L2.CX P w) 4 f fd ["_law_view", "_law_model", "_law_names_here"] (spRight C) := by
  refine FunD.okW F sc__law_right (fun vs H Q E h => ?_) (fun cdv A outer s H vs Q E hr h => ?_)
  · obtain ⟨p, T, l, ns, tb, mb, cn, hs, rfl, _⟩ := h
    rfl
  · obtain ⟨p, T, l, ns, tb, mb, cn, hs, rfl, ⟨dx, d1, d2, v⟩, ⟨td, tl, hT, htd, htl⟩, hl, N, R, q⟩ := h
    have ht := (Tab.ok N R.t).2
    have hm := (Tab.ok N R.m).2
    have hc := (R.cok N).2
    have ixm : ∀ {H' : Hp}, Same H H' → ∀ (i : Int) (x : V), atI [V.ref td, .ref tl] i = some x → ∀ Q' : VK, Q' x H' → rIxT K (.ref T) (.int i) H' Q' := fun s i x e Q' q' => ⟨T, _, i, x, rfl, rfl, SqT.of (s _ _ hT), e, q'⟩
    refine wb_cons (ws_if (wt_or (wt_cmp (op_neKV (e := eT tb mb) hr.units0) (we_prop prS (hr.mono (by decide)) ?_))))
    walk_at "v"
    refine ⟨p, dx, _, rfl, v.ob, p, tb, cn, rfl, ⟨dx, d1, d2, v⟩, R.t.nd, by omega, fun dl tb' H1 S1 nd' lk' => toE (pe_ix ix_tup wE wE (by intro _ _; with_unfolding_all rfl)) ?_⟩
    walk_at "v"
    refine we_int (ixm S1.same 0 _ rfl _ ?_)
    have e1 : eT tb mb = eT tb' mb := by
      funext k; cases k with
      | inl _ => rfl
      | inr z => show (tb.lookup z == mb.lookup z) = (tb'.lookup z == mb.lookup z); rw [lk']
    have e2 : eqTb tb' mb = true := (eqTb_iff nd' R.m.nd).mpr fun z => by rw [lk', R.eq]
    refine ⟨dl, td, _, _, rfl, rfl, S1.get 0 rfl, S1.same _ _ htd, by rw [e1]; exact cmps_tK nd', _, rfl, ?_⟩
    rw [e1, eqKV_tK, e2]
    refine iteF (ww_or (wt_cmp (op_neL hr.units) (we_prop prW (hr.mono (by decide)) ?_)))
    walk_at "v"
    have v1 := v.same S1.same
    refine ⟨p, dx, _, rfl, v1.ob, p, tb, cn, rfl, ⟨dx, d1, d2, v1⟩, by omega, fun wl ys H2 S2 py sy => we_callB cr_sortedS B.sorted_ (by decide +kernel) (wa_cons (we_callTy (call_listD rfl) B.list_ (by decide +kernel) (wa_cons (toE (pe_ix ix_tup wE wE (by intro _ _; with_unfolding_all rfl)) ?_))))⟩
    walk_at "v"
    have s12 := S1.same.trans S2.same
    refine we_int (ixm s12 0 _ rfl _ (wa_nil ⟨td, _, rfl, .inl (s12 _ _ htd), fun kl hkl => wa_nil ?_⟩))
    rw [keys_tK]
    have S3 := S2.alloc hkl (.lst ((Keys mb).map V.str))
    refine ⟨kl, Keys mb, rfl, SqL.of upd_same, by rw [len_keys]; omega, fun ys' yl py' sy' hyl => ?_⟩
    have S4 := S3.alloc hyl (.lst (ys'.map V.str))
    have ey : ys = ys' := sorted_unique sy sy' (py.trans ((keys_perm R.t.nd R.m.nd R.eq).trans py'.symm))
    have okY : StrsOk ys := fun z hz => by
      obtain ⟨pr, hpr, rfl⟩ := List.mem_map.mp (py.mem_iff.mp hz)
      exact nm_strOk (N.nm _ (R.t.mem pr hpr).1)
    refine ⟨wl, yl, ys, ys', rfl, rfl, S4.get 2 rfl, S4.get 0 rfl, okY, ey ▸ okY, _, rfl, ?_⟩
    rw [ey, beq_self_eq_true]
    refine iteF (ww_or1 (wt_cmp (op_neL hr.units) (we_prop prH (hr.mono (by decide)) ?_)))
    walk_at "v"
    have s4 := S1.same.trans S4.same
    have v4 := v.same s4
    refine ⟨p, dx, _, rfl, v4.ob, p, tb, cn, rfl, ⟨dx, d1, d2, v4⟩, by omega, fun hl5 zs H5 S5 pz sz => toE (pe_ix ix_tup wE wE (by intro _ _; with_unfolding_all rfl)) ?_⟩
    walk_at "v"
    have s5 := s4.trans S5.same
    refine we_int (ixm s5 1 _ rfl _ ?_)
    have ez : zs = hs := sorted_unique sz R.so (pz.trans R.pm.symm)
    have okZ : StrsOk zs := fun z hz => nm_strOk (N.nm _ (R.cin z (pz.mem_iff.mp hz)))
    refine ⟨hl5, tl, zs, hs, rfl, rfl, S5.get 0 rfl, s5 _ _ htl, okZ, ez ▸ okZ, _, rfl, ?_⟩
    rw [ez, beq_self_eq_true]
    refine iteF (wb_nil ?_)
    -- len
    have v5 := v.same s5
    refine wb_cons (ws_if (wt_cmp op_ne (we_callB (call_lenO gL (hr.mono (by decide)) passL) B.len_ (by decide +kernel) (wa_cons ?_))))
    walk_at "v"
    refine wa_nil ⟨p, dx, _, rfl, v5.ob, p, tb, cn, rfl, ⟨dx, d1, d2, v5⟩, _, rfl, by omega, by omega, we_callB call_lenD B.len_ PySem.boot_len (wa_cons (toE (pe_ix ix_tup wE wE (by intro _ _; with_unfolding_all rfl)) ?_))⟩
    walk_at "v"
    refine we_int (ixm s5 0 _ rfl _ (wa_nil ⟨td, _, rfl, s5 _ _ htd, ?_⟩))
    rw [len_tK, len_eq R.t.nd R.m.nd R.eq]
    refine ⟨rfl, _, rfl, ?_⟩
    rw [decide_eq_true rfl]
    refine iteF (wb_nil ?_)
    -- the names
    have s5l : Led H [] H5 [] := Led.of_same s5
    refine wb_cons (ws_for (passes_of rfl) (pg_name (i := 3) sc__law_right.nd rfl (.inl rfl)) (wi_list ?_))
    walk_at "v"
    refine ⟨l, _, rfl, SqL.of (s5 _ _ hl), fun J w => ⟨_, _, _, w, fun i σ H' => (∃ u, σ = [some (.ref p), some (.ref T), some (.ref l), u]) ∧ H' = H5, ?_, ?_, ?_, ?_⟩⟩
    · exact ⟨⟨_, rfl⟩, rfl⟩
    · rintro i σ H' _ ⟨_, rfl⟩
      exact SqL.of (s5 _ _ hl)
    · rintro i x σ _ _ hi ⟨⟨u, rfl⟩, rfl⟩ ⟨rfl, hx⟩
      rw [List.getElem?_map] at hx
      obtain ⟨z, hz', rfl⟩ := Option.map_eq_some_iff.mp hx
      have nz := N.nm z (List.mem_of_getElem? hz')
      refine wb_one (ws_if (wt_or (wt_not (wt_val (we_call gF (hr.mono (by decide)) passL (wa_cons (we_cmp (op_inO gC (hr.mono (by decide)) passL) ?_)))))))
      walk_at "v"
      walk_at "v"
      refine ⟨p, dx, _, rfl, v5.ob, p, tb, cn, z, rfl, ⟨dx, d1, d2, v5⟩, _, rfl, wa_cons (toE (pe_cmp (pc_din (hu_of hr) wE wE)) ?_)⟩
      walk_at "v"
      refine toE (pe_ix ix_tup wE wE (by intro _ _; with_unfolding_all rfl)) ?_
      walk_at "v"
      refine we_int (ixm s5 0 _ rfl _ ⟨td, _, rfl, DGet.k (k := .inr z) (s5 _ _ htd), ?_⟩)
      rw [valV_tK, Option.isSome_map, ← R.eq]
      refine wa_nil ⟨_, _, rfl, _, rfl, ?_⟩
      rw [decide_eq_true rfl]
      refine iteF (ww_or1 (wt_cmp op_ne (we_subO gG hk hr passL ?_)))
      walk_at "v"
      walk_at "v"
      refine ⟨p, dx, _, rfl, v5.ob, p, tb, cn, z, rfl, ⟨dx, d1, d2, v5⟩, nz, toE (pe_dget1 (hu_of hr) wE wE ⟨rfl, rfl, rfl, rfl⟩) (toE (pe_ix ix_tup wE wE (by intro _ _; with_unfolding_all rfl)) ?_)⟩
      walk_at "v"
      refine we_int (ixm s5 0 _ rfl _ ⟨td, rfl, .inl ⟨_, .inl (s5 _ _ htd)⟩, ?_⟩)
      walk_at "v"
      refine ⟨_, DGet.k (k := .inr z) (s5 _ _ htd), ?_⟩
      rw [valV_tK, ← R.eq]
      refine ⟨?_, _, rfl, ?_⟩
      · cases tb.lookup z <;> rfl
      rw [decide_eq_true rfl]
      exact iteF (wb_nil ⟨⟨_, rfl⟩, rfl⟩)
    · rintro σ _ ⟨⟨u, rfl⟩, rfl⟩
      exact wb_one (ws_ret (we_bl (q _ s5l)))
end
end LG
-- D13
namespace LG
open PySem L2
local macro_rules | `(tactic| walk_at "v") => `(tactic| first | refine we_var 0 rfl ?_ | refine we_var 1 rfl ?_ | refine we_var 2 rfl ?_ | refine we_var 3 rfl ?_ | refine we_var 4 rfl ?_ | refine we_var 5 rfl ?_ | refine we_var 6 rfl ?_ | refine we_var 7 rfl ?_ | refine we_var 8 rfl ?_ | refine we_var 9 rfl ?_ | refine we_var 10 rfl ?_ | refine we_var 11 rfl ?_ | refine we_var 12 rfl ?_ | refine we_var 13 rfl ?_ | refine we_var 14 rfl ?_ | refine we_var 15 rfl ?_)
local macro_rules | `(tactic| walk_at "c") => `(tactic| first | refine we_int ?_ | refine we_str ?_ | refine we_bl ?_ | refine we_non ?_ | walk_at "v")
local macro_rules | `(tactic| walk_at "s") => `(tactic| first | refine wb_one ?_ | refine wb_cons ?_ | refine wb_nil ?_)
/-! ### a ledger laid anew by places -/
theorem nd_at {L : Lg} (nd : (L.map (·.1)).Nodup) {i j : Nat} {x y : Addr × HO} (hi : L[i]? = some x) (hj : L[j]? = some y) (e : x.1 = y.1) : i = j := by
  obtain ⟨h1, rfl⟩ := List.getElem?_eq_some_iff.mp hi
  obtain ⟨h2, rfl⟩ := List.getElem?_eq_some_iff.mp hj
  have pw := List.pairwise_iff_getElem.mp nd
  rcases Nat.lt_trichotomy i j with q | q | q
  · exact (pw i j (by simpa using h1) (by simpa using h2) q (by simpa using e)).elim
  · exact q
  · exact (pw j i (by simpa using h2) (by simpa using h1) q (by simpa using e.symm)).elim
theorem nd_re {L : Lg} (nd : (L.map (·.1)).Nodup) : ∀ {is : List Nat} {L' : Lg}, is.Nodup → is.map (fun i => L[i]?) = L'.map some → (L'.map (·.1)).Nodup ∧ ∀ y ∈ L', ∃ j ∈ is, L[j]? = some y
  | [], [], _, _ => ⟨List.nodup_nil, by simp⟩
  | [], _ :: _, _, h => by simp at h
  | _ :: _, [], _, h => by simp at h
  | i :: is, x :: L', hn, h => by
    simp only [List.map_cons, List.cons.injEq] at h
    rw [List.nodup_cons] at hn
    obtain ⟨h1, h2⟩ := nd_re nd hn.2 h.2
    refine ⟨List.nodup_cons.mpr ⟨fun q => ?_, h1⟩, fun y hy => ?_⟩
    · obtain ⟨y, hy, e⟩ := List.mem_map.mp q
      obtain ⟨j, hj, ej⟩ := h2 y hy
      exact hn.1 (nd_at nd h.1 ej e.symm ▸ hj)
    · rcases List.mem_cons.mp hy with rfl | hy
      · exact ⟨i, List.mem_cons_self, h.1⟩
      · obtain ⟨j, hj, ej⟩ := h2 y hy
        exact ⟨j, List.mem_cons_of_mem _ hj, ej⟩
theorem Led.re {H0 H : Hp} {M : List Addr} {L L' : Lg} (S : Led H0 M H L) (is : List Nat) (hn : is.Nodup) (h : is.map (fun i => L[i]?) = L'.map some) : Led H0 M H L' := by
  obtain ⟨h1, h2⟩ := nd_re S.own.nd hn h
  have mem : ∀ x ∈ L', x ∈ L := fun x hx => let ⟨_, _, e⟩ := h2 x hx; List.mem_of_getElem? e
  exact ⟨⟨h1, fun x hx => S.own.at_ x (mem x hx)⟩, S.keep, fun x hx => S.new x (mem x hx)⟩
/-! ### the state of the law -/
structure VS where
  p : Addr
  dx : Addr
  d1 : Addr
  d2 : Addr
  tb : Tb
  cn : List Str
structure MS where
  T : Addr
  td : Addr
  tl : Addr
  mb : Tb
  hs : List Str
abbrev VS.L (v : VS) (C : Addr) : Lg := vL C v.p v.dx v.d1 v.d2 v.tb v.cn
abbrev MS.L (m : MS) : Lg := [(m.T, .tup [.ref m.td, .ref m.tl]), (m.td, .dK (tK m.mb)), (m.tl, .lst (m.hs.map V.str))]
abbrev VS.rel (v : VS) (ns : List Str) (m : MS) : Prop := Rel ns v.tb v.cn m.mb m.hs
def pr (b : Bool) (x y : V) : List V := if b = true then [y, x] else [x, y]
def wi (b : Bool) : Int := if b = true then 1 else 0
theorem pr_at (b : Bool) (x y : V) : atI (pr b x y) (wi b) = some x := by cases b <;> rfl
theorem pr_oth (b : Bool) (x y : V) : atI (pr b x y) (1 - wi b) = some y := by cases b <;> rfl
theorem pr_set (b : Bool) (x y z : V) : ∃ j, ixN (pr b x y).length (wi b) = some j ∧ (pr b x y).set j z = pr b z y := by cases b <;> exact ⟨_, rfl, rfl⟩
/-- two views, two models: the chosen ones first -/
abbrev StL (C : Addr) (b : Bool) (vsl msl l : Addr) (ns : List Str) (vi vj : VS) (mi mj : MS) : Lg :=
  [(vsl, .lst (pr b (.ref vi.p) (.ref vj.p))), (msl, .lst (pr b (.ref mi.T) (.ref mj.T))), (l, .lst (ns.map V.str))] ++ (vi.L C ++ vj.L C ++ (mi.L ++ mj.L))
def spDo (C : Addr) : Sp := fun vs H Q _ => ∃ (st vsl msl l : Addr) (ns : List Str) (v0 v1 : VS) (m0 m1 : MS) (a b c : Int), vs = [.ref st, .ref vsl, .ref msl, .ref l] ∧ Own H ((st, .lst [.int a, .int b, .int c]) :: StL C false vsl msl l ns v0 v1 m0 m1) ∧ Nms ns ∧ v0.rel ns m0 ∧ v1.rel ns m1 ∧
  ∀ (v0' v1' : VS) (m0' m1' : MS) (H' : Hp), Led H (((st, HO.lst [.int a, .int b, .int c]) :: StL C false vsl msl l ns v0 v1 m0 m1).map (·.1)) H' (StL C false vsl msl l ns v0' v1' m0' m1') → v0'.rel ns m0' → v1'.rel ns m1' → Q .non H'
theorem at_ns {ns : List Str} (N : Nms ns) {r : Int} (r0 : 0 ≤ r) (r1 : r < 5) : ∃ z ∈ ns, atI (ns.map V.str) r = some (.str z) := by
  have lt : r.toNat < ns.length := by rw [N.len]; omega
  refine ⟨ns[r.toNat], List.getElem_mem lt, ?_⟩
  unfold atI ixN
  rw [if_pos r0, if_pos (by rw [List.length_map, N.len]; exact r1)]
  simp [lt]
section
variable {X : Cx} {rest body : List Stmt} {σ : L2.St} {H : Hp} {D : Ends} {pos p1 p2 p3 : Pos} {x : Str} {kk j : Int} {u}
/-- if x == j, and it is not -/
theorem wb_skip (i : Nat) (ne : kk ≠ j) (h : WB X rest D σ H) (e : σ[i]? = some (some (.int kk))) (hN : X.N[i]? = some x := by rfl) (hv : Vis X.env.scope x := by first | exact Or.inl rfl | exact Or.inr (Or.inl rfl) | exact Or.inr (Or.inr rfl)) (hd : (x == ("__debug__" : Str)) = false := by decide)
    (hcd : (x == ("__classdict__" : Str)) = false := by decide) : WB X (.If (.Compare (.Name x p1) [.Eq] [.Constant (.int j) u p2] p3) body [] pos :: rest) D σ H := by
  refine wb_cons (ws_if (wt_cmp op_eq (we_var i e (we_int ⟨rfl, _, rfl, ?_⟩) hN hv hd hcd)))
  rw [decide_eq_false (fun q => ne (by injection q))]
  exact iteF (wb_nil h)
theorem wb_take (i : Nat) (h : WB X body { D with nx := WB X rest D } σ H) (e : σ[i]? = some (some (.int j))) (hN : X.N[i]? = some x := by rfl) (hv : Vis X.env.scope x := by first | exact Or.inl rfl | exact Or.inr (Or.inl rfl) | exact Or.inr (Or.inr rfl)) (hd : (x == ("__debug__" : Str)) = false := by decide)
    (hcd : (x == ("__classdict__" : Str)) = false := by decide) : WB X (.If (.Compare (.Name x p1) [.Eq] [.Constant (.int j) u p2] p3) body [] pos :: rest) D σ H := by
  refine wb_cons (ws_if (wt_cmp op_eq (we_var i e (we_int ⟨rfl, _, rfl, ?_⟩) hN hv hd hcd)))
  rw [decide_eq_true rfl]
  exact iteT h
end
end LG
-- D14
namespace LG
open PySem L2
local macro_rules | `(tactic| walk_at "v") => `(tactic| first | refine we_var 0 rfl ?_ | refine we_var 1 rfl ?_ | refine we_var 2 rfl ?_ | refine we_var 3 rfl ?_ | refine we_var 4 rfl ?_ | refine we_var 5 rfl ?_ | refine we_var 6 rfl ?_ | refine we_var 7 rfl ?_ | refine we_var 8 rfl ?_ | refine we_var 9 rfl ?_ | refine we_var 10 rfl ?_ | refine we_var 11 rfl ?_ | refine we_var 12 rfl ?_ | refine we_var 13 rfl ?_ | refine we_var 14 rfl ?_ | refine we_var 15 rfl ?_)
local macro_rules | `(tactic| walk_at "c") => `(tactic| first | refine we_int ?_ | refine we_str ?_ | refine we_bl ?_ | refine we_non ?_ | walk_at "v")
local macro_rules | `(tactic| walk_at "s") => `(tactic| first | refine wb_one ?_ | refine wb_cons ?_ | refine wb_nil ?_)
section
variable {P : Program} {w : World} {K : PySem.W.Frag} {mg : Str → Option Value} {base : Heap} {f C : Addr} {fd : FuncData}
/-- what stands behind the draws -/
abbrev doN : List Str := ["_law_stream_here", "_law_views", "_law_models", "_law_names_here", "_law_which", "_law_kind", "_law_word", "_law_sight", "_law_row", "_law_view", "_law_table", "_law_holds", "_law_gone", "_law_seen", "_law_turn"]
/-- the heap's state in the turn: the copies of the model are (td, tl) -/
abbrev TuL (C : Addr) (b : Bool) (vsl msl l rw td tl : Addr) (ns zs : List Str) (vi vj : VS) (mi mj : MS) (mb : Tb) (hs : List Str) : Lg :=
  [(td, .dK (tK mb)), (tl, .lst (hs.map V.str)), (rw, .lst (zs.map V.str)), (vsl, .lst (pr b (.ref vi.p) (.ref vj.p))), (msl, .lst (pr b (.ref mi.T) (.ref mj.T))), (l, .lst (ns.map V.str))] ++ (vi.L C ++ vj.L C ++ (mi.L ++ mj.L))
abbrev doS (st vsl msl l rw vp td tl : Addr) (b : Bool) (kd : Int) (wd sg : Str) (u1 u2 u3 : Option V) : L2.St :=
  [some (.ref st), some (.ref vsl), some (.ref msl), some (.ref l), some (.int (wi b)), some (.int kd), some (.str wd), some (.str sg), some (.ref rw), some (.ref vp), some (.ref td), some (.ref tl), u1, u2, u3]
/-- the end of the turn: _law_models[_law_which] = (_law_table, _law_holds) -/
theorem do_end {cdv : Value} {A : Around} {outer : List Env} {s : Shared} {H0 H : Hp} {M : List Addr} {E : XK} {Q : VK} {st vsl msl l rw vp td tl : Addr} {b : Bool} {kd : Int} {wd sg : Str} {u1 u2 u3 : Option V} {ns zs : List Str} {vi vj : VS} {mi mj : MS} {mb : Tb} {hs : List Str}
    (S : Led H0 M H (TuL C b vsl msl l rw td tl ns zs vi vj mi mj mb hs)) (hR : Rel ns vi.tb vi.cn mb hs)
    (q : ∀ (T : Addr) H', Led H0 M H' (StL C b vsl msl l ns vi vj ⟨T, td, tl, mb, hs⟩ mj) → Q .non H') :
    WB (cxOf (L2.CX P w) P w K mg base doN "_law_do" (defScope s__law_do) f cdv A outer s H0 E) ((defBody s__law_do).drop 15) { nx := fun _ H' => Q .non H', rt := Q } (doS st vsl msl l rw vp td tl b kd wd sg u1 u2 u3) H := by
  refine wb_one (toS (ps_asg wE (pg_sub wE wE set_list)) (we_tup (wa_cons ?_)))
  walk_at "v"
  refine wa_cons ?_
  walk_at "v"
  refine wa_nil ⟨show 2 ≤ sizeLine from small' (by decide), fun T hT => ?_⟩
  have S1 := S.alloc hT (.tup [.ref td, .ref tl])
  walk_at "v"
  walk_at "v"
  obtain ⟨j, e1, e2⟩ := pr_set b (.ref mi.T) (.ref mj.T) (.ref T)
  refine ⟨msl, _, _, j, rfl, rfl, S1.get 5 rfl, e1, ?_⟩
  rw [e2]
  exact q T _ (((S1.pick 5 rfl rfl).put (.lst (pr b (.ref T) (.ref mj.T)))).re [5, 0, 6, 7, 8, 9, 10, 11, 12, 1, 2, 3, 16, 17, 18] (by decide) rfl)
end
end LG
-- D15
namespace LG
open PySem L2
local macro_rules | `(tactic| walk_at "v") => `(tactic| first | refine we_var 0 rfl ?_ | refine we_var 1 rfl ?_ | refine we_var 2 rfl ?_ | refine we_var 3 rfl ?_ | refine we_var 4 rfl ?_ | refine we_var 5 rfl ?_ | refine we_var 6 rfl ?_ | refine we_var 7 rfl ?_ | refine we_var 8 rfl ?_ | refine we_var 9 rfl ?_ | refine we_var 10 rfl ?_ | refine we_var 11 rfl ?_ | refine we_var 12 rfl ?_ | refine we_var 13 rfl ?_ | refine we_var 14 rfl ?_ | refine we_var 15 rfl ?_)
local macro_rules | `(tactic| walk_at "c") => `(tactic| first | refine we_int ?_ | refine we_str ?_ | refine we_bl ?_ | refine we_non ?_ | walk_at "v")
local macro_rules | `(tactic| walk_at "s") => `(tactic| first | refine wb_one ?_ | refine wb_cons ?_ | refine wb_nil ?_)
section
variable {X : Cx} {σ : L2.St} {H : Hp} {Q : VK} {k v : Expr} {pos : Pos}
/-- {k: v} -/
theorem we_dict1 (h : ∀ p, H p = none → WE X k σ (upd H p (.dK [])) fun x H1 => WE X v σ H1 fun y H2 => H2 p = some (.dK []) ∧ ∃ kk : Key, x = kV kk ∧ Q (.ref p) (upd H2 p (.dK (putK [] kk y)))) : WE X (.Dict [some k] [v] pos) σ H Q :=
  toE (pe_disp (pps_cons wE wE pps_nil) rfl rfl (by simp) (show 1 ≤ 15 by decide)) fun p hp => (h p hp).mono fun x H1 h1 => h1.mono fun y H2 ⟨h2, kk, e, q⟩ => ⟨h2, [(kk, y)], by rw [e]; rfl, show 1 ≤ 15 by decide, q⟩
end
theorem vF_none {d1 d2 : Addr} {m : Str} (h1 : (m == ("table" : Str)) = false) (h2 : (m == ("can" : Str)) = false) : (vF d1 d2).lookup m = none := by
  unfold vF; simp only [List.lookup, h1, h2]
/-! ### the relation is kept -/
section
variable {ns : List Str} {tb mb : Tb} {cn hs zs : List Str} {z y : Str}
theorem Tab.put (h : Tab ns tb) (hz : z ∈ ns) (hy : y ∈ ns) : Tab ns (tbPut tb z y) := ⟨nd_put h.nd z y, fun p hp => (mem_put hp).elim (h.mem p) fun e => by rw [e]; exact ⟨hz, hy⟩⟩
theorem Tab.keep (h : Tab ns tb) (f : Str → Bool) : Tab ns (tbKeep tb f) := ⟨nd_keep h.nd f, fun p hp => h.mem p (mem_keep hp)⟩
theorem Tab.merge (h : Tab ns tb) (h' : Tab ns mb) : Tab ns (tbMerge tb mb) := ⟨nd_merge mb h.nd, fun p hp => (mem_merge mb hp).elim (h.mem p) (h'.mem p)⟩
theorem Tab.nil : Tab ns [] := ⟨by simp [Keys], by simp⟩
theorem Tab.one (hz : z ∈ ns) (hy : y ∈ ns) : Tab ns [(z, y)] := ⟨by simp [Keys], fun p hp => by rw [List.mem_singleton.mp hp]; exact ⟨hz, hy⟩⟩
theorem Tab.see (h : ∀ z ∈ zs, z ∈ ns) : Tab ns (seeTb zs) := ⟨nd_see zs, fun p hp => ⟨h _ (mem_see zs p hp).1, h _ (mem_see zs p hp).2⟩⟩
theorem Rel.tabs {tb' mb' : Tb} (R : Rel ns tb cn mb hs) (h1 : Tab ns tb') (h2 : Tab ns mb') (e : ∀ z, tb'.lookup z = mb'.lookup z) : Rel ns tb' cn mb' hs := ⟨h1, h2, e, R.cnd, R.cin, R.pm, R.so⟩
theorem Rel.put (R : Rel ns tb cn mb hs) (hz : z ∈ ns) (hy : y ∈ ns) : Rel ns (tbPut tb z y) cn (tbPut mb z y) hs := R.tabs (R.t.put hz hy) (R.m.put hz hy) fun j => by rw [lk_put, lk_put, R.eq]
theorem Rel.del (R : Rel ns tb cn mb hs) (z : Str) : Rel ns (tbDel tb z) cn (tbDel mb z) hs := R.tabs (R.t.keep _) (R.m.keep _) fun j => by rw [lk_del, lk_del, R.eq]
theorem Rel.hold (R : Rel ns tb cn mb hs) (hz : ∀ z ∈ zs, z ∈ ns) {m hs' : List Str} (nd : m.Nodup) (mem : ∀ z, z ∈ m ↔ z ∈ zs) (pm : hs'.Perm m) (so : PyProof.Rows.sortedS hs' = true) : Rel ns tb (dd zs) mb hs' :=
  ⟨R.t, R.m, R.eq, nd_dd zs, fun z h => hz z ((mem_dd zs z).mp h), pm.trans (perm_mem nd (nd_dd zs) fun z => by rw [mem, mem_dd]), so⟩
theorem Rel.ior (R : Rel ns tb cn mb hs) (hz : z ∈ ns) (hy : y ∈ ns) : Rel ns (tbMerge (tbMerge [] [(z, y)]) tb) cn (if (mb.lookup z).isSome = true then mb else tbPut mb z y) hs := by
  refine R.tabs ((Tab.nil.merge (Tab.one hz hy)).merge R.t) ?_ fun j => ?_
  · split
    · exact R.m
    · exact R.m.put hz hy
  · rw [lk_merge j tb _ R.t.nd, lk_merge j [(z, y)] [] (by simp [Keys]), R.eq]
    by_cases c : (mb.lookup z).isSome = true
    · rw [if_pos c]
      by_cases d : (mb.lookup j).isSome = true
      · rw [if_pos d]
      · rw [if_neg d]
        have e : (j == z) = false := by
          rw [beq_eq_false_iff_ne]; intro e; exact d (e ▸ c)
        have dn : mb.lookup j = none := Option.not_isSome_iff_eq_none.mp d
        simp [List.lookup, e, dn]
    · rw [if_neg c, lk_put]
      by_cases e : j = z
      · subst e
        rw [if_neg c]; simp [List.lookup]
      · have e' : (j == z) = false := by simpa using e
        rw [if_neg e]
        by_cases d : (mb.lookup j).isSome = true
        · rw [if_pos d]
        · have dn : mb.lookup j = none := Option.not_isSome_iff_eq_none.mp d
          rw [if_neg d, dn]; simp [List.lookup, e']
theorem lk_dels : ∀ (zs : List Str) (mb : Tb) (j : Str), (zs.foldl tbDel mb).lookup j = if j ∈ zs then none else mb.lookup j
  | [], mb, j => by simp
  | z :: zs, mb, j => by
    rw [List.foldl_cons, lk_dels zs, lk_del]
    by_cases c : j ∈ zs
    · rw [if_pos c, if_pos (List.mem_cons_of_mem _ c)]
    · by_cases e : j = z <;> simp [c, e]
theorem tab_dels : ∀ (zs : List Str) {mb : Tb}, Tab ns mb → Tab ns (zs.foldl tbDel mb)
  | [], _, h => h
  | z :: zs, _, h => tab_dels zs (h.keep _)
theorem Rel.sub (R : Rel ns tb cn mb hs) (zs : List Str) : Rel ns (tbSub tb zs) cn (zs.foldl tbDel mb) hs := R.tabs (R.t.keep _) (tab_dels zs R.m) fun j => by rw [lk_sub, lk_dels, R.eq]
theorem del_none {mb : Tb} {z : Str} (e : mb.lookup z = none) : tbDel mb z = mb := by
  unfold tbDel tbKeep
  refine List.filter_eq_self.mpr fun p hp => decide_eq_true fun h => ?_
  have : z ∈ Keys mb := h ▸ List.mem_map_of_mem hp
  rw [key_iff, e] at this
  cases this
end
end LG
-- D16
namespace LG
open PySem L2
local macro_rules | `(tactic| walk_at "v") => `(tactic| first | refine we_var 0 rfl ?_ | refine we_var 1 rfl ?_ | refine we_var 2 rfl ?_ | refine we_var 3 rfl ?_ | refine we_var 4 rfl ?_ | refine we_var 5 rfl ?_ | refine we_var 6 rfl ?_ | refine we_var 7 rfl ?_ | refine we_var 8 rfl ?_ | refine we_var 9 rfl ?_ | refine we_var 10 rfl ?_ | refine we_var 11 rfl ?_ | refine we_var 12 rfl ?_ | refine we_var 13 rfl ?_ | refine we_var 14 rfl ?_ | refine we_var 15 rfl ?_)
local macro_rules | `(tactic| walk_at "c") => `(tactic| first | refine we_int ?_ | refine we_str ?_ | refine we_bl ?_ | refine we_non ?_ | walk_at "v")
local macro_rules | `(tactic| walk_at "s") => `(tactic| first | refine wb_one ?_ | refine wb_cons ?_ | refine wb_nil ?_)
structure DoFns (P : Program) (w : World) (K : PySem.W.Frag) (mg : Str → Option Value) (base : Heap) (C : Addr) : Prop where
  B : Blt mg
  set : MFn P w K mg base C "__setitem__" 2 [] (spSet C)
  noSeq : PySem.W.noSeq K C = true
  hj : MFn P w K mg base C "hold_just" 7 [] (spHold K C)
  ior : MFn P w K mg base C (dunderI Operator.BitOr.info.2) 3 [] (spIor C)
  isub : MFn P w K mg base C (dunderI Operator.Sub.info.2) 4 [] (spIsub K C)
  selfF : PySem.W.selfFirst K C = true
  copy : MFn P w K mg base C "copy" 6 [] (spCopy C)
  see : GFn P w K mg base "seeing" 6 [] (spSeeing K C)
  draw : GFn P w K mg base "_law_draw" 1 [] spDraw
section
variable {P : Program} {w : World} {K : PySem.W.Frag} {mg : Str → Option Value} {base : Heap} {f C : Addr} {fd : FuncData}
variable {cdv : Value} {A : Around} {outer : List Env} {s : Shared} {H0 H : Hp} {M : List Addr} {E : XK} {Q : VK} {st vsl msl l rw vp td tl : Addr} {b : Bool} {wd sg : Str} {u1 u2 u3 : Option V} {ns zs : List Str} {vi vj : VS} {mi mj : MS}
abbrev doX (P : Program) (w : World) (K : PySem.W.Frag) (mg : Str → Option Value) (base : Heap) (f : Addr) (cdv : Value) (A : Around) (outer : List Env) (s : Shared) (H0 : Hp) (E : XK) : Cx := cxOf (L2.CX P w) P w K mg base doN "_law_do" (defScope s__law_do) f cdv A outer s H0 E
abbrev doR (f : Addr) (cdv : Value) (A : Around) (s : Shared) : Prop := Room 7 (A.deeper (PyProof.Rows.envOfC "_law_do" (defScope s__law_do) s.heap.objs.size f cdv))
theorem do_k0 (D : DoFns P w K mg base C) (hr : doR f cdv A s) (N : Nms ns) (Ri : vi.rel ns mi) (hw : wd ∈ ns) (hg : sg ∈ ns) (S : Led H0 M H (TuL C b vsl msl l rw td tl ns zs vi vj mi mj mi.mb mi.hs))
    (q : ∀ (vi' : VS) (m' : MS) H', Led H0 M H' (StL C b vsl msl l ns vi' vj m' mj) → vi'.rel ns m' → Q .non H') :
    WB (doX P w K mg base f cdv A outer s H0 E) ((defBody s__law_do).drop 8) { nx := fun _ H' => Q .non H', rt := Q } (doS st vsl msl l rw vi.p td tl b 0 wd sg u1 u2 u3) H := by
  refine wb_take 5 (wb_cons (toS (ps_asg wE (pg_sub wE wE (set_own D.set D.noSeq (hr.mono (by decide)) passL))) ?_)) rfl
  walk_at "v"
  walk_at "v"
  walk_at "v"
  have l1 := (Tab.ok N Ri.t).2
  have l2 := (Tab.ok N Ri.m).2
  refine ⟨vi.p, vi.dx, _, rfl, S.get 6 rfl, vi.p, vi.dx, vi.d1, vi.d2, vi.tb, wd, some sg, rfl, S.get 6 rfl, S.get 7 rfl, N.nm _ hw, fun y e => by cases e; exact N.nm _ hg, by omega, fun H1 T1 => ?_⟩
  have S1 : Led H0 M H1 (TuL C b vsl msl l rw td tl ns zs { vi with tb := tbPut vi.tb wd sg } vj mi mj mi.mb mi.hs) := ((S.pick 7 rfl rfl).call (A := [_]) T1 rfl rfl).re [1, 2, 3, 4, 5, 6, 7, 0, 8, 9, 10, 11, 12, 13, 14, 15, 16, 17] (by decide) rfl
  refine wb_one (ws_dput (hu_of hr) ?_)
  walk_at "v"
  walk_at "v"
  walk_at "v"
  refine ⟨td, _, rfl, DPut.k (k := .inr wd) (S1.get 0 rfl) (small (by rw [len_tK]; omega)), ?_⟩
  rw [putK_tK]
  refine wb_skip 5 (by decide) (wb_skip 5 (by decide) (wb_skip 5 (by decide) (wb_skip 5 (by decide) (wb_skip 5 (by decide) (wb_skip 5 (by decide) ?_ rfl) rfl) rfl) rfl) rfl) rfl
  exact do_end (S1.put _) (Ri.put hw hg) fun T H' S' => q _ _ H' S' (Ri.put hw hg)
theorem do_k1 (D : DoFns P w K mg base C) (hr : doR f cdv A s) (N : Nms ns) (Ri : vi.rel ns mi) (hw : wd ∈ ns) (S : Led H0 M H (TuL C b vsl msl l rw td tl ns zs vi vj mi mj mi.mb mi.hs))
    (q : ∀ (vi' : VS) (m' : MS) H', Led H0 M H' (StL C b vsl msl l ns vi' vj m' mj) → vi'.rel ns m' → Q .non H') :
    WB (doX P w K mg base f cdv A outer s H0 E) ((defBody s__law_do).drop 8) { nx := fun _ H' => Q .non H', rt := Q } (doS st vsl msl l rw vi.p td tl b 1 wd sg u1 u2 u3) H := by
  refine wb_skip 5 (by decide) (wb_take 5 (wb_cons (toS (ps_asg wE (pg_sub wE wE (set_own D.set D.noSeq (hr.mono (by decide)) passL))) (we_non ?_))) rfl) rfl
  walk_at "v"
  walk_at "v"
  have l1 := (Tab.ok N Ri.t).2
  have l2 := (Tab.ok N Ri.m).2
  refine ⟨vi.p, vi.dx, _, rfl, S.get 6 rfl, vi.p, vi.dx, vi.d1, vi.d2, vi.tb, wd, none, rfl, S.get 6 rfl, S.get 7 rfl, N.nm _ hw, (fun y e => by cases e), by omega, fun H1 T1 => ?_⟩
  have S1 : Led H0 M H1 (TuL C b vsl msl l rw td tl ns zs { vi with tb := tbDel vi.tb wd } vj mi mj mi.mb mi.hs) := ((S.pick 7 rfl rfl).call (A := [_]) T1 rfl rfl).re [1, 2, 3, 4, 5, 6, 7, 0, 8, 9, 10, 11, 12, 13, 14, 15, 16, 17] (by decide) rfl
  refine wb_cut (fun σ H' => σ = doS st vsl msl l rw vi.p td tl b 1 wd sg u1 u2 u3 ∧ Led H0 M H' (TuL C b vsl msl l rw td tl ns zs { vi with tb := tbDel vi.tb wd } vj mi mj (tbDel mi.mb wd) mi.hs)) (ws_if (toT (pt_cmp (pc_din (hu_of hr) wE wE)) ?_)) ?_
  · walk_at "v"
    walk_at "v"
    refine ⟨td, _, rfl, DGet.k (k := .inr wd) (S1.get 0 rfl), _, rfl, ?_⟩
    rw [valV_tK]
    cases e : mi.mb.lookup wd with
    | none =>
      refine iteF (wb_nil ⟨rfl, ?_⟩)
      rw [del_none e]; exact S1
    | some y =>
      refine iteT (wb_one (ws_expr (toE (pe_dpop1 wE wE ⟨rfl, rfl, rfl, rfl⟩) ?_)))
      walk_at "v"
      refine ⟨td, rfl, .inl ⟨_, .inl (S1.get 0 rfl)⟩, ?_⟩
      walk_at "v"
      refine ⟨_, .inr wd, _, S1.get 0 rfl, rfl, by rw [valV_tK, e]; rfl, rfl, ?_⟩
      rw [dropK_tK]
      exact S1.put _
  · rintro σ H2 ⟨rfl, S2⟩
    exact wb_nil (wb_skip 5 (by decide) (wb_skip 5 (by decide) (wb_skip 5 (by decide) (wb_skip 5 (by decide) (wb_skip 5 (by decide) (do_end S2 (Ri.del wd) fun T H' S' => q _ _ H' S' (Ri.del wd)) rfl) rfl) rfl) rfl) rfl)
theorem do_k2 (D : DoFns P w K mg base C) (hr : doR f cdv A s) (N : Nms ns) (Ri : vi.rel ns mi) (hz : ∀ z ∈ zs, z ∈ ns) (hzl : zs.length ≤ 3) (S : Led H0 M H (TuL C b vsl msl l rw td tl ns zs vi vj mi mj mi.mb mi.hs))
    (q : ∀ (vi' : VS) (m' : MS) H', Led H0 M H' (StL C b vsl msl l ns vi' vj m' mj) → vi'.rel ns m' → Q .non H') :
    WB (doX P w K mg base f cdv A outer s H0 E) ((defBody s__law_do).drop 8) { nx := fun _ H' => Q .non H', rt := Q } (doS st vsl msl l rw vi.p td tl b 2 wd sg u1 u2 u3) H := by
  refine wb_skip 5 (by decide) (wb_skip 5 (by decide) (wb_take 5 (wb_cons (ws_expr (we_meth D.hj hr passL ?_))) rfl) rfl) rfl
  walk_at "v"
  refine ⟨vi.p, vi.dx, _, rfl, S.get 6 rfl, vF_none (by decide +kernel) (by decide +kernel), wa_cons ?_⟩
  walk_at "v"
  refine wa_nil ⟨vi.p, vi.dx, vi.d1, vi.d2, rw, zs, rfl, S.get 6 rfl, .inl (.inl (.inl (S.get 2 rfl))), fun z h => N.nm z (hz z h), by omega, fun e H1 T1 => ?_⟩
  have S1 : Led H0 M H1 (TuL C b vsl msl l rw td tl ns zs { vi with d2 := e, cn := dd zs } vj mi mj mi.mb mi.hs) := ((S.pick 6 rfl rfl).call (A := [_]) T1 rfl rfl).re [2, 3, 4, 5, 6, 7, 0, 8, 1, 10, 11, 12, 13, 14, 15, 16, 17, 18] (by decide) rfl
  refine wb_one (ws_set 11 sc__law_do.nd (we_callB (cr_sortedTx rfl) D.B.sorted_ (by decide +kernel) (wa_cons (we_callTy (cr_setTx rfl) D.B.set_ (by decide +kernel) (wa_cons ?_)))))
  walk_at "v"
  refine wa_nil ⟨rw, zs, rfl, SqL.of (S1.get 2 rfl), by omega, fun sp m hsp nd mem ml => wa_nil ⟨sp, m, rfl, upd_same, by omega, fun ys yl pm so hyl => ?_⟩⟩
  have S2 : Led H0 M _ (TuL C b vsl msl l rw td yl ns zs { vi with d2 := e, cn := dd zs } vj mi mj mi.mb ys) := ((S1.alloc hsp _).alloc hyl (.lst (ys.map V.str))).re [2, 0, 4, 5, 6, 7, 8, 9, 10, 11, 12, 13, 14, 15, 16, 17, 18, 19] (by decide) rfl
  have R2 : Rel ns vi.tb (dd zs) mi.mb ys := Ri.hold hz nd mem pm so
  exact wb_skip 5 (by decide) (wb_skip 5 (by decide) (wb_skip 5 (by decide) (wb_skip 5 (by decide) (do_end (tl := yl) S2 R2 fun T H' S' => q _ _ H' S' R2) rfl) rfl) rfl) rfl
end
end LG
-- D17
namespace LG
open PySem L2
local macro_rules | `(tactic| walk_at "v") => `(tactic| first | refine we_var 0 rfl ?_ | refine we_var 1 rfl ?_ | refine we_var 2 rfl ?_ | refine we_var 3 rfl ?_ | refine we_var 4 rfl ?_ | refine we_var 5 rfl ?_ | refine we_var 6 rfl ?_ | refine we_var 7 rfl ?_ | refine we_var 8 rfl ?_ | refine we_var 9 rfl ?_ | refine we_var 10 rfl ?_ | refine we_var 11 rfl ?_ | refine we_var 12 rfl ?_ | refine we_var 13 rfl ?_ | refine we_var 14 rfl ?_ | refine we_var 15 rfl ?_)
local macro_rules | `(tactic| walk_at "c") => `(tactic| first | refine we_int ?_ | refine we_str ?_ | refine we_bl ?_ | refine we_non ?_ | walk_at "v")
local macro_rules | `(tactic| walk_at "s") => `(tactic| first | refine wb_one ?_ | refine wb_cons ?_ | refine wb_nil ?_)
section
variable {P : Program} {w : World} {K : PySem.W.Frag} {mg : Str → Option Value} {base : Heap} {f C : Addr} {fd : FuncData}
variable {cdv : Value} {A : Around} {outer : List Env} {s : Shared} {H0 H : Hp} {M : List Addr} {E : XK} {Q : VK} {st vsl msl l rw vp td tl : Addr} {b : Bool} {wd sg : Str} {u1 u2 u3 : Option V} {ns zs : List Str} {vi vj : VS} {mi mj : MS}
theorem do_k3 (D : DoFns P w K mg base C) (hr : doR f cdv A s) (N : Nms ns) (Ri : vi.rel ns mi) (hw : wd ∈ ns) (hg : sg ∈ ns) (S : Led H0 M H (TuL C b vsl msl l rw td tl ns zs vi vj mi mj mi.mb mi.hs))
    (q : ∀ (vi' : VS) (m' : MS) H', Led H0 M H' (StL C b vsl msl l ns vi' vj m' mj) → vi'.rel ns m' → Q .non H') :
    WB (doX P w K mg base f cdv A outer s H0 E) ((defBody s__law_do).drop 8) { nx := fun _ H' => Q .non H', rt := Q } (doS st vsl msl l rw vi.p td tl b 3 wd sg u1 u2 u3) H := by
  have l1 := (Tab.ok N Ri.t).2
  have l2 := (Tab.ok N Ri.m).2
  refine wb_skip 5 (by decide) (wb_skip 5 (by decide) (wb_skip 5 (by decide) (wb_take 5 (wb_cons (toS (ps_aug (i := 9) sc__law_do.nd rfl (.inl rfl) wE (ip_own D.ior D.selfF (hr.mono (by decide)) passL)) ⟨_, rfl, we_dict1 fun dp hdp => ?_⟩)) rfl) rfl) rfl) rfl
  walk_at "v"
  walk_at "v"
  have S0 := S.alloc hdp (.dK [])
  refine ⟨upd_same, .inr wd, rfl, ?_⟩
  have e0 : putK [] (.inr wd : Key) (.str sg) = tK [(wd, sg)] := rfl
  rw [e0]
  have S1 := S0.put (.dK (tK [(wd, sg)]))
  have ok1 := (Tab.ok N (Tab.one hw hg)).1
  refine ⟨vi.p, vi.dx, _, rfl, S1.get 7 rfl, vi.p, vi.dx, vi.d1, vi.d2, dp, vi.tb, [(wd, sg)], rfl, S1.get 7 rfl, S1.get 8 rfl, S1.get 0 rfl, ok1, by omega, fun e H1 T1 => ?_⟩
  have S2 : Led H0 M H1 (TuL C b vsl msl l rw td tl ns zs { vi with d1 := e, tb := tbMerge (tbMerge [] [(wd, sg)]) vi.tb } vj mi mj mi.mb mi.hs) := ((S1.pick 7 rfl rfl).call (A := [_]) T1 rfl rfl).re [3, 4, 5, 6, 7, 8, 0, 1, 10, 11, 12, 13, 14, 15, 16, 17, 18, 19] (by decide) rfl
  have R2 := Ri.ior hw hg
  refine wb_one (ws_expr (toE (pe_dsetd wE wE wE ⟨rfl, rfl, rfl, rfl⟩) ?_))
  walk_at "v"
  refine ⟨td, rfl, .inl ⟨_, .inl (S2.get 0 rfl)⟩, ?_⟩
  walk_at "v"
  walk_at "v"
  have fin : ∀ H', Led H0 M H' (TuL C b vsl msl l rw td tl ns zs { vi with d1 := e, tb := tbMerge (tbMerge [] [(wd, sg)]) vi.tb } vj mi mj (if (mi.mb.lookup wd).isSome = true then mi.mb else tbPut mi.mb wd sg) mi.hs) →
      WB (doX P w K mg base f cdv A outer s H0 E) ((defBody s__law_do).drop 12) { nx := fun _ H' => Q .non H', rt := Q } (doS st vsl msl l rw vi.p td tl b 3 wd sg u1 u2 u3) H' := fun H' S' =>
    wb_skip 5 (by decide) (wb_skip 5 (by decide) (wb_skip 5 (by decide) (do_end S' R2 fun T H' S' => q _ _ H' S' R2) rfl) rfl) rfl
  refine ⟨_, .inr wd, S2.get 0 rfl, rfl, small (by rw [len_tK]; omega), fun v hv => fin _ ?_, fun hv => fin _ ?_⟩
  · rw [valV_tK] at hv
    have : (mi.mb.lookup wd).isSome = true := by
      cases e : mi.mb.lookup wd with
      | none => rw [e] at hv; cases hv
      | some _ => rfl
    rw [if_pos this]; exact S2
  · rw [valV_tK] at hv
    have : ¬ (mi.mb.lookup wd).isSome = true := by
      cases e : mi.mb.lookup wd with
      | none => simp
      | some _ => rw [e] at hv; cases hv
    rw [if_neg this, putK_tK]; exact S2.put _
theorem do_k4 (D : DoFns P w K mg base C) (hr : doR f cdv A s) (N : Nms ns) (Ri : vi.rel ns mi) (hz : ∀ z ∈ zs, z ∈ ns) (hzl : zs.length ≤ 3) (S : Led H0 M H (TuL C b vsl msl l rw td tl ns zs vi vj mi mj mi.mb mi.hs))
    (q : ∀ (vi' : VS) (m' : MS) H', Led H0 M H' (StL C b vsl msl l ns vi' vj m' mj) → vi'.rel ns m' → Q .non H') :
    WB (doX P w K mg base f cdv A outer s H0 E) ((defBody s__law_do).drop 8) { nx := fun _ H' => Q .non H', rt := Q } (doS st vsl msl l rw vi.p td tl b 4 wd sg u1 u2 u3) H := by
  have l1 := (Tab.ok N Ri.t).2
  refine wb_skip 5 (by decide) (wb_skip 5 (by decide) (wb_skip 5 (by decide) (wb_skip 5 (by decide) (wb_take 5 (wb_cons (toS (ps_aug (i := 9) sc__law_do.nd rfl (.inl rfl) wE (ip_own D.isub D.selfF (hr.mono (by decide)) passL)) ⟨_, rfl, ?_⟩)) rfl) rfl) rfl) rfl) rfl
  walk_at "v"
  refine ⟨vi.p, vi.dx, _, rfl, S.get 6 rfl, vi.p, vi.dx, vi.d1, vi.d2, rw, vi.tb, zs, rfl, S.get 6 rfl, S.get 7 rfl, Ri.t.nd, by omega, .inl (.inl (.inl (S.get 2 rfl))), fun z h => N.nm z (hz z h), by omega, fun e H1 T1 => ?_⟩
  have S2 : Led H0 M H1 (TuL C b vsl msl l rw td tl ns zs { vi with d1 := e, tb := tbSub vi.tb zs } vj mi mj mi.mb mi.hs) := ((S.pick 6 rfl rfl).call (A := [_]) T1 rfl rfl).re [2, 3, 4, 5, 6, 7, 0, 1, 9, 10, 11, 12, 13, 14, 15, 16, 17, 18] (by decide) rfl
  refine wb_one (ws_for (passes_of rfl) (pg_name (i := 12) sc__law_do.nd rfl (.inl rfl)) (wi_list ?_))
  walk_at "v"
  refine ⟨rw, _, rfl, SqL.of (S2.get 2 rfl), fun J w => ⟨_, _, _, w, fun i σ H' => (∃ u, σ = doS st vsl msl l rw vi.p td tl b 4 wd sg u u2 u3) ∧ Led H0 M H' (TuL C b vsl msl l rw td tl ns zs { vi with d1 := e, tb := tbSub vi.tb zs } vj mi mj ((zs.take i).foldl tbDel mi.mb) mi.hs), ?_, ?_, ?_, ?_⟩⟩
  · exact ⟨⟨_, rfl⟩, S2⟩
  · rintro i σ H' _ ⟨_, S'⟩
    exact SqL.of (S'.get 2 rfl)
  · rintro i x σ H2 _ hi ⟨⟨u, rfl⟩, S'⟩ ⟨rfl, hx⟩
    rw [List.getElem?_map] at hx
    obtain ⟨z, hz', rfl⟩ := Option.map_eq_some_iff.mp hx
    have step : (zs.take (i + 1)).foldl tbDel mi.mb = tbDel ((zs.take i).foldl tbDel mi.mb) z := by
      rw [List.take_add_one, hz', List.foldl_append]; rfl
    refine wb_one (ws_if (toT (pt_cmp (pc_din (hu_of hr) wE wE)) ?_))
    walk_at "v"
    walk_at "v"
    refine ⟨td, _, rfl, DGet.k (k := .inr z) (S'.get 0 rfl), _, rfl, ?_⟩
    rw [valV_tK]
    cases ez : ((zs.take i).foldl tbDel mi.mb).lookup z with
    | none =>
      refine iteF (wb_nil ⟨⟨_, rfl⟩, ?_⟩)
      rw [step, del_none ez]; exact S'
    | some y =>
      refine iteT (wb_one (ws_expr (toE (pe_dpop1 wE wE ⟨rfl, rfl, rfl, rfl⟩) ?_)))
      walk_at "v"
      refine ⟨td, rfl, .inl ⟨_, .inl (S'.get 0 rfl)⟩, ?_⟩
      walk_at "v"
      refine ⟨_, .inr z, _, S'.get 0 rfl, rfl, by rw [valV_tK, ez]; rfl, ⟨_, rfl⟩, ?_⟩
      rw [dropK_tK, step]
      exact S'.put _
  · rintro σ H2 ⟨⟨u, rfl⟩, S'⟩
    rw [List.length_map, List.take_length] at S'
    exact wb_skip 5 (by decide) (wb_skip 5 (by decide) (do_end S' (Ri.sub zs) fun T H' S' => q _ _ H' S' (Ri.sub zs)) rfl) rfl
theorem do_k5 (D : DoFns P w K mg base C) (hr : doR f cdv A s) (N : Nms ns) (Rj : vj.rel ns mj) (S : Led H0 M H (TuL C b vsl msl l rw td tl ns zs vi vj mi mj mi.mb mi.hs))
    (q : ∀ (vi' : VS) (m' : MS) H', Led H0 M H' (StL C b vsl msl l ns vi' vj m' mj) → vi'.rel ns m' → Q .non H') :
    WB (doX P w K mg base f cdv A outer s H0 E) ((defBody s__law_do).drop 8) { nx := fun _ H' => Q .non H', rt := Q } (doS st vsl msl l rw vi.p td tl b 5 wd sg u1 u2 u3) H := by
  refine wb_skip 5 (by decide) (wb_skip 5 (by decide) (wb_skip 5 (by decide) (wb_skip 5 (by decide) (wb_skip 5 (by decide) (wb_take 5 (wb_cons (toS (ps_asg wE (pg_sub wE wE set_list)) (we_meth0 D.copy (hr.mono (by decide)) passL (toE (pe_ix ix_list wE wE (by intro _ _; with_unfolding_all rfl)) ?_)))) rfl) rfl) rfl) rfl) rfl) rfl
  walk_at "v"
  refine we_op op_sub (we_int ?_)
  walk_at "v"
  refine ⟨_, _, rfl, rfl, vsl, _, _, _, rfl, rfl, SqL.of (S.get 3 rfl), pr_oth b _ _, ?_⟩
  refine ⟨vj.p, vj.dx, _, rfl, S.get 9 rfl, vF_none (by decide +kernel) (by decide +kernel), vj.p, vj.tb, vj.cn, rfl, ⟨vj.dx, vj.d1, vj.d2, S.get 9 rfl, S.get 10 rfl, S.get 11 rfl⟩, (Tab.ok N Rj.t).1, (Rj.cok N).1, fun x dx d1 d2 H1 T1 => ?_⟩
  have S1 := S.pure T1
  walk_at "v"
  walk_at "v"
  obtain ⟨j, e1, e2⟩ := pr_set b (.ref vi.p) (.ref vj.p) (.ref x)
  refine ⟨vsl, _, _, j, rfl, rfl, S1.get 6 rfl, e1, ?_⟩
  rw [e2]
  have S2 : Led H0 M _ (TuL C b vsl msl l rw td tl ns zs ⟨x, dx, d1, d2, vj.tb, vj.cn⟩ vj mi mj mi.mb mi.hs) := ((S1.pick 6 rfl rfl).put (.lst (pr b (.ref x) (.ref vj.p)))).re [4, 5, 6, 0, 7, 8, 1, 2, 3, 12, 13, 14, 15, 16, 17, 18, 19, 20] (by decide) rfl
  refine wb_cons (ws_set 10 sc__law_do.nd (we_callTy call_dictD D.B.dict_ (by decide +kernel) (wa_cons (toE (pe_ix ix_tup wE wE (by intro _ _; with_unfolding_all rfl)) (toE (pe_ix ix_list wE wE (by intro _ _; with_unfolding_all rfl)) ?_)))))
  walk_at "v"
  refine we_op op_sub (we_int ?_)
  walk_at "v"
  refine ⟨_, _, rfl, rfl, msl, _, _, _, rfl, rfl, SqL.of (S2.get 4 rfl), pr_oth b _ _, we_int ⟨mj.T, _, 0, _, rfl, rfl, SqT.of (S2.get 15 rfl), rfl, wa_nil ⟨mj.td, _, rfl, .inl (S2.get 16 rfl), fun nd hnd => ?_⟩⟩⟩
  have S3 := S2.alloc hnd (.dK (tK mj.mb))
  refine wb_one (ws_set 11 sc__law_do.nd (we_callTy call_list_of D.B.list_ (by decide +kernel) (wa_cons (toE (pe_ix ix_tup wE wE (by intro _ _; with_unfolding_all rfl)) (toE (pe_ix ix_list wE wE (by intro _ _; with_unfolding_all rfl)) ?_)))))
  walk_at "v"
  refine we_op op_sub (we_int ?_)
  walk_at "v"
  refine ⟨_, _, rfl, rfl, msl, _, _, _, rfl, rfl, SqL.of (S3.get 5 rfl), pr_oth b _ _, we_int ⟨mj.T, _, 1, _, rfl, rfl, SqT.of (S3.get 16 rfl), rfl, wa_nil ⟨mj.tl, _, rfl, .inl (SqL.of (S3.get 18 rfl)), fun nl hnl => ?_⟩⟩⟩
  have S4 : Led H0 M _ (TuL C b vsl msl l rw nd nl ns zs ⟨x, dx, d1, d2, vj.tb, vj.cn⟩ vj mi mj mj.mb mj.hs) := (S3.alloc hnl (.lst (mj.hs.map V.str))).re [1, 0, 4, 5, 6, 7, 8, 9, 10, 11, 12, 13, 14, 15, 16, 17, 18, 19] (by decide) rfl
  exact wb_skip 5 (by decide) (do_end (td := nd) (tl := nl) S4 Rj fun T H' S' => q _ _ H' S' Rj) rfl
theorem do_k6 (D : DoFns P w K mg base C) (hr : doR f cdv A s) (N : Nms ns) (hw : wd ∈ ns) (hz : ∀ z ∈ zs, z ∈ ns) (hzl : zs.length ≤ 3) (S : Led H0 M H (TuL C b vsl msl l rw td tl ns zs vi vj mi mj mi.mb mi.hs))
    (q : ∀ (vi' : VS) (m' : MS) H', Led H0 M H' (StL C b vsl msl l ns vi' vj m' mj) → vi'.rel ns m' → Q .non H') :
    WB (doX P w K mg base f cdv A outer s H0 E) ((defBody s__law_do).drop 8) { nx := fun _ H' => Q .non H', rt := Q } (doS st vsl msl l rw vi.p td tl b 6 wd sg u1 u2 u3) H := by
  have R2 : Rel ns (seeTb zs) (dd [wd]) (seeTb zs) [wd] := ⟨Tab.see hz, Tab.see hz, fun _ => rfl, nd_dd _, fun z h => by rw [List.mem_singleton.mp ((mem_dd [wd] z).mp h)]; exact hw, by rw [dd_self (by simp)], rfl⟩
  refine wb_skip 5 (by decide) (wb_skip 5 (by decide) (wb_skip 5 (by decide) (wb_skip 5 (by decide) (wb_skip 5 (by decide) (wb_skip 5 (by decide) (wb_take 5 (wb_cons (toS (ps_asg wE (pg_sub wE wE set_list)) (we_call D.see (hr.mono (by decide)) passL (wa_cons ?_)))) rfl) rfl) rfl) rfl) rfl) rfl) rfl
  walk_at "v"
  refine wa_cons (we_lst (wa_cons ?_))
  walk_at "v"
  refine wa_nil ⟨show 1 ≤ sizeLine from small' (by decide), fun wl hwl => wa_nil ?_⟩
  have S0 := S.alloc hwl (.lst ([wd].map V.str))
  refine ⟨rw, wl, zs, [wd], rfl, .inl (.inl (.inl (S0.get 3 rfl))), .inl (.inl (.inl (S0.get 0 rfl))), fun z h => N.nm z (hz z h), by omega, fun z h => by rw [List.mem_singleton.mp h]; exact N.nm _ hw, show 1 ≤ 1000 by decide, fun x dx d1 d2 H1 T1 => ?_⟩
  have S1 := S0.pure T1
  walk_at "v"
  walk_at "v"
  obtain ⟨j, e1, e2⟩ := pr_set b (.ref vi.p) (.ref vj.p) (.ref x)
  refine ⟨vsl, _, _, j, rfl, rfl, S1.get 7 rfl, e1, ?_⟩
  rw [e2]
  have S2 : Led H0 M _ (TuL C b vsl msl l rw td tl ns zs ⟨x, dx, d1, d2, seeTb zs, dd [wd]⟩ vj mi mj mi.mb mi.hs) := ((S1.pick 7 rfl rfl).put (.lst (pr b (.ref x) (.ref vj.p)))).re [5, 6, 7, 0, 8, 9, 1, 2, 3, 13, 14, 15, 16, 17, 18, 19, 20, 21] (by decide) rfl
  refine wb_cons (ws_set 10 sc__law_do.nd (we_dnewK fun nd hnd => ?_))
  have S3 : Led H0 M _ (TuL C b vsl msl l rw nd tl ns zs ⟨x, dx, d1, d2, seeTb zs, dd [wd]⟩ vj mi mj (seeTb []) mi.hs) := (S2.alloc hnd (.dK [])).re [0, 2, 3, 4, 5, 6, 7, 8, 9, 10, 11, 12, 13, 14, 15, 16, 17, 18] (by decide) rfl
  refine wb_cons (ws_for (passes_of rfl) (pg_name (i := 13) sc__law_do.nd rfl (.inl rfl)) (wi_list ?_))
  walk_at "v"
  refine ⟨rw, _, rfl, SqL.of (S3.get 2 rfl), fun J w => ⟨_, _, _, w, fun i σ H' => (∃ u, σ = doS st vsl msl l rw vi.p nd tl b 6 wd sg u1 u u3) ∧ Led H0 M H' (TuL C b vsl msl l rw nd tl ns zs ⟨x, dx, d1, d2, seeTb zs, dd [wd]⟩ vj mi mj (seeTb (zs.take i)) mi.hs), ?_, ?_, ?_, ?_⟩⟩
  · exact ⟨⟨_, rfl⟩, S3⟩
  · rintro i σ H' _ ⟨_, S'⟩
    exact SqL.of (S'.get 2 rfl)
  · rintro i y σ H2 _ hi ⟨⟨u, rfl⟩, S'⟩ ⟨rfl, hx⟩
    rw [List.getElem?_map] at hx
    obtain ⟨z, hz', rfl⟩ := Option.map_eq_some_iff.mp hx
    refine wb_one (ws_dput (hu_of hr) ?_)
    walk_at "v"
    walk_at "v"
    walk_at "v"
    refine ⟨nd, _, rfl, DPut.k (k := .inr z) (S'.get 0 rfl) (small (by rw [len_tK]; have := len_see (zs.take i); simp at this; omega)), ⟨_, rfl⟩, ?_⟩
    rw [putK_tK, ← see_snoc, show zs.take i ++ [z] = zs.take (i + 1) by rw [List.take_add_one, hz']; rfl]
    exact S'.put _
  · rintro σ H2 ⟨⟨u, rfl⟩, S'⟩
    rw [List.length_map, List.take_length] at S'
    refine wb_one (ws_set 11 sc__law_do.nd (we_lst (wa_cons ?_)))
    walk_at "v"
    refine wa_nil ⟨show 1 ≤ sizeLine from small' (by decide), fun nl hnl => ?_⟩
    have S4 : Led H0 M _ (TuL C b vsl msl l rw nd nl ns zs ⟨x, dx, d1, d2, seeTb zs, dd [wd]⟩ vj mi mj (seeTb zs) [wd]) := (S'.alloc hnl (.lst ([wd].map V.str))).re [1, 0, 3, 4, 5, 6, 7, 8, 9, 10, 11, 12, 13, 14, 15, 16, 17, 18] (by decide) rfl
    exact do_end (td := nd) (tl := nl) S4 R2 fun T H' S' => q _ _ H' S' R2
end
end LG
-- D18
namespace LG
open PySem L2
local macro_rules | `(tactic| walk_at "v") => `(tactic| first | refine we_var 0 rfl ?_ | refine we_var 1 rfl ?_ | refine we_var 2 rfl ?_ | refine we_var 3 rfl ?_ | refine we_var 4 rfl ?_ | refine we_var 5 rfl ?_ | refine we_var 6 rfl ?_ | refine we_var 7 rfl ?_ | refine we_var 8 rfl ?_ | refine we_var 9 rfl ?_ | refine we_var 10 rfl ?_ | refine we_var 11 rfl ?_ | refine we_var 12 rfl ?_ | refine we_var 13 rfl ?_ | refine we_var 14 rfl ?_ | refine we_var 15 rfl ?_)
local macro_rules | `(tactic| walk_at "c") => `(tactic| first | refine we_int ?_ | refine we_str ?_ | refine we_bl ?_ | refine we_non ?_ | walk_at "v")
local macro_rules | `(tactic| walk_at "s") => `(tactic| first | refine wb_one ?_ | refine wb_cons ?_ | refine wb_nil ?_)
section
variable {P : Program} {w : World} {K : PySem.W.Frag} {mg : Str → Option Value} {base : Heap} {f C : Addr} {fd : FuncData}
theorem ok_do (D : DoFns P w K mg base C) (F : FnP K "_law_do" "_law_do" s__law_do [] f fd) : FnOk P w K mg base (L2.CX P w) 8 f fd ["_law_stream_here", "_law_views", "_law_models", "_law_names_here"] (spDo C) := by
  refine FunD.okW F sc__law_do (fun vs H Q E h => ?_) (fun cdv A outer s H vs Q E hr h => ?_)
  · obtain ⟨st, vsl, msl, l, ns, v0, v1, m0, m1, a, b, c, rfl, _⟩ := h
    rfl
  · obtain ⟨st, vsl, msl, l, ns, v0, v1, m0, m1, a, b0, c, rfl, hO, N, R0, R1, q⟩ := h
    generalize hM : ((st, HO.lst [.int a, .int b0, .int c]) :: StL C false vsl msl l ns v0 v1 m0 m1).map (·.1) = M at q
    have S0 : Led H M H ((st, .lst [.int a, .int b0, .int c]) :: StL C false vsl msl l ns v0 v1 m0 m1) := Led.start hO hM.symm
    -- which, kind, word, sight
    refine wb_cons (ws_set 4 sc__law_do.nd (we_call D.draw (hr.mono (by decide)) passL (wa_cons ?_)))
    walk_at "v"
    refine wa_cons (we_int (wa_nil ⟨st, 2, _, _, _, rfl, S0.get 0 rfl, by decide, by decide, fun wh a1 b1 c1 H1 T1 w0 w1 => ?_⟩))
    have S1 : Led H M H1 ((st, .lst [.int a1, .int b1, .int c1]) :: StL C false vsl msl l ns v0 v1 m0 m1) := S0.call (A := [_]) T1 rfl rfl
    refine wb_cons (ws_set 5 sc__law_do.nd (we_call D.draw (hr.mono (by decide)) passL (wa_cons ?_)))
    walk_at "v"
    refine wa_cons (we_int (wa_nil ⟨st, 7, _, _, _, rfl, S1.get 0 rfl, by decide, by decide, fun kd a2 b2 c2 H2 T2 k0 k1 => ?_⟩))
    have S2 : Led H M H2 ((st, .lst [.int a2, .int b2, .int c2]) :: StL C false vsl msl l ns v0 v1 m0 m1) := S1.call (A := [_]) T2 rfl rfl
    refine wb_cons (ws_set 6 sc__law_do.nd (toE (pe_ix ix_list wE wE (by intro _ _; with_unfolding_all rfl)) ?_))
    walk_at "v"
    refine we_call D.draw (hr.mono (by decide)) passL (wa_cons ?_)
    walk_at "v"
    refine wa_cons (we_int (wa_nil ⟨st, 5, _, _, _, rfl, S2.get 0 rfl, by decide, by decide, fun r3 a3 b3 c3 H3 T3 r30 r31 => ?_⟩))
    have S3 : Led H M H3 ((st, .lst [.int a3, .int b3, .int c3]) :: StL C false vsl msl l ns v0 v1 m0 m1) := S2.call (A := [_]) T3 rfl rfl
    obtain ⟨wd, hw, ew⟩ := at_ns N r30 r31
    refine ⟨l, _, _, _, rfl, rfl, SqL.of (S3.get 3 rfl), ew, ?_⟩
    refine wb_cons (ws_set 7 sc__law_do.nd (toE (pe_ix ix_list wE wE (by intro _ _; with_unfolding_all rfl)) ?_))
    walk_at "v"
    refine we_call D.draw (hr.mono (by decide)) passL (wa_cons ?_)
    walk_at "v"
    refine wa_cons (we_int (wa_nil ⟨st, 5, _, _, _, rfl, S3.get 0 rfl, by decide, by decide, fun r4 a4 b4 c4 H4 T4 r40 r41 => ?_⟩))
    have S4 : Led H M H4 ((st, .lst [.int a4, .int b4, .int c4]) :: StL C false vsl msl l ns v0 v1 m0 m1) := S3.call (A := [_]) T4 rfl rfl
    obtain ⟨sg, hg, eg⟩ := at_ns N r40 r41
    refine ⟨l, _, _, _, rfl, rfl, SqL.of (S4.get 3 rfl), eg, ?_⟩
    -- row
    refine wb_cons (ws_setLc (i := 8) (own := [("_law_turn", 14)]) (g := gName 14) sc__law_do.nd rfl rfl rfl (blkOk_by (N := doN) (sc := defScope s__law_do) (by decide +kernel)) (fun _ _ _ _ _ => pg_name (i := 14) sc__law_do.nd rfl (.inl rfl)) (wi_range1 D.B.range_ (we_call D.draw (hr.mono (by decide)) passL (wa_cons ?_))))
    walk_at "v"
    refine wa_cons (we_int (wa_nil ⟨st, 4, _, _, _, rfl, S4.get 0 rfl, by decide, by decide, fun r5 a5 b5 c5 H5 T5 r50 r51 => ?_⟩))
    have S5 : Led H M H5 ((st, .lst [.int a5, .int b5, .int c5]) :: StL C false vsl msl l ns v0 v1 m0 m1) := S4.call (A := [_]) T5 rfl rfl
    refine ⟨r5, rfl, by omega, by omega, fun J w rw hrw => ⟨_, _, _, w, fun i H' => ∃ (zs : List Str) (a b c : Int), zs.length = i ∧ (∀ z ∈ zs, z ∈ ns) ∧ Led H M H' ((st, .lst [.int a, .int b, .int c]) :: (rw, .lst (zs.map V.str)) :: StL C false vsl msl l ns v0 v1 m0 m1), ?_, ?_, ?_, ?_⟩⟩
    · exact ⟨[], _, _, _, rfl, by simp, (S5.alloc hrw (.lst [])).pick 1 rfl rfl⟩
    · intros; trivial
    · rintro i x H6 _ hi ⟨zs, a6, b6, c6, zl, zn, S6⟩ ⟨rfl, rfl⟩
      refine ⟨rfl, fun s0 H0 C0 cl fp => toE (pe_ix ix_list wE wE (by intro _ _; with_unfolding_all rfl)) ?_⟩
      walk_at "v"
      refine we_call D.draw (hr.mono (by decide)) passL (wa_cons ?_)
      walk_at "v"
      refine wa_cons (we_int (wa_nil ⟨st, 5, _, _, _, rfl, S6.get 0 rfl, by decide, by decide, fun r7 a7 b7 c7 H7 T7 r70 r71 => ?_⟩))
      have S7 : Led H M H7 ((st, .lst [.int a7, .int b7, .int c7]) :: (rw, .lst (zs.map V.str)) :: StL C false vsl msl l ns v0 v1 m0 m1) := S6.call (A := [_]) T7 rfl rfl
      obtain ⟨z, hz, ez⟩ := at_ns N r70 r71
      refine ⟨l, _, _, _, rfl, rfl, SqL.of (S7.get 4 rfl), ez, ?_⟩
      refine ⟨_, S7.get 1 rfl, small (by rw [List.length_map]; omega), zs ++ [z], a7, b7, c7, by simp [zl], fun y hy => ?_, ?_⟩
      · rcases List.mem_append.mp hy with hy | hy
        · exact zn y hy
        · rw [List.mem_singleton.mp hy]; exact hz
      · rw [List.map_append]
        exact ((S7.pick 1 rfl rfl).put _).pick 1 rfl rfl
    · rintro H6 ⟨zs, a6, b6, c6, zl, zn, S6⟩
      have hzl : zs.length ≤ 3 := by omega
      -- the chosen one first
      have key : ∀ (b : Bool) (vi vj : VS) (mi mj : MS), wh = wi b → vi.rel ns mi → vj.rel ns mj → Led H M H6 ((rw, .lst (zs.map V.str)) :: StL C b vsl msl l ns vi vj mi mj) → (∀ (vi' : VS) (m' : MS) H', Led H M H' (StL C b vsl msl l ns vi' vj m' mj) → vi'.rel ns m' → Q .non H') →
          WB (doX P ‹World› K mg base f cdv A outer s H E) ((defBody s__law_do).drop 5) { nx := fun _ H' => Q .non H', rt := Q } [some (.ref st), some (.ref vsl), some (.ref msl), some (.ref l), some (.int wh), some (.int kd), some (.str wd), some (.str sg), some (.ref rw), none, none, none, none, none, none] H6 := by
        rintro b vi vj mi mj rfl Ri Rj S q
        refine wb_cons (ws_set 9 sc__law_do.nd (toE (pe_ix ix_list wE wE (by intro _ _; with_unfolding_all rfl)) ?_))
        walk_at "v"
        walk_at "v"
        refine ⟨vsl, _, _, _, rfl, rfl, SqL.of (S.get 1 rfl), pr_at b _ _, ?_⟩
        refine wb_cons (ws_set 10 sc__law_do.nd (we_callTy call_dictD D.B.dict_ (by decide +kernel) (wa_cons (toE (pe_ix ix_tup wE wE (by intro _ _; with_unfolding_all rfl)) (toE (pe_ix ix_list wE wE (by intro _ _; with_unfolding_all rfl)) ?_)))))
        walk_at "v"
        walk_at "v"
        refine ⟨msl, _, _, _, rfl, rfl, SqL.of (S.get 2 rfl), pr_at b _ _, we_int ⟨mi.T, _, 0, _, rfl, rfl, SqT.of (S.get 10 rfl), rfl, wa_nil ⟨mi.td, _, rfl, .inl (S.get 11 rfl), fun td htd => ?_⟩⟩⟩
        have Sa := S.alloc htd (.dK (tK mi.mb))
        refine wb_cons (ws_set 11 sc__law_do.nd (we_callTy call_list_of D.B.list_ (by decide +kernel) (wa_cons (toE (pe_ix ix_tup wE wE (by intro _ _; with_unfolding_all rfl)) (toE (pe_ix ix_list wE wE (by intro _ _; with_unfolding_all rfl)) ?_)))))
        walk_at "v"
        walk_at "v"
        refine ⟨msl, _, _, _, rfl, rfl, SqL.of (Sa.get 3 rfl), pr_at b _ _, we_int ⟨mi.T, _, 1, _, rfl, rfl, SqT.of (Sa.get 11 rfl), rfl, wa_nil ⟨mi.tl, _, rfl, .inl (SqL.of (Sa.get 13 rfl)), fun tl htl => ?_⟩⟩⟩
        have Sb : Led H M _ (TuL C b vsl msl l rw td tl ns zs vi vj mi mj mi.mb mi.hs) := (Sa.alloc htl (.lst (mi.hs.map V.str))).re [1, 0, 2, 3, 4, 5, 6, 7, 8, 9, 10, 11, 12, 13, 14, 15, 16, 17] (by decide) rfl
        have kc : kd = 0 ∨ kd = 1 ∨ kd = 2 ∨ kd = 3 ∨ kd = 4 ∨ kd = 5 ∨ kd = 6 := by omega
        rcases kc with rfl | rfl | rfl | rfl | rfl | rfl | rfl
        · exact do_k0 D hr N Ri hw hg Sb q
        · exact do_k1 D hr N Ri hw Sb q
        · exact do_k2 D hr N Ri zn hzl Sb q
        · exact do_k3 D hr N Ri hw hg Sb q
        · exact do_k4 D hr N Ri zn hzl Sb q
        · exact do_k5 D hr N Rj Sb q
        · exact do_k6 D hr N hw zn hzl Sb q
      have wc : wh = 0 ∨ wh = 1 := by omega
      rcases wc with rfl | rfl
      · exact key false v0 v1 m0 m1 rfl R0 R1 (S6.drop 0 rfl) fun vi' m' H' S' R' => q vi' v1 m' m1 H' S' R' R1
      · refine key true v1 v0 m1 m0 rfl R1 R0 ((S6.drop 0 rfl).re [0, 1, 2, 3, 7, 8, 9, 4, 5, 6, 13, 14, 15, 10, 11, 12] (by decide) rfl) fun vi' m' H' S' R' => q v0 vi' m0 m' H' (S'.re [0, 1, 2, 6, 7, 8, 3, 4, 5, 12, 13, 14, 9, 10, 11] (by decide) rfl) R0 R'
end
end LG
-- D19
namespace LG
set_option maxHeartbeats 4000000
open PySem L2
local macro_rules | `(tactic| walk_at "v") => `(tactic| first | refine we_var 0 rfl ?_ | refine we_var 1 rfl ?_ | refine we_var 2 rfl ?_ | refine we_var 3 rfl ?_ | refine we_var 4 rfl ?_ | refine we_var 5 rfl ?_ | refine we_var 6 rfl ?_ | refine we_var 7 rfl ?_ | refine we_var 8 rfl ?_ | refine we_var 9 rfl ?_ | refine we_var 10 rfl ?_ | refine we_var 11 rfl ?_ | refine we_var 12 rfl ?_ | refine we_var 13 rfl ?_ | refine we_var 14 rfl ?_ | refine we_var 15 rfl ?_)
local macro_rules | `(tactic| walk_at "c") => `(tactic| first | refine we_int ?_ | refine we_str ?_ | refine we_bl ?_ | refine we_non ?_ | walk_at "v")
local macro_rules | `(tactic| walk_at "s") => `(tactic| first | refine wb_one ?_ | refine wb_cons ?_ | refine wb_nil ?_)
theorem star_tup {es rest : List Expr} {k : Nat} {pos : Pos} {env : Env} : starEach (.Tuple es k pos :: rest) env = (false, eval (.Tuple es k pos) env) :: starEach rest env := by rfl
theorem star_list {es rest : List Expr} {pos : Pos} {env : Env} : starEach (.List es pos :: rest) env = (false, eval (.List es pos) env) :: starEach rest env := by rfl
theorem star_dict {ks : List (Option Expr)} {es rest : List Expr} {pos : Pos} {env : Env} : starEach (.Dict ks es pos :: rest) env = (false, eval (.Dict ks es pos) env) :: starEach rest env := by rfl
theorem sw_list {es : List Expr} {pos : Pos} {t : Option Expr} {n : Nat} {env : Env} : swapsWith (.List es pos) t n env = pure false := by rfl
theorem two_le : 2 ≤ sizeLine := small' (by decide)
theorem one_le : 1 ≤ sizeLine := small' (by decide)
theorem two_len {a b : V} : [a, b].length ≤ sizeLine := two_le
theorem one_len {a : V} : [a].length ≤ sizeLine := one_le
theorem sqL_same {K : PySem.W.Frag} {H H' : Hp} {a : Addr} {xs : List V} (h : SqL K H a xs) (s : Same H H') : SqL K H' a xs := by
  rcases h with (h | ⟨o, h⟩) | h
  · exact .inl (.inl (s _ _ h))
  · exact .inl (.inr ⟨o, s _ _ h⟩)
  · exact .inr h
theorem Led.ne2 {H0 H : Hp} {M : List Addr} {L : Lg} (S : Led H0 M H L) (i j : Nat) {x y : Addr × HO} (hi : L[i]? = some x) (hj : L[j]? = some y) (h : i ≠ j) : x.1 ≠ y.1 := fun e => h (nd_at S.own.nd hi hj e)
def spLaw (K : PySem.W.Frag) : Sp := fun vs H Q _ => ∃ (a : Addr) (ns : List Int), vs = [.ref a] ∧ SqL K H a (ns.map V.int) ∧ ns.length ≤ 63 ∧ ∀ H', Q (.bl true) H'
structure LawFns (P : Program) (w : World) (K : PySem.W.Frag) (mg : Str → Option Value) (base : Heap) (C e0 : Addr) : Prop where
  B : Blt mg
  names : GFn P w K mg base "_law_names" 2 [] spNames
  stream : GFn P w K mg base "_law_stream" 1 [] (spStream K)
  make0 : KFn P w K mg base "View" C 4 [.non, .ref e0] (spInit K C)
  make : KFn P w K mg base "View" C 4 [] (spInit K C)
  emp : ∀ H, RowAt K H e0 []
  copy : MFn P w K mg base C "copy" 6 [] (spCopy C)
  eqv : MFn P w K mg base C "__eq__" 1 [] (spEqV C)
  do_ : GFn P w K mg base "_law_do" 8 [] (spDo C)
  right : GFn P w K mg base "_law_right" 4 [] (spRight C)
  flag : GFn P w K mg base "_law_flag" 1 [] spFlag
theorem MS.at {H0 H : Hp} {M : List Addr} {L : Lg} {m : MS} (S : Led H0 M H L) (i : Nat) (h1 : L[i]? = some (m.T, .tup [.ref m.td, .ref m.tl])) (h2 : L[i + 1]? = some (m.td, .dK (tK m.mb))) (h3 : L[i + 2]? = some (m.tl, .lst (m.hs.map V.str))) : ModAt H m.T m.mb m.hs := ⟨m.td, m.tl, S.get i h1, S.get _ h2, S.get _ h3⟩
theorem VS.at {H0 H : Hp} {M : List Addr} {L : Lg} {v : VS} {C : Addr} (S : Led H0 M H L) (i : Nat) (h1 : L[i]? = some (v.p, .ins C v.dx (vF v.d1 v.d2))) (h2 : L[i + 1]? = some (v.d1, .dK (tK v.tb))) (h3 : L[i + 2]? = some (v.d2, .dK (cK v.cn))) : RdV C H v.p v.tb v.cn := ⟨v.dx, v.d1, v.d2, S.get i h1, S.get _ h2, S.get _ h3⟩
theorem okHs {ns hs cn : List Str} {tb mb : Tb} (N : Nms ns) (R : Rel ns tb cn mb hs) : StrsOk hs := fun z h => nm_strOk (N.nm z (R.cin z (R.pm.mem_iff.mp h)))
section
variable {P : Program} {w : World} {K : PySem.W.Frag} {mg : Str → Option Value} {base : Heap} {f C e0 : Addr} {fd : FuncData}
abbrev lawN : List Str := ["_law_script", "_law_names_here", "_law_views", "_law_models", "_law_at", "_law_before", "_law_kept"]

def forB : Stmt → List Stmt
  | .For _ _ b _ _ => b
  | _ => []
abbrev lawB : List Stmt := forB ((defBody s_law).getD 3 (.Pass ⟨0, 0, 0, 0⟩))
abbrev lawX (P : Program) (w : World) (K : PySem.W.Frag) (mg : Str → Option Value) (base : Heap) (f : Addr) (cdv : Value) (A : Around) (outer : List Env) (s : Shared) (H0 : Hp) (E : XK) : Cx := cxOf (L2.CX P w) P w K mg base lawN "law" (defScope s_law) f cdv A outer s H0 E
abbrev lawR (f : Addr) (cdv : Value) (A : Around) (s : Shared) : Prop := Room 8 (A.deeper (PyProof.Rows.envOfC "law" (defScope s_law) s.heap.objs.size f cdv))
theorem law_turn {cdv : Value} {A : Around} {outer : List Env} {s : Shared} {H H1 : Hp} {E : XK} {Dd : Ends} {sc l vsl msl : Addr} {ns : List Str} {xs : List Int} {i : Nat} {v0 v1 : VS} {m0 m1 : MS} {u2 u3 : Option V} (G : LawFns P w K mg base C e0) (hr : lawR f cdv A s) (hsc : SqL K H sc (xs.map V.int)) (N : Nms ns)
    (S : Led H [] H1 (StL C false vsl msl l ns v0 v1 m0 m1)) (R0 : v0.rel ns m0) (R1 : v1.rel ns m1)
    (hnx : ∀ (v0' v1' : VS) (m0' m1' : MS) (u2 u3 : Option V) (H' : Hp), Led H [] H' (StL C false vsl msl l ns v0' v1' m0' m1') → v0'.rel ns m0' → v1'.rel ns m1' → Dd.nx [some (.ref sc), some (.ref l), some (.ref vsl), some (.ref msl), some (.int (1 + i)), u2, u3] H') :
    WB (lawX P w K mg base f cdv A outer s H E) lawB Dd [some (.ref sc), some (.ref l), some (.ref vsl), some (.ref msl), some (.int (1 + i)), u2, u3] H1 := by
  -- before
  refine wb_cons (ws_set 5 sc_law.nd (we_meth0 G.copy (hr.mono (by decide)) passL (toE (pe_ix ix_list wE wE (by intro _ _; with_unfolding_all rfl)) ?_)))
  walk_at "v"
  refine we_int ⟨vsl, _, 0, _, rfl, rfl, SqL.of (S.get 0 rfl), rfl, ?_⟩
  refine ⟨v0.p, v0.dx, _, rfl, S.get 3 rfl, vF_none (by decide +kernel) (by decide +kernel), v0.p, v0.tb, v0.cn, rfl, VS.at S 3 rfl rfl rfl, (Tab.ok N R0.t).1, (R0.cok N).1, fun bx bdx bd1 bd2 H2 T2 => ?_⟩
  have S1 := S.pure T2
  -- kept
  refine wb_cons ?_
  refine ws_set 6 sc_law.nd (we_tup (wa_cons (we_callTy call_dictD G.B.dict_ (by decide +kernel) (wa_cons (toE (pe_ix ix_tup wE wE (by intro _ _; with_unfolding_all rfl)) (toE (pe_ix ix_list wE wE (by intro _ _; with_unfolding_all rfl)) ?_))))))
  walk_at "v"
  refine we_int ⟨msl, _, 0, _, rfl, rfl, SqL.of (S1.get 4 rfl), rfl, we_int ⟨m0.T, _, 0, _, rfl, rfl, SqT.of (S1.get 12 rfl), rfl, wa_nil ?_⟩⟩
  refine ⟨m0.td, _, rfl, .inl (S1.get 13 rfl), fun kd hkd => ?_⟩
  have Sa := S1.alloc hkd (.dK (tK m0.mb))
  refine wa_cons (we_callTy call_list_of G.B.list_ (by decide +kernel) (wa_cons (toE (pe_ix ix_tup wE wE (by intro _ _; with_unfolding_all rfl)) (toE (pe_ix ix_list wE wE (by intro _ _; with_unfolding_all rfl)) ?_))))
  walk_at "v"
  refine we_int ⟨msl, _, 0, _, rfl, rfl, SqL.of (Sa.get 5 rfl), rfl, we_int ⟨m0.T, _, 1, _, rfl, rfl, SqT.of (Sa.get 13 rfl), rfl, wa_nil ?_⟩⟩
  refine ⟨m0.tl, _, rfl, .inl (SqL.of (Sa.get 15 rfl)), fun kl hkl => wa_nil ?_⟩
  refine ⟨two_len, fun kT hkT => ?_⟩
  have Sb := (Sa.alloc hkl (.lst (m0.hs.map V.str))).alloc hkT (.tup [.ref kd, .ref kl])
  -- the turn
  refine wb_cons (ws_expr (we_call G.do_ hr passL (wa_cons (we_call G.stream (hr.mono (by decide)) passL (wa_cons ?_)))))
  walk_at "v"
  refine wa_cons ?_
  walk_at "v"
  refine wa_nil ⟨sc, xs, 1 + i, by simp, sqL_same hsc Sb.same, fun st a b c H3 T3 => wa_cons ?_⟩
  have S3 := Sb.pure T3
  walk_at "v"
  refine wa_cons ?_
  walk_at "v"
  refine wa_cons ?_
  walk_at "v"
  have Sd : Led H [] H3 ((st, .lst [.int a, .int b, .int c]) :: StL C false vsl msl l ns v0 v1 m0 m1) := S3.re [0, 7, 8, 9, 10, 11, 12, 13, 14, 15, 16, 17, 18, 19, 20, 21] (by decide) rfl
  have S4 : Led H [] H3 (((st, .lst [.int a, .int b, .int c]) :: StL C false vsl msl l ns v0 v1 m0 m1) ++ (VS.L ⟨bx, bdx, bd1, bd2, v0.tb, v0.cn⟩ C ++ MS.L ⟨kT, kd, kl, m0.mb, m0.hs⟩)) := S3.re [0, 7, 8, 9, 10, 11, 12, 13, 14, 15, 16, 17, 18, 19, 20, 21, 4, 5, 6, 1, 3, 2] (by decide) rfl
  refine wa_nil ⟨st, vsl, msl, l, ns, v0, v1, m0, m1, a, b, c, rfl, Sd.own, N, R0, R1, fun w0 w1 n0 n1 H5 T5 Q0 Q1 => ?_⟩
  have S5 : Led H [] H5 (StL C false vsl msl l ns w0 w1 n0 n1 ++ (VS.L ⟨bx, bdx, bd1, bd2, v0.tb, v0.cn⟩ C ++ MS.L ⟨kT, kd, kl, m0.mb, m0.hs⟩)) := S4.call T5 rfl rfl
  clear S4 Sd S3 Sb Sa S1 T5 T3 T2
  -- both right
  refine wb_cons (ws_if (wt_or (wt_not (wt_val (we_call G.right (hr.mono (by decide)) passL (wa_cons (toE (pe_ix ix_list wE wE (by intro _ _; with_unfolding_all rfl)) ?_)))))))
  walk_at "v"
  refine we_int ⟨vsl, _, 0, _, rfl, rfl, SqL.of (S5.get 0 rfl), rfl, wa_cons (toE (pe_ix ix_list wE wE (by intro _ _; with_unfolding_all rfl)) ?_)⟩
  walk_at "v"
  refine we_int ⟨msl, _, 0, _, rfl, rfl, SqL.of (S5.get 1 rfl), rfl, wa_cons ?_⟩
  walk_at "v"
  refine wa_nil ⟨w0.p, n0.T, l, ns, w0.tb, n0.mb, w0.cn, n0.hs, rfl, VS.at S5 3 rfl rfl rfl, MS.at S5 9 rfl rfl rfl, S5.get 2 rfl, N, Q0, fun H6 T6 => ⟨_, rfl, iteF ?_⟩⟩
  have S6 := S5.pure T6
  refine ww_or1 (wt_not (wt_val (we_call G.right (hr.mono (by decide)) passL (wa_cons (toE (pe_ix ix_list wE wE (by intro _ _; with_unfolding_all rfl)) ?_)))))
  walk_at "v"
  refine we_int ⟨vsl, _, 1, _, rfl, rfl, SqL.of (S6.get 0 rfl), rfl, wa_cons (toE (pe_ix ix_list wE wE (by intro _ _; with_unfolding_all rfl)) ?_)⟩
  walk_at "v"
  refine we_int ⟨msl, _, 1, _, rfl, rfl, SqL.of (S6.get 1 rfl), rfl, wa_cons ?_⟩
  walk_at "v"
  refine wa_nil ⟨w1.p, n1.T, l, ns, w1.tb, n1.mb, w1.cn, n1.hs, rfl, VS.at S6 6 rfl rfl rfl, MS.at S6 12 rfl rfl rfl, S6.get 2 rfl, N, Q1, fun H7 T7 => ⟨_, rfl, iteF (wb_nil ?_)⟩⟩
  have S7 := S6.pure T7
  -- before, kept
  refine wb_cons (ws_if (wt_or (wt_not (wt_val (we_call G.right (hr.mono (by decide)) passL (wa_cons ?_))))))
  walk_at "v"
  refine wa_cons ?_
  walk_at "v"
  refine wa_cons ?_
  walk_at "v"
  refine wa_nil ⟨bx, kT, l, ns, v0.tb, m0.mb, v0.cn, m0.hs, rfl, VS.at (v := ⟨bx, bdx, bd1, bd2, v0.tb, v0.cn⟩) S7 15 rfl rfl rfl, MS.at (m := ⟨kT, kd, kl, m0.mb, m0.hs⟩) S7 18 rfl rfl rfl, S7.get 2 rfl, N, R0, fun H8 T8 => ⟨_, rfl, iteF ?_⟩⟩
  have S8 := S7.pure T8
  refine ww_or1 (wt_not (wt_val (we_call G.flag (hr.mono (by decide)) passL (wa_cons (we_cmp (op_eqO G.eqv (hr.mono (by decide)) passL) ?_)))))
  walk_at "v"
  refine toE (pe_ix ix_list wE wE (by intro _ _; with_unfolding_all rfl)) ?_
  walk_at "v"
  refine we_int ⟨vsl, _, 0, _, rfl, rfl, SqL.of (S8.get 0 rfl), rfl, ?_⟩
  refine ⟨bx, bdx, _, w0.p, w0.dx, _, rfl, rfl, S8.get 15 rfl, S8.get 3 rfl, bx, w0.p, v0.tb, w0.tb, v0.cn, w0.cn, rfl, VS.at (v := ⟨bx, bdx, bd1, bd2, v0.tb, v0.cn⟩) S8 15 rfl rfl rfl, VS.at S8 3 rfl rfl rfl, R0.t.nd, wa_cons (we_cmp (op_eqTL (e := eT m0.mb n0.mb) hr) ?_)⟩
  walk_at "v"
  refine toE (pe_ix ix_list wE wE (by intro _ _; with_unfolding_all rfl)) ?_
  walk_at "v"
  refine we_int ⟨msl, _, 0, _, rfl, rfl, SqL.of (S8.get 1 rfl), rfl, ?_⟩
  refine ⟨kT, n0.T, kd, kl, n0.td, n0.tl, _, _, m0.hs, n0.hs, rfl, rfl, S8.get 18 rfl, S8.get 9 rfl, S8.get 19 rfl, S8.get 10 rfl, S8.ne2 19 10 rfl rfl (by decide), S8.get 20 rfl, S8.get 11 rfl, cmps_tK R0.m.nd, okHs N R0, okHs N Q0, wa_nil ?_⟩
  rw [eqKV_tK, rel_eq R0 Q0]
  refine ⟨_, _, rfl, _, rfl, ?_⟩
  rw [decide_eq_true rfl]
  refine iteF (wb_nil ?_)
  -- the two views
  refine wb_one (ws_if (wt_not (wt_val (we_call G.flag (hr.mono (by decide)) passL (wa_cons (we_cmp (op_eqO G.eqv (hr.mono (by decide)) passL) (toE (pe_ix ix_list wE wE (by intro _ _; with_unfolding_all rfl)) ?_)))))))
  walk_at "v"
  refine we_int ⟨vsl, _, 0, _, rfl, rfl, SqL.of (S8.get 0 rfl), rfl, toE (pe_ix ix_list wE wE (by intro _ _; with_unfolding_all rfl)) ?_⟩
  walk_at "v"
  refine we_int ⟨vsl, _, 1, _, rfl, rfl, SqL.of (S8.get 0 rfl), rfl, ?_⟩
  refine ⟨w0.p, w0.dx, _, w1.p, w1.dx, _, rfl, rfl, S8.get 3 rfl, S8.get 6 rfl, w0.p, w1.p, w0.tb, w1.tb, w0.cn, w1.cn, rfl, VS.at S8 3 rfl rfl rfl, VS.at S8 6 rfl rfl rfl, Q0.t.nd, wa_cons (we_cmp (op_eqTL (e := eT n0.mb n1.mb) hr) (toE (pe_ix ix_list wE wE (by intro _ _; with_unfolding_all rfl)) ?_))⟩
  walk_at "v"
  refine we_int ⟨msl, _, 0, _, rfl, rfl, SqL.of (S8.get 1 rfl), rfl, toE (pe_ix ix_list wE wE (by intro _ _; with_unfolding_all rfl)) ?_⟩
  walk_at "v"
  refine we_int ⟨msl, _, 1, _, rfl, rfl, SqL.of (S8.get 1 rfl), rfl, ?_⟩
  refine ⟨n0.T, n1.T, n0.td, n0.tl, n1.td, n1.tl, _, _, n0.hs, n1.hs, rfl, rfl, S8.get 9 rfl, S8.get 12 rfl, S8.get 10 rfl, S8.get 13 rfl, S8.ne2 10 13 rfl rfl (by decide), S8.get 11 rfl, S8.get 14 rfl, cmps_tK Q0.m.nd, okHs N Q0, okHs N Q1, wa_nil ?_⟩
  rw [eqKV_tK, rel_eq Q0 Q1]
  refine ⟨_, _, rfl, _, rfl, ?_⟩
  rw [decide_eq_true rfl]
  exact iteF (wb_nil (hnx w0 w1 n0 n1 _ _ H8 (S8.re [0, 1, 2, 3, 4, 5, 6, 7, 8, 9, 10, 11, 12, 13, 14] (by decide) rfl) Q0 Q1))
/-- the end: both right -/
theorem law_end {cdv : Value} {A : Around} {outer : List Env} {s : Shared} {H H1 : Hp} {E : XK} {Q : VK} {sc l vsl msl : Addr} {ns : List Str} {v0 v1 : VS} {m0 m1 : MS} {u1 u2 u3 : Option V} (G : LawFns P w K mg base C e0) (hr : lawR f cdv A s) (N : Nms ns)
    (S : Led H [] H1 (StL C false vsl msl l ns v0 v1 m0 m1)) (R0 : v0.rel ns m0) (R1 : v1.rel ns m1) (q : ∀ H', Q (.bl true) H') :
    WB (lawX P w K mg base f cdv A outer s H E) ((defBody s_law).drop 4) { nx := fun _ H' => Q .non H', rt := Q } [some (.ref sc), some (.ref l), some (.ref vsl), some (.ref msl), u1, u2, u3] H1 := by
  refine wb_one (ws_ret (we_and (we_call G.right (hr.mono (by decide)) passL (wa_cons (toE (pe_ix ix_list wE wE (by intro _ _; with_unfolding_all rfl)) ?_)))))
  walk_at "v"
  refine we_int ⟨vsl, _, 0, _, rfl, rfl, SqL.of (S.get 0 rfl), rfl, wa_cons (toE (pe_ix ix_list wE wE (by intro _ _; with_unfolding_all rfl)) ?_)⟩
  walk_at "v"
  refine we_int ⟨msl, _, 0, _, rfl, rfl, SqL.of (S.get 1 rfl), rfl, wa_cons ?_⟩
  walk_at "v"
  refine wa_nil ⟨v0.p, m0.T, l, ns, v0.tb, m0.mb, v0.cn, m0.hs, rfl, VS.at S 3 rfl rfl rfl, MS.at S 9 rfl rfl rfl, S.get 2 rfl, N, R0, fun H6 T6 => ⟨_, rfl, iteT ?_⟩⟩
  have S6 := S.pure T6
  refine we_one (we_call G.right (hr.mono (by decide)) passL (wa_cons (toE (pe_ix ix_list wE wE (by intro _ _; with_unfolding_all rfl)) ?_)))
  walk_at "v"
  refine we_int ⟨vsl, _, 1, _, rfl, rfl, SqL.of (S6.get 0 rfl), rfl, wa_cons (toE (pe_ix ix_list wE wE (by intro _ _; with_unfolding_all rfl)) ?_)⟩
  walk_at "v"
  refine we_int ⟨msl, _, 1, _, rfl, rfl, SqL.of (S6.get 1 rfl), rfl, wa_cons ?_⟩
  walk_at "v"
  exact wa_nil ⟨v1.p, m1.T, l, ns, v1.tb, m1.mb, v1.cn, m1.hs, rfl, VS.at S6 6 rfl rfl rfl, MS.at S6 12 rfl rfl rfl, S6.get 2 rfl, N, R1, fun H7 _ => q H7⟩
end
end LG
-- D20
namespace LG
set_option maxHeartbeats 8000000
open PySem L2
local macro_rules | `(tactic| walk_at "v") => `(tactic| first | refine we_var 0 rfl ?_ | refine we_var 1 rfl ?_ | refine we_var 2 rfl ?_ | refine we_var 3 rfl ?_ | refine we_var 4 rfl ?_ | refine we_var 5 rfl ?_ | refine we_var 6 rfl ?_ | refine we_var 7 rfl ?_ | refine we_var 8 rfl ?_ | refine we_var 9 rfl ?_ | refine we_var 10 rfl ?_ | refine we_var 11 rfl ?_ | refine we_var 12 rfl ?_ | refine we_var 13 rfl ?_ | refine we_var 14 rfl ?_ | refine we_var 15 rfl ?_)
local macro_rules | `(tactic| walk_at "c") => `(tactic| first | refine we_int ?_ | refine we_str ?_ | refine we_bl ?_ | refine we_non ?_ | walk_at "v")
local macro_rules | `(tactic| walk_at "s") => `(tactic| first | refine wb_one ?_ | refine wb_cons ?_ | refine wb_nil ?_)
section
variable {P : Program} {w : World} {K : PySem.W.Frag} {mg : Str → Option Value} {base : Heap} {f C e0 : Addr} {fd : FuncData}
theorem ok_law (G : LawFns P w K mg base C e0) (F : FnP K "law" "law" s_law [] f fd) : FnOk P w K mg base (L2.CX P w) 9 f fd ["_law_script"] (spLaw K) := by
  refine FunD.okW F sc_law (fun vs H Q E h => ?_) (fun cdv A outer s H vs Q E hr h => ?_)
  · obtain ⟨a, xs, rfl, _⟩ := h
    rfl
  · obtain ⟨sc, xs, rfl, hsc, hxs, q⟩ := h
    -- the names
    refine wb_cons (ws_set 1 sc_law.nd (we_call G.names (hr.mono (by decide)) passL (wa_cons (we_call G.stream (hr.mono (by decide)) passL (wa_cons ?_)))))
    walk_at "v"
    refine wa_cons (we_int (wa_nil ⟨sc, xs, 0, rfl, hsc, fun st a b c H1 S1 => wa_cons (we_int (wa_nil ⟨st, rfl, ⟨a, b, c, S1.get 0 rfl⟩, fun l ns H2 T2 nl nn => ?_⟩))⟩))
    have S2 : Led H [] H2 [(l, .lst (ns.map V.str))] := S1.call (A := [_]) T2 rfl rfl
    have N : Nms ns := ⟨nl, nn⟩
    obtain ⟨n0, hn0, en0⟩ := at_ns N (r := 0) (by decide) (by decide)
    obtain ⟨n1, hn1, en1⟩ := at_ns N (r := 1) (by decide) (by decide)
    obtain ⟨n2, hn2, en2⟩ := at_ns N (r := 2) (by decide) (by decide)
    -- the views
    refine wb_cons (ws_set 2 sc_law.nd (we_lst (wa_cons (we_make0 G.make0 (hr.mono (by decide)) passL fun x dx hx hdx ne => ?_))))
    have S3 := (S2.alloc hdx (.own x)).alloc (p := x) (by rw [upd_ne (Ne.symm ne)]; exact hx) (.ins C dx [])
    refine ⟨x, dx, .non, e0, [], [], rfl, upd_same, .inl ⟨rfl, rfl⟩, ⟨by simp [Keys], by simp, by simp⟩, G.emp _, by simp, by simp, fun d1 d2 H4 T4 => ⟨rfl, ?_⟩⟩
    have S4 : Led H [] H4 (vL C x dx d1 d2 [] (dd []) ++ [(l, .lst (ns.map V.str))]) := ((S3.call (A := [_]) T4 rfl rfl).drop 3 rfl)
    refine wa_cons (we_make G.make (hr.mono (by decide)) passL (wa_cons (we_dict1 fun dp hdp => toE (pe_ix ix_list wE wE (by intro _ _; with_unfolding_all rfl)) ?_)))
    walk_at "v"
    have S5 := S4.alloc hdp (.dK [])
    refine we_int ⟨l, _, 0, _, rfl, rfl, SqL.of (S5.get 4 rfl), en0, toE (pe_ix ix_list wE wE (by intro _ _; with_unfolding_all rfl)) ?_⟩
    walk_at "v"
    refine we_int ⟨l, _, 1, _, rfl, rfl, SqL.of (S5.get 4 rfl), en1, upd_same, .inr n0, rfl, ?_⟩
    have e0' : putK [] (.inr n0 : Key) (.str n1) = tK [(n0, n1)] := rfl
    rw [e0']
    have S6 := S5.put (.dK (tK [(n0, n1)]))
    refine wa_cons (we_lst (wa_cons (toE (pe_ix ix_list wE wE (by intro _ _; with_unfolding_all rfl)) ?_)))
    walk_at "v"
    refine we_int ⟨l, _, 2, _, rfl, rfl, SqL.of (S6.get 4 rfl), en2, wa_nil ?_⟩
    refine ⟨one_len, fun hp hhp => wa_nil ?_⟩
    intro x' dx' hx' hdx' ne'
    have S7 := S6.alloc hhp (.lst ([n2].map V.str))
    have S8 := (S7.alloc hdx' (.own x')).alloc (p := x') (by rw [upd_ne (Ne.symm ne')]; exact hx') (.ins C dx' [])
    refine ⟨x', dx', .ref dp, hp, [(n0, n1)], [n2], rfl, upd_same, .inr ⟨dp, rfl, S8.get 3 rfl⟩, (Tab.ok N (Tab.one hn0 hn1)).1, .inl (.inl (.inl (S8.get 2 rfl))), fun z h => by rw [List.mem_singleton.mp h]; exact N.nm _ hn2, show 1 ≤ 1000 by decide, fun d1' d2' H9 T9 => ⟨rfl, ?_⟩⟩
    have S9 : Led H [] H9 (vL C x' dx' d1' d2' [(n0, n1)] (dd [n2]) ++ (vL C x dx d1 d2 [] (dd []) ++ [(l, .lst (ns.map V.str))])) := (S8.call (A := [_]) T9 rfl rfl).re [0, 1, 2, 6, 7, 8, 9] (by decide) rfl
    refine wa_nil ?_
    refine ⟨two_len, fun vsl hvsl => ?_⟩
    have Sa := S9.alloc hvsl (.lst (pr false (.ref x) (.ref x')))
    -- the models
    refine wb_cons ?_
    refine ws_set 3 sc_law.nd ?_ (hs := sw_list)
    refine we_lst ?_
    refine wa_cons ?_ star_tup
    refine we_tup ?_
    refine wa_cons ?_ star_dict
    refine we_dnewK fun td htd => ?_
    refine wa_cons (we_lst (wa_nil ?_)) star_list
    refine ⟨Nat.zero_le _, fun tl htl => wa_nil ?_⟩
    refine ⟨two_len, fun T hT => ?_⟩
    have Sb := ((Sa.alloc htd (.dK (tK []))).alloc htl (.lst (([] : List Str).map V.str))).alloc hT (.tup [.ref td, .ref tl])
    refine wa_cons (we_tup (wa_cons (we_dict1 fun td' htd' => toE (pe_ix ix_list wE wE (by intro _ _; with_unfolding_all rfl)) ?_) star_dict)) star_tup
    walk_at "v"
    have Sc := Sb.alloc htd' (.dK [])
    refine we_int ⟨l, _, 0, _, rfl, rfl, SqL.of (Sc.get 11 rfl), en0, toE (pe_ix ix_list wE wE (by intro _ _; with_unfolding_all rfl)) ?_⟩
    walk_at "v"
    refine we_int ⟨l, _, 1, _, rfl, rfl, SqL.of (Sc.get 11 rfl), en1, upd_same, .inr n0, rfl, ?_⟩
    rw [e0']
    have Sd := Sc.put (.dK (tK [(n0, n1)]))
    refine wa_cons (we_lst (wa_cons (toE (pe_ix ix_list wE wE (by intro _ _; with_unfolding_all rfl)) ?_)))
    walk_at "v"
    refine we_int ⟨l, _, 2, _, rfl, rfl, SqL.of (Sd.get 11 rfl), en2, wa_nil ?_⟩
    refine ⟨one_len, fun tl' htl' => wa_nil ?_⟩
    refine ⟨two_len, fun T' hT' => wa_nil ?_⟩
    refine ⟨two_len, fun msl hmsl => ?_⟩
    have Se := ((Sd.alloc htl' (.lst ([n2].map V.str))).alloc hT' (.tup [.ref td', .ref tl'])).alloc hmsl (.lst (pr false (.ref T) (.ref T')))
    have Sf : Led H [] _ (StL C false vsl msl l ns ⟨x, dx, d1, d2, [], dd []⟩ ⟨x', dx', d1', d2', [(n0, n1)], dd [n2]⟩ ⟨T, td, tl, [], []⟩ ⟨T', td', tl', [(n0, n1)], [n2]⟩) := Se.re [7, 0, 14, 11, 12, 13, 8, 9, 10, 4, 6, 5, 1, 3, 2] (by decide) rfl
    have R0 : Rel ns [] (dd []) [] [] := ⟨Tab.nil, Tab.nil, fun _ => rfl, nd_dd _, by simp [dd], List.Perm.refl _, rfl⟩
    have R1 : Rel ns [(n0, n1)] (dd [n2]) [(n0, n1)] [n2] := ⟨Tab.one hn0 hn1, Tab.one hn0 hn1, fun _ => rfl, nd_dd _, fun z h => by rw [List.mem_singleton.mp ((mem_dd [n2] z).mp h)]; exact hn2, by rw [dd_self (by simp)], rfl⟩
    -- the turns
    refine wb_cons (ws_for (passes_of rfl) (pg_name (i := 4) sc_law.nd rfl (.inl rfl)) (wi_range2 G.B.range_ (we_int (we_callB (call_min2 rfl) G.B.min_ (by decide +kernel) (wa_cons (we_callB call_len G.B.len_ (by decide +kernel) (wa_cons ?_)))))))
    walk_at "v"
    have hsf := sqL_same hsc Sf.same
    refine wa_nil ⟨_, (xs.map V.int).length, rfl, .inl ⟨_, hsf, rfl⟩, wa_cons (we_int (wa_nil ⟨_, _, rfl, 1, _, rfl, rfl, ⟨by decide, by decide, ?_, ?_⟩, fun J w => ?_⟩))⟩
    · split <;> omega
    · split <;> omega
    generalize hj : (if (61 : Int) < ((xs.map V.int).length : Int) then (61 : Int) else ((xs.map V.int).length : Int)) = jj at w
    refine ⟨_, _, _, w, fun i σ H' => ∃ (v0 v1 : VS) (m0 m1 : MS) (u1 u2 u3 : Option V), σ = [some (.ref sc), some (.ref l), some (.ref vsl), some (.ref msl), u1, u2, u3] ∧ Led H [] H' (StL C false vsl msl l ns v0 v1 m0 m1) ∧ v0.rel ns m0 ∧ v1.rel ns m1, ?_, ?_, ?_, ?_⟩
    · exact ⟨⟨x, dx, d1, d2, [], dd []⟩, ⟨x', dx', d1', d2', [(n0, n1)], dd [n2]⟩, ⟨T, td, tl, [], []⟩, ⟨T', td', tl', [(n0, n1)], [n2]⟩, _, _, _, rfl, Sf, R0, R1⟩
    · intros; trivial
    · rintro i y σ H1 _ hi ⟨v0, v1, m0, m1, u1, u2, u3, rfl, S, R0, R1⟩ ⟨rfl, rfl⟩
      exact law_turn G hr hsc N S R0 R1 fun w0 w1 n0 n1 u2' u3' H' S' Q0 Q1 => ⟨w0, w1, n0, n1, _, u2', u3', rfl, S', Q0, Q1⟩
    · rintro σ H1 ⟨v0, v1, m0, m1, u1, u2, u3, rfl, S, R0, R1⟩
      exact law_end G hr N S R0 R1 q
end
end LG
-- HD
namespace LG
open PySem PySem.Spec PyProof.Rows L2
/-! ### the head: every def where it stands, read off the heap -/
structure LD where
  at_ : PySem.W.Frag → Addr
  nm : Str
  qu : Str
  st : Stmt
  dv : List He.Dv := []
/-- what is told of a function: its text first, then where it stands -/
abbrev FnT : Type := FuncBody × Arguments × Scope × List (Str × Addr) × (Str × Str) × (Addr × Addr)
def fnT (fd : FuncData) : FnT := (fd.body, fd.params, fd.scope, fd.closure, (fd.name, fd.qualname), (fd.globals, fd.builtins))
def onFn {α : Type} (no : α) (f : FuncData → α) (o : Obj) : α := match o.data with
  | .func fd => f fd
  | _ => no
def fnA (K : PySem.W.Frag) (a : Addr) : Option FnT := (K.lookup a).bind (onFn none fun fd => some (fnT fd))
def LD.val (d : LD) : Option FnT := some (.stmts (defBody d.st), defArgs d.st, defScope d.st, [], (d.nm, d.qu), (mainGlobals, builtinsNs))
def LD.ok (K : PySem.W.Frag) (d : LD) : Bool := PySem.W.keepIn K (.ref (d.at_ K)) && (K.lookup (d.at_ K)).any (onFn false fun fd => PySem.W.codeIn K fd.code d.qu && (He.dflB K fd.defaults (d.dv.map (He.Dv.v K)) && He.kwdB K fd.kwdefaults []))
theorem LD.fun_ {K : PySem.W.Frag} {d : LD} (e : fnA K (d.at_ K) = d.val) (c : d.ok K = true) : ∃ fd, FnP K d.nm d.qu d.st (d.dv.map (He.Dv.v K)) (d.at_ K) fd := by
  unfold LD.ok at c
  rw [Bool.and_eq_true] at c
  obtain ⟨kp, c⟩ := c
  unfold fnA at e
  cases lk : K.lookup (d.at_ K) with
  | none => rw [lk] at e; cases e
  | some o =>
    obtain ⟨oc, od, dt, sl⟩ := o
    rw [lk, Option.bind_some] at e
    rw [lk, Option.any_some] at c
    cases dt with
    | func fd =>
      have c' : (PySem.W.codeIn K fd.code d.qu && (He.dflB K fd.defaults (d.dv.map (He.Dv.v K)) && He.kwdB K fd.kwdefaults [])) = true := c
      rw [Bool.and_eq_true, Bool.and_eq_true] at c'
      have e' : fnT fd = (.stmts (defBody d.st), defArgs d.st, defScope d.st, [], (d.nm, d.qu), (mainGlobals, builtinsNs)) := Option.some.inj e
      cases fd
      simp only [fnT, Prod.mk.injEq] at e'
      obtain ⟨rfl, rfl, rfl, rfl, ⟨rfl, rfl⟩, rfl, rfl⟩ := e'
      exact ⟨_, ⟨⟨oc, od, _, _, _, _, _, _, _, sl, rfl, lk, c'.1, He.dflB_ok c'.2.1, He.kwdB_ok c'.2.2⟩, kp⟩⟩
    | _ => cases e
abbrev ObL : Type := Bool × List (Option FnT)
def obK (ex : PySem.W.Frag → Bool) (ds : List LD) (K : PySem.W.Frag) : ObL := (ex K && ds.all fun d => d.ok K, ds.map fun d => fnA K (d.at_ K))
def obG (n : Nat) (ex : PySem.W.Frag → Bool) (ds : List LD) (g : Addr → Option Obj) : ObL := obK ex ds (He.frG g (He.asD g n))
def SaysL (ex : PySem.W.Frag → Bool) (ds : List LD) (K : PySem.W.Frag) : Prop := obK ex ds K = (true, ds.map LD.val)
def hookL (n : Nat) (ex : PySem.W.Frag → Bool) (ds : List LD) : PySem.W.Hook where
  α := ObL
  obs := fun s => obG n ex ds s.heap.get?
  val := fun _ => (true, ds.map LD.val)
  says := fun _ h => ∃ K : PySem.W.Frag, K.In h ∧ SaysL ex ds K
  of := fun _ _ e => ⟨_, He.frG_in, e⟩
  keeps := fun _ _ _ ⟨K, hK, c⟩ k => ⟨K, PySem.W.Frag.In.keeps hK k, c⟩
theorem obG_eq {n : Nat} {ex : PySem.W.Frag → Bool} {ds : List LD} {g : Addr → Option Obj} {s : Shared} (h : ∀ a, g a = s.heap.get? a) : obG n ex ds g = (hookL n ex ds).obs s := by rw [show g = s.heap.get? from funext h]; rfl
section
variable {ex : PySem.W.Frag → Bool} {ds : List LD} {K : PySem.W.Frag}
theorem SaysL.ex_ (c : SaysL ex ds K) : ex K = true := (Bool.and_eq_true_iff.mp (congrArg Prod.fst c)).1
theorem SaysL.def_ (c : SaysL ex ds K) (i : Nat) {d : LD} (h : ds[i]? = some d := by rfl) : ∃ fd, FnP K d.nm d.qu d.st (d.dv.map (He.Dv.v K)) (d.at_ K) fd := by
  have e : (ds.map fun d => fnA K (d.at_ K))[i]? = (ds.map LD.val)[i]? := by rw [show (ds.map fun d => fnA K (d.at_ K)) = ds.map LD.val from congrArg Prod.snd c]
  rw [List.getElem?_map, List.getElem?_map, h] at e
  exact LD.fun_ (Option.some.inj e) (List.all_eq_true.mp (Bool.and_eq_true_iff.mp (congrArg Prod.fst c)).2 d (List.mem_of_getElem? h))
end
/-! ### this program -/
def cV (K : PySem.W.Frag) : Addr := He.ga K "View"
def pA (m : Str) (K : PySem.W.Frag) : Addr := He.ma K (cV K) m
/-- a property's getter, its setter -/
def getA (m : Str) (K : PySem.W.Frag) : Addr := match PySem.W.recIn K (pA m K) "property" with
  | some (.ref g :: _) => g
  | _ => 0
def setA (m : Str) (K : PySem.W.Frag) : Addr := match PySem.W.recIn K (pA m K) "property" with
  | some (_ :: .ref g :: _) => g
  | _ => 0
def hasGet (m : Str) (K : PySem.W.Frag) : Bool := match PySem.W.recIn K (pA m K) "property" with
  | some (.ref _ :: _) => true
  | _ => false
def hasSet (m : Str) (K : PySem.W.Frag) : Bool := match PySem.W.recIn K (pA m K) "property" with
  | some (_ :: .ref _ :: _) => true
  | _ => false
theorem get_rec {m : Str} {K : PySem.W.Frag} (h : hasGet m K = true) : ∃ rest, PySem.W.recIn K (pA m K) "property" = some (.ref (getA m K) :: rest) := by
  unfold hasGet at h
  split at h
  · rename_i g r e
    exact ⟨r, by unfold getA; rw [e]⟩
  · cases h
theorem set_rec {m : Str} {K : PySem.W.Frag} (h : hasSet m K = true) : ∃ a rest, PySem.W.recIn K (pA m K) "property" = some (a :: .ref (setA m K) :: rest) := by
  unfold hasSet at h
  split at h
  · rename_i a g r e
    exact ⟨a, r, by unfold setA; rw [e]⟩
  · cases h
def propB (m : Str) (K : PySem.W.Frag) : Bool := He.eqO (PySem.W.findIn K (.ref (cV K)) m) (some (some (.ref (pA m K)))) && (He.eqO (PySem.W.specialIn K (.ref (pA m K)) "__get__") (some (some (.builtin "property.__get__"))) && (decide (PySem.W.takesIn K (.ref (pA m K)) = some true) && hasGet m K))
theorem prop_of {m : Str} {K : PySem.W.Frag} (h : propB m K = true) : PropOf K (cV K) m (pA m K) (getA m K) := by
  unfold propB at h
  simp only [Bool.and_eq_true] at h
  exact ⟨He.eqO_ok h.1, He.eqO_ok h.2.1, of_decide_eq_true h.2.2.1, get_rec h.2.2.2⟩
/-- the empty tuple in a def's defaults -/
def emp0 (a : Addr) (K : PySem.W.Frag) : Bool := match K.lookup a with
  | some ⟨.type c, _, .seq its _, _⟩ => decide (c = "tuple") && decide (its.size = 0)
  | _ => false
theorem emp_row {a : Addr} {K : PySem.W.Frag} (h : emp0 a K = true) (H : Hp) : RowAt K H a [] := by
  unfold emp0 at h
  split at h
  · rename_i c od its n sl e
    simp only [Bool.and_eq_true, decide_eq_true_eq] at h
    obtain ⟨rfl, h2⟩ := h
    refine .inr (.inr ⟨_, its, n, e, rfl, rfl, by rw [h2]; exact Nat.zero_le _, ?_⟩)
    rw [show its.toList = [] by rw [← List.length_eq_zero_iff]; simpa using h2]
    exact .nil
  · cases h
def aE (K : PySem.W.Frag) : Addr := He.dflAt ("View", some "__init__") 1 K
def gNames : List Str := ["is_row", "is_name", "first_other", "checked_sights", "checked_words", "marked", "seeing", "_law_flag", "_law_stream", "_law_draw", "_law_names", "_law_do", "_law_right", "law", "View"]
def fNames : List Str := ["TypeError", "ValueError", "bool", "dict", "enumerate", "int", "isinstance", "len", "list", "min", "property", "range", "set", "sorted", "str", "super", "tuple"]
def mNames : List Str := ["__len__", "__contains__", "__eq__", "__getitem__", "__setitem__", "hold_just", "copy", "__ior__", "__isub__"]
def exB (K : PySem.W.Frag) : Bool := (gNames.all fun x => (He.Fa.glo x).ok K) && ((fNames.all fun x => (He.Fa.free x).ok K) && ((mNames.all fun m => (He.Fa.meth "View" m).ok K) && ((He.Fa.int "MOST_LETTERS" 12).ok K && ((He.Fa.cls "View").ok K && ((He.Fa.noat "View" "table").ok K && ((He.Fa.noat "View" "can").ok K && ((He.Fa.mkr "View").ok K &&
  (PySem.W.noSeq K (cV K) && (PySem.W.selfFirst K (cV K) && (PySem.W.fnIn K (pA "__getitem__" K) && (propB "words" K && (propB "sights" K && (propB "holds" K && (hasSet "holds" K && (decide (PySem.W.takerIn K (cV K) "holds" = some (some (.ref (pA "holds" K)))) && (decide (PySem.W.typeIn K (.ref (pA "holds" K)) = some (.type "property")) &&
  (He.eqO (PySem.W.findIn K (.ref (cV K)) "__class__") (some (some (.builtin "object.__class__"))) && (He.eqO (PySem.W.specialIn K (.builtin "object.__class__") "__get__") (some (some (.builtin "getset_descriptor.__get__"))) && (decide (PySem.W.takesIn K (.builtin "object.__class__") = some true) && (decide (PySem.W.mroIn K (cV K) (.type "object") = some true) && (decide (PySem.W.kitOne K (.ref (cV K)) (.ref (cV K)) = some true) && emp0 (aE K) K)))))))))))))))))))))
def dsL : List LD := [
  ⟨fun K => He.ga K "is_row", "is_row", "is_row", s_is_row, []⟩,
  ⟨fun K => He.ga K "is_name", "is_name", "is_name", s_is_name, []⟩,
  ⟨fun K => He.ga K "first_other", "first_other", "first_other", s_first_other, []⟩,
  ⟨fun K => He.ga K "checked_sights", "checked_sights", "checked_sights", s_checked_sights, []⟩,
  ⟨fun K => He.ga K "checked_words", "checked_words", "checked_words", s_checked_words, []⟩,
  ⟨fun K => He.ga K "marked", "marked", "marked", s_marked, []⟩,
  ⟨pA "__init__", "__init__", "View.__init__", s_View___init__, [.non, .adr aE]⟩,
  ⟨getA "words", "words", "View.words", s_View_words, []⟩,
  ⟨getA "sights", "sights", "View.sights", s_View_sights, []⟩,
  ⟨getA "holds", "holds", "View.holds", s_View_holds, []⟩,
  ⟨setA "holds", "holds", "View.holds", s_View_holds_2, []⟩,
  ⟨pA "hold_just", "hold_just", "View.hold_just", s_View_hold_just, []⟩,
  ⟨pA "copy", "copy", "View.copy", s_View_copy, []⟩,
  ⟨pA "__eq__", "__eq__", "View.__eq__", s_View___eq__, []⟩,
  ⟨pA "__len__", "__len__", "View.__len__", s_View___len__, []⟩,
  ⟨pA "__contains__", "__contains__", "View.__contains__", s_View___contains__, []⟩,
  ⟨pA "__getitem__", "__getitem__", "View.__getitem__", s_View___getitem__, []⟩,
  ⟨pA "__setitem__", "__setitem__", "View.__setitem__", s_View___setitem__, []⟩,
  ⟨pA "__ior__", "__ior__", "View.__ior__", s_View___ior__, []⟩,
  ⟨pA "__isub__", "__isub__", "View.__isub__", s_View___isub__, []⟩,
  ⟨fun K => He.ga K "seeing", "seeing", "seeing", s_seeing, [.adr (He.dflAt ("seeing", none) 0)]⟩,
  ⟨fun K => He.ga K "_law_flag", "_law_flag", "_law_flag", s__law_flag, []⟩,
  ⟨fun K => He.ga K "_law_stream", "_law_stream", "_law_stream", s__law_stream, []⟩,
  ⟨fun K => He.ga K "_law_draw", "_law_draw", "_law_draw", s__law_draw, []⟩,
  ⟨fun K => He.ga K "_law_names", "_law_names", "_law_names", s__law_names, []⟩,
  ⟨fun K => He.ga K "_law_do", "_law_do", "_law_do", s__law_do, []⟩,
  ⟨fun K => He.ga K "_law_right", "_law_right", "_law_right", s__law_right, []⟩,
  ⟨fun K => He.ga K "law", "law", "law", s_law, []⟩]
abbrev R8 : PySem.W.OpenRow := PySem.W.OpenLaw.row PySem.Challenge.rw_leastguards_k08_whole_view_history
abbrev hk8 : PySem.W.Hook := hookL 7 exB dsL
def ob8 (s : PySem.W.SharedT) : ObL := obG 7 exB dsL (HandSHeadRun.getT s)
theorem ob8_eq (s : PySem.W.SharedT) : ob8 s = hk8.obs s.abs := obG_eq (HandSHeadRun.getT_eq s)
def lo8 : List Str := ["MOST_LETTERS", "is_row", "is_name", "first_other", "GuardError", "BadWord", "BadView", "checked_sights", "checked_words", "marked", "View", "seeing", "_law_flag", "_law_stream", "_law_draw", "_law_names", "_law_do", "_law_right"]
end LG
-- HF
namespace LG
open PySem PySem.Spec PyProof.Rows L2
theorem all_of {xs : List Str} {p : Str → Bool} (h : xs.all p = true) {x : Str} (i : Nat) (e : xs[i]? = some x) : p x = true := List.all_eq_true.mp h x (List.mem_of_getElem? e)
section
variable {P : Program} {w : World} {K : PySem.W.Frag} {h : Heap} {mg : Str → Option Value} {base : Heap} {f : Addr}
theorem gfn {x qu : Str} {st : Stmt} {fd : FuncData} {k : Nat} {ps : List Str} {sp : Sp} (e : mg x = some (.ref f)) (F : FnP K x qu st [] f fd) (O : FnOk P w K mg base (L2.CX P w) k f fd ps sp)
    (hb : ∀ (kV doc pm : Value) (an : Option Addr) (cdv ct : Value) (us : List Value), us.length = ps.length → bindArgs (PySem.W.fnOf x qu (defArgs st) (defBody st) (defScope st) .none kV doc pm an cdv ct) ⟨us, []⟩ = pure (ps.zip us)) : GFn P w K mg base x k [] sp :=
  ⟨⟨f, fd, ps, [], O, e, F.kp, F.bindsN hb, .nil⟩⟩
theorem mfn {C : Addr} {m x qu : Str} {st : Stmt} {fd : FuncData} {k : Nat} {ps : List Str} {sp : Sp} (c : Cls K C) (e : Meth K C m f) (F : FnP K x qu st [] f fd) (O : FnOk P w K mg base (L2.CX P w) k f fd ps sp)
    (hb : ∀ (kV doc pm : Value) (an : Option Addr) (cdv ct : Value) (us : List Value), us.length = ps.length → bindArgs (PySem.W.fnOf x qu (defArgs st) (defBody st) (defScope st) .none kV doc pm an cdv ct) ⟨us, []⟩ = pure (ps.zip us)) : MFn P w K mg base C m k [] sp :=
  ⟨c, ⟨f, fd, ps, [], O, e, F.bindsN hb, .nil⟩⟩
theorem facts8 (X : K.In h) (Gm : h.Ns mainGlobals mg) (c : SaysL exB dsL K) :
    ∃ fd : FuncData, mg "law" = some (.ref (He.ga K "law")) ∧ (∀ (s : Shared) (v : Value), BindsTo s fd ⟨[v], []⟩ [("_law_script", v)]) ∧ ∀ base : Heap, FnOk P w K mg base (L2.CX P w) 9 (He.ga K "law") fd ["_law_script"] (spLaw K) := by
  have ex := c.ex_
  unfold exB at ex
  simp only [Bool.and_eq_true] at ex
  obtain ⟨xg, xf, xm, xi, xc, xt, xn, xk, noS, selfF, fnG, pW, pS, pH, hS, tk, ty, i1, i2, i3, i4, i5, em⟩ := ex
  have g : ∀ (i : Nat) {x : Str}, gNames[i]? = some x → mg x = some (.ref (He.ga K x)) := fun i x e => He.glo_ok X Gm (all_of xg i e)
  have fr : ∀ (i : Nat) {x : Str}, fNames[i]? = some x → mg x = none := fun i x e => He.free_ok X Gm (all_of xf i e)
  have me : ∀ (i : Nat) {m : Str}, mNames[i]? = some m → Meth K (cV K) m (pA m K) := fun i m e => He.meth_ok (all_of (p := fun m => (He.Fa.meth "View" m).ok K) xm i e)
  have B : Blt mg := ⟨fr 0 rfl, fr 1 rfl, fr 2 rfl, fr 3 rfl, fr 4 rfl, fr 5 rfl, fr 6 rfl, fr 7 rfl, fr 8 rfl, fr 9 rfl, fr 10 rfl, fr 11 rfl, fr 12 rfl, fr 13 rfl, fr 14 rfl, fr 15 rfl, fr 16 rfl⟩
  have mM := He.int_ok X Gm xi
  have cl : Cls K (cV K) := He.cls_ok xc
  have T : VTxt K mg (cV K) := ⟨cl, He.noat_ok xt, He.noat_ok xn, g 14 rfl⟩
  have V1 : VInst K (cV K) := ⟨He.eqO_ok i1, He.eqO_ok i2, of_decide_eq_true i3, of_decide_eq_true i4, of_decide_eq_true i5⟩
  have mk : Mk K (cV K) (pA "__init__" K) := He.mkr_ok xk
  obtain ⟨_, F0⟩ := c.def_ 0 rfl
  obtain ⟨_, F1⟩ := c.def_ 1 rfl
  obtain ⟨_, F2⟩ := c.def_ 2 rfl
  obtain ⟨_, F3⟩ := c.def_ 3 rfl
  obtain ⟨_, F4⟩ := c.def_ 4 rfl
  obtain ⟨_, F5⟩ := c.def_ 5 rfl
  obtain ⟨fI, F6⟩ := c.def_ 6 rfl
  obtain ⟨_, F7⟩ := c.def_ 7 rfl
  obtain ⟨_, F8⟩ := c.def_ 8 rfl
  obtain ⟨_, F9⟩ := c.def_ 9 rfl
  obtain ⟨_, F10⟩ := c.def_ 10 rfl
  obtain ⟨_, F11⟩ := c.def_ 11 rfl
  obtain ⟨_, F12⟩ := c.def_ 12 rfl
  obtain ⟨_, F13⟩ := c.def_ 13 rfl
  obtain ⟨_, F14⟩ := c.def_ 14 rfl
  obtain ⟨_, F15⟩ := c.def_ 15 rfl
  obtain ⟨_, F16⟩ := c.def_ 16 rfl
  obtain ⟨_, F17⟩ := c.def_ 17 rfl
  obtain ⟨_, F18⟩ := c.def_ 18 rfl
  obtain ⟨_, F19⟩ := c.def_ 19 rfl
  obtain ⟨fS, F20⟩ := c.def_ 20 rfl
  obtain ⟨_, F21⟩ := c.def_ 21 rfl
  obtain ⟨_, F22⟩ := c.def_ 22 rfl
  obtain ⟨_, F23⟩ := c.def_ 23 rfl
  obtain ⟨_, F24⟩ := c.def_ 24 rfl
  obtain ⟨_, F25⟩ := c.def_ 25 rfl
  obtain ⟨_, F26⟩ := c.def_ 26 rfl
  obtain ⟨fdL, F27⟩ := c.def_ 27 rfl
  have b := FunD.bindsA (ps := ["_law_script"]) F27 fun _ _ _ _ _ _ us hl => match us, hl with | [_], _ => rfl
  refine ⟨fdL, g 13 rfl, fun s v => b s [v] rfl, fun base => ?_⟩
  have gR : GFn P w K mg base "is_row" 1 [] (spIsRow K) := gfn (g 0 rfl) F0 (ok_is_row B F0) fun _ _ _ _ _ _ us hl => match us, hl with | [_], _ => rfl
  have gN : GFn P w K mg base "is_name" 1 [] (spIsName K) := gfn (g 1 rfl) F1 (ok_is_name B mM F1) fun _ _ _ _ _ _ us hl => match us, hl with | [_], _ => rfl
  have gO : GFn P w K mg base "first_other" 2 [] (spFirstOther K) := gfn (g 2 rfl) F2 (ok_first_other B gN F2) fun _ _ _ _ _ _ us hl => match us, hl with | [_], _ => rfl
  have gS : GFn P w K mg base "checked_sights" 2 [] (spSights K) := gfn (g 3 rfl) F3 (ok_checked_sights B gN F3) fun _ _ _ _ _ _ us hl => match us, hl with | [_], _ => rfl
  have gW : GFn P w K mg base "checked_words" 3 [] (spWords K) := gfn (g 4 rfl) F4 (ok_checked_words B gR gO F4) fun _ _ _ _ _ _ us hl => match us, hl with | [_], _ => rfl
  have gM : GFn P w K mg base "marked" 1 [] (spMarked K) := gfn (g 5 rfl) F5 (ok_marked F5) fun _ _ _ _ _ _ us hl => match us, hl with | [_], _ => rfl
  have oI : FnOk P w K mg base (L2.CX P w) 4 (pA "__init__" K) fI ["self", "sights", "holds"] (spInit K (cV K)) := ok_init T gS gW gM F6
  have make0 : KFn P w K mg base "View" (cV K) 4 [.non, .ref (aE K)] (spInit K (cV K)) := by
    obtain ⟨d0, v0, b0⟩ := F6.binds1 (ps := ["self", "sights", "holds"]) 1 0 (by simp) rfl fun _ _ _ _ _ _ _ us its hl hi => match us, its, hl, hi with | [_], [_, _], _, _ => ⟨_, rfl, rfl⟩
    exact ⟨⟨_, _, _, d0, oI, mk, g 14 rfl, b0, v0⟩⟩
  have make : KFn P w K mg base "View" (cV K) 4 [] (spInit K (cV K)) := by
    obtain ⟨d0, v0, b0⟩ := F6.binds1 (ps := ["self", "sights", "holds"]) 3 2 (by simp) rfl fun _ _ _ _ _ _ _ us its hl hi => match us, its, hl, hi with | [_, _, _], [_, _], _, _ => ⟨_, rfl, rfl⟩
    exact ⟨⟨_, _, _, d0, oI, mk, g 14 rfl, b0, v0⟩⟩
  have prW : PrFn P w K mg base (cV K) "words" 1 (spWordsP (cV K)) := ⟨cl, ⟨_, _, _, _, ok_words B T F7, prop_of pW, F7.bindsN fun _ _ _ _ _ _ us hl => match us, hl with | [_], _ => rfl⟩⟩
  have prS : PrFn P w K mg base (cV K) "sights" 1 (spSightsP (cV K)) := ⟨cl, ⟨_, _, _, _, ok_sights B T F8, prop_of pS, F8.bindsN fun _ _ _ _ _ _ us hl => match us, hl with | [_], _ => rfl⟩⟩
  have prH : PrFn P w K mg base (cV K) "holds" 1 (spHoldsP (cV K)) := ⟨cl, ⟨_, _, _, _, ok_holds B T F9, prop_of pH, F9.bindsN fun _ _ _ _ _ _ us hl => match us, hl with | [_], _ => rfl⟩⟩
  obtain ⟨ra, rr, hrec⟩ := set_rec hS
  have psH : PsFn P w K mg base (cV K) "holds" 4 (spHold K (cV K)) := ⟨cl, ⟨_, _, ra, rr, _, _, ok_holdset T gW gM F10, of_decide_eq_true tk, of_decide_eq_true ty, hrec, F10.bindsN fun _ _ _ _ _ _ us hl => match us, hl with | [_, _], _ => rfl⟩⟩
  have mLen : MFn P w K mg base (cV K) "__len__" 1 [] (spLen (cV K)) := mfn cl (me 0 rfl) F14 (ok_len B T F14) fun _ _ _ _ _ _ us hl => match us, hl with | [_], _ => rfl
  have mHas : MFn P w K mg base (cV K) "__contains__" 1 [] (spHas (cV K)) := mfn cl (me 1 rfl) F15 (ok_contains B T F15) fun _ _ _ _ _ _ us hl => match us, hl with | [_, _], _ => rfl
  have mEq : MFn P w K mg base (cV K) "__eq__" 1 [] (spEqV (cV K)) := mfn cl (me 2 rfl) F13 (ok_eq B T V1 F13) fun _ _ _ _ _ _ us hl => match us, hl with | [_, _], _ => rfl
  have mGet : MFn P w K mg base (cV K) "__getitem__" 2 [] (spGet (cV K)) := mfn cl (me 3 rfl) F16 (ok_getitem B T gN F16) fun _ _ _ _ _ _ us hl => match us, hl with | [_, _], _ => rfl
  have mSet : MFn P w K mg base (cV K) "__setitem__" 2 [] (spSet (cV K)) := mfn cl (me 4 rfl) F17 (ok_setitem T gN F17) fun _ _ _ _ _ _ us hl => match us, hl with | [_, _, _], _ => rfl
  have mHJ : MFn P w K mg base (cV K) "hold_just" 7 [] (spHold K (cV K)) := mfn cl (me 5 rfl) F11 (ok_hold_just psH F11) fun _ _ _ _ _ _ us hl => match us, hl with | [_, _], _ => rfl
  have mCopy : MFn P w K mg base (cV K) "copy" 6 [] (spCopy (cV K)) := mfn cl (me 6 rfl) F12 (ok_copy B T make F12) fun _ _ _ _ _ _ us hl => match us, hl with | [_], _ => rfl
  have mIor : MFn P w K mg base (cV K) "__ior__" 3 [] (spIor (cV K)) := mfn cl (me 7 rfl) F18 (ok_ior T gS F18) fun _ _ _ _ _ _ us hl => match us, hl with | [_, _], _ => rfl
  have mIsub : MFn P w K mg base (cV K) "__isub__" 4 [] (spIsub K (cV K)) := mfn cl (me 8 rfl) F19 (ok_isub T gW gM F19) fun _ _ _ _ _ _ us hl => match us, hl with | [_, _], _ => rfl
  have gSee : GFn P w K mg base "seeing" 6 [] (spSeeing K (cV K)) := by
    obtain ⟨d0, v0, b0⟩ := F20.binds1 (ps := ["words", "holds"]) 2 1 (by simp) rfl fun _ _ _ _ _ _ _ us its hl hi => match us, its, hl, hi with | [_, _], [_], _, _ => ⟨_, rfl, rfl⟩
    exact ⟨⟨_, _, _, d0, ok_seeing make gW F20, g 6 rfl, F20.kp, b0, v0⟩⟩
  have gF : GFn P w K mg base "_law_flag" 1 [] spFlag := gfn (g 7 rfl) F21 (ok_flag B F21) fun _ _ _ _ _ _ us hl => match us, hl with | [_, _], _ => rfl
  have gSt : GFn P w K mg base "_law_stream" 1 [] (spStream K) := gfn (g 8 rfl) F22 (ok_stream B F22) fun _ _ _ _ _ _ us hl => match us, hl with | [_, _], _ => rfl
  have gD : GFn P w K mg base "_law_draw" 1 [] spDraw := gfn (g 9 rfl) F23 (ok_draw B F23) fun _ _ _ _ _ _ us hl => match us, hl with | [_, _], _ => rfl
  have gNs : GFn P w K mg base "_law_names" 2 [] spNames := gfn (g 10 rfl) F24 (ok_names B gD F24) fun _ _ _ _ _ _ us hl => match us, hl with | [_, _], _ => rfl
  have dF : DoFns P w K mg base (cV K) := ⟨B, mSet, noS, mHJ, mIor, mIsub, selfF, mCopy, gSee, gD⟩
  have gDo : GFn P w K mg base "_law_do" 8 [] (spDo (cV K)) := gfn (g 11 rfl) F25 (ok_do dF F25) fun _ _ _ _ _ _ us hl => match us, hl with | [_, _, _, _], _ => rfl
  have hkG : ∀ f, PySem.W.findIn K (.ref (cV K)) "__getitem__" = some (some (.ref f)) → PySem.W.fnIn K f = true := fun f e => by
    rw [(me 3 rfl).1] at e
    cases e
    exact fnG
  have gRt : GFn P w K mg base "_law_right" 4 [] (spRight (cV K)) := gfn (g 12 rfl) F26 (ok_right B prS prW prH mLen mHas mGet hkG gF F26) fun _ _ _ _ _ _ us hl => match us, hl with | [_, _, _], _ => rfl
  have lF : LawFns P w K mg base (cV K) (aE K) := ⟨B, gNs, gSt, make0, make, emp_row em, mCopy, mEq, gDo, gRt, gF⟩
  exact ok_law lF F27
end
end LG
-- HR
namespace LG
open PySem PySem.Spec PyProof.Rows L2
set_option maxHeartbeats 0
theorem run8 (w : World) : HandSHeadRun.RunEq R8 (PySem.W.view R8.prog [22]) hk8 ob8 4000 lo8 w := by
  intro os
  kernel_rfl
end LG
-- HE
namespace LG
open PySem PySem.Spec PyProof.Rows L2
/-- no exception leaves a def whose promise asks none -/
theorem noexc {P : Program} {w : World} {K : PySem.W.Frag} {mg : Str → Option Value} {base : Heap} {k : Nat} {f : Addr} {fd : FuncData} {ps : List Str} {sp : Sp} (F : FnOk P w K mg base (L2.CX P w) k f fd ps sp) (hE : ∀ vs H Q E, sp vs H Q E → sp vs H Q fun _ _ _ => False) : FnOk P w K mg base CX0 k f fd ps sp where
  len := F.len
  run := fun A outer s H args binds vs Q E hr e0 hb r h => codeAny_mono (F.run A outer s H args binds vs Q (fun _ _ _ => False) hr e0 hb r (hE vs H Q E h)) fun res s' c => by
    match res, c with
    | .error e, c =>
      obtain ⟨_, _, _, _, _, _, _, _, _, _, _, _, z⟩ := c
      exact z.elim
    | .ok (.ret u), c => exact c
    | .ok .next, c => exact c
    | .ok .brk, c => exact c
    | .ok .cont, c => exact c
end LG
open PySem PySem.W PySem.Calls PyProof.Rows
theorem PySem.Challenge.cw_leastguards_k08_whole_view_history_holds : PySem.Challenge.rw_leastguards_k08_whole_view_history.Holds := by
  w_on; o_law
  refine HandSHeadRun.head_any (r := OpenLaw.row PySem.Challenge.rw_leastguards_k08_whole_view_history) (q := view (OpenLaw.row PySem.Challenge.rw_leastguards_k08_whole_view_history).prog [22]) (H := LG.hk8) (ob := LG.ob8) (M := 4000) (loose := LG.lo8) (d := HandSHeadRun.topDef (OpenLaw.row PySem.Challenge.rw_leastguards_k08_whole_view_history).prog 22) (kwd := []) LG.ob8_eq
    (by kernel_rfl) (fun s => by kernel_rfl) LG.run8 (by kernel_rfl) (by kernel_rfl) (by kernel_rfl) (by rfl) (by first | assumption | decide +kernel) (by decide +kernel) ⟨rfl, rfl, rfl, rfl, rfl, by decide +kernel⟩ ?hw ?hc
  case hw => w_witness2
  case hc =>
    refine L2.walk_ofE (l := PySem.Challenge.rw_leastguards_k08_whole_view_history) (n := 63) (k := 9) (x := "_law_script") (CX := L2.CX0) rfl (by decide) (by kernel_rfl) ⟨rfl, by decide, by decide⟩ ?F (fun _ _ _ _ z => z)
    intro w mg fa h Y G hmg0
    obtain ⟨K, KX, c⟩ := Y
    have hmg : mg ("law" : PySem.Str) = some (.ref fa) := by
      have e : (HandSHeadRun.topDef (OpenLaw.row PySem.Challenge.rw_leastguards_k08_whole_view_history).prog 22).name = ("law" : PySem.Str) := by kernel_rfl
      rw [← e]
      exact hmg0
    obtain ⟨fd, e0, hb, hF⟩ := LG.facts8 (P := PySem.Challenge.rw_leastguards_k08_whole_view_history.prog) (w := w) KX G c
    have e1 : fa = He.ga K "law" := by
      rw [hmg] at e0
      cases e0
      rfl
    subst e1
    exact ⟨K, fd, LG.spLaw K, KX, hb, fun H a ns hl _ hS => ⟨a, ns, rfl, hS, hl, fun _ => rfl⟩, fun base _ _ => LG.noexc (hF base) fun vs H Q E z => z⟩
