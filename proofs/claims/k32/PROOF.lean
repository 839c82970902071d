import PyProof.Rows.All
import Wide.All
import OpenK.AllK
import Wide.FinOn
import KE.KStateDown
import HandS.ForMost
import HandS.ForExc
import HandS.TupAny
import HandS.Strs
import HandS.Deep
import HandS.Defaults
import HandS.Property
import HandS.ExcIs
import HandS.HeadHook1
import HandS.HeadHook2
import PySem.Challenge.RW_joinhall_k32_whole_standing_answers_are
import Lean
import HandS.Head0
import HandS.Head1
import HandS.Head2
import HandS.HeadEnd
import HandS.TupSets
import HandS.DictTup
import HandS.TupMul
import HandS.SetFor
import HandS.Walk
import HandS.WordsExc
import HandS.FStr
import PyProof.FitsReplace
import HandS.HotCalls
set_option Elab.async false
set_option linter.all false
set_option maxRecDepth 100000
set_option maxHeartbeats 0
/-! Weakest preconditions over the hand layer: what must hold ahead of an expression, a test, arguments, statements. -/
namespace J
open PySem PySem.Spec PyProof.Rows L2

structure WE (X : Cx) (e : Expr) (σ : L2.St) (H : Hp) (Q : VK) : Prop where
  run : ∀ (pins : List (Addr × Obj)) (s : Shared), Inv X pins σ H s → wpAny (model X.prog X.w) X.A (eval e X.env) (EP X pins σ Q) X.xe s
structure WT (X : Cx) (e : Expr) (σ : L2.St) (H : Hp) (Q : Bool → Hp → Prop) : Prop where
  run : ∀ (pins : List (Addr × Obj)) (s : Shared), Inv X pins σ H s → wpAny (model X.prog X.w) X.A (isTrue e X.env (eval e X.env)) (TP X pins σ Q) X.xe s
structure WA (X : Cx) (es : List Expr) (σ : L2.St) (H : Hp) (Q : List V → Hp → Prop) : Prop where
  run : ∀ (pos : Pos) (pins : List (Addr × Obj)) (s : Shared), Inv X pins σ H s → wpAny (model X.prog X.w) X.A (spliced (backTo pos (starEach es X.env))) (AP X pins σ Q) X.xe s
structure WS (X : Cx) (st : Stmt) (D : Ends) (σ : L2.St) (H : Hp) : Prop where
  run : ∀ (pins : List (Addr × Obj)) (s : Shared), Inv X pins σ H s → wpAny (model X.prog X.w) X.A (exec st X.env) (SP X pins D) X.xe s
structure WSs (X : Cx) (st : List Stmt) (D : Ends) (σ : L2.St) (H : Hp) : Prop where
  run : ∀ (pins : List (Addr × Obj)) (s : Shared), Inv X pins σ H s → wpAny (model X.prog X.w) X.A (execs st X.env) (SP X pins D) X.xe s
section
variable {X : Cx} {e a b c : Expr} {es : List Expr} {st : Stmt} {sts : List Stmt} {t ta tb : TE} {tt : TT} {tA : TA} {tS tU : TS} {σ : L2.St} {H : Hp} {Q Q' : VK} {pos : Pos} {D : Ends}
theorem pe_we : PE X e (WE X e) := ⟨fun pins s _ _ _ I h => h.run pins s I⟩
theorem pt_we : PT X e (WT X e) := ⟨fun pins s _ _ _ I h => h.run pins s I⟩
theorem pa_we : PA X es (WA X es) := ⟨fun pos pins s _ _ _ I h => h.run pos pins s I⟩
theorem ps_we : PS X st (WS X st) := ⟨fun pins s _ _ _ I h => h.run pins s I⟩
theorem pss_we : PSs X sts (WSs X sts) := ⟨fun pins s _ _ _ I h => h.run pins s I⟩
theorem we_of (h : PE X e t) (q : t σ H Q) : WE X e σ H Q := ⟨fun pins s I => h.run pins s σ H Q I q⟩
theorem wt_of (h : PT X e tt) {Q : Bool → Hp → Prop} (q : tt σ H Q) : WT X e σ H Q := ⟨fun pins s I => h.run pins s σ H Q I q⟩
theorem wa_of (h : PA X es tA) {Q : List V → Hp → Prop} (q : tA σ H Q) : WA X es σ H Q := ⟨fun pos pins s I => h.run pos pins s σ H Q I q⟩
theorem ws_of (h : PS X st tS) (q : tS D σ H) : WS X st D σ H := ⟨fun pins s I => h.run pins s σ H D I q⟩
theorem wss_of (h : PSs X sts tS) (q : tS D σ H) : WSs X sts D σ H := ⟨fun pins s I => h.run pins s σ H D I q⟩
theorem WE.mono (h : WE X e σ H Q) (k : ∀ v H', Q v H' → Q' v H') : WE X e σ H Q' := ⟨fun pins s I => thn (h.run pins s I) fun u s' ⟨v, H', I', r, q⟩ => ⟨v, H', I', r, k v H' q⟩⟩
theorem WT.mono {Q Q' : Bool → Hp → Prop} (h : WT X e σ H Q) (k : ∀ v H', Q v H' → Q' v H') : WT X e σ H Q' := ⟨fun pins s I => thn (h.run pins s I) fun u s' ⟨H', I', q⟩ => ⟨H', I', k _ H' q⟩⟩
theorem WA.mono {Q Q' : List V → Hp → Prop} (h : WA X es σ H Q) (k : ∀ v H', Q v H' → Q' v H') : WA X es σ H Q' := ⟨fun pos pins s I => thn (h.run pos pins s I) fun u s' ⟨v, H', I', r, q⟩ => ⟨v, H', I', r, k v H' q⟩⟩

/-! statements -/
theorem wss_nil (q : D.nx σ H) : WSs X [] D σ H := wss_of pss_nil q
theorem wss_cons (q : WS X st { D with nx := WSs X sts D } σ H) : WSs X (st :: sts) D σ H := wss_of (pss_cons ps_we pss_we) q
theorem wss_one (q : WS X st D σ H) : WSs X [st] D σ H := wss_of (pss_one ps_we) q
theorem ws_ret (q : WE X e σ H D.rt) : WS X (.Return (some e) pos) D σ H := ws_of (ps_ret pe_we) q
theorem ws_retN (q : D.rt .non H) : WS X (.Return none pos) D σ H := ws_of ps_retN q
theorem ws_if {a b : List Stmt} (q : WT X c σ H fun k H1 => if k = true then WSs X a D σ H1 else WSs X b D σ H1) : WS X (.If c a b pos) D σ H := ws_of (ps_if pt_we pss_we pss_we) q
theorem ws_expr (q : WE X e σ H fun _ H1 => D.nx σ H1) (hs : swapsWith e none pos.line X.env = pure false := by rfl) : WS X (.Expr e pos) D σ H := ws_of (ps_expr pe_we hs) q
/-- x = e, x in slot i -/
theorem ws_set (i : Nat) {x : Str} {p : Pos} (hN : X.N.Nodup) (q : WE X e σ H fun v H1 => D.nx (σ.set i (some v)) H1) (hi : X.N[i]? = some x := by rfl) (hx : Loc X.env.scope x := by first | exact Or.inl rfl | exact Or.inr rfl)
    (hs : swapsWith e (some (.Name x p)) pos.line X.env = pure false := by rfl) (hf : X.fn x = true ∨ X.env.scope.names.lookup x = some .local := by first | exact .inl rfl | exact .inr rfl) : WS X (.Assign [.Name x p] e pos) D σ H :=
  ws_of (ps_set hN hi hx pe_we hs hf) q
/-- another target -/
theorem ws_asg {tg : Expr} {g : TG} (hg : PG X tg g) (q : WE X e σ H fun x H1 => g x σ H1 D.nx) (hs : swapsWithSole [tg] e pos.line X.env = pure false := by rfl) (hw : swappedStores [tg] e X.env = pure none := by rfl)
    (h1 : (assignEach [tg] X.env).map (·.2) = [assign tg X.env] := by rfl) : WS X (.Assign [tg] e pos) D σ H := ws_of (ps_asg pe_we hg hs hw h1) q

/-! names, constants -/
theorem we_var (i : Nat) {x : Str} {v : V} (h : σ[i]? = some (some v)) (q : Q v H) (hN : X.N[i]? = some x := by rfl) (hv : Vis X.env.scope x := by first | exact Or.inl rfl | exact Or.inr (Or.inl rfl) | exact Or.inr (Or.inr rfl))
    (hd : (x == ("__debug__" : Str)) = false := by decide) (hcd : (x == ("__classdict__" : Str)) = false := by decide) : WE X (.Name x pos) σ H Q := we_of (pe_var hN hv hd hcd) ⟨v, h, q⟩

/-! operators -/
theorem we_op {op : Operator} {r : R2} (ho : OpR X (binaryOp op) r) (q : WE X a σ H fun x H1 => WE X b σ H1 fun y H2 => r x y H2 Q) : WE X (.BinOp a op b pos) σ H Q := we_of (pe_op ho pe_we pe_we) q
theorem we_cmp {op : CmpOp} {r : R2} (ho : OpR X (compareOp op) r) (q : WE X a σ H fun x H1 => WE X b σ H1 fun y H2 => r x y H2 Q) (hm : behindInMarks op b = false := by first | exact nomark _ | rfl) : WE X (.Compare a [op] [b] pos) σ H Q := we_of (pe_cmpR ho pe_we pe_we hm) q
theorem wt_cmp {op : CmpOp} {r : R2} (ho : OpR X (compareOp op) r) {Q : Bool → Hp → Prop} (q : WE X a σ H fun x H1 => WE X b σ H1 fun y H2 => r x y H2 fun z H3 => ∃ k, z = .bl k ∧ Q k H3) (hm : behindInMarks op b = false := by first | exact nomark _ | rfl) : WT X (.Compare a [op] [b] pos) σ H Q := wt_of (pt_cmpR ho pe_we pe_we hm) q
theorem wt_val {Q : Bool → Hp → Prop} (q : WE X e σ H fun x H1 => ∃ k, x = .bl k ∧ Q k H1) (he : ∀ whole, isTrue e X.env whole = (do let v ← whole; standAt e.pos; holding [v] (truthy v)) := by intro _; rfl) : WT X e σ H Q := wt_of (pt_val pe_we he) q
theorem we_cmp' {op : CmpOp} {t : TE} (h : PC X op a b t) (q : t σ H Q) (h1 : behindInMarks op b = false := by first | exact nobehind _ (by decide) (by decide) | rfl) : WE X (.Compare a [op] [b] pos) σ H Q := we_of (pe_cmp h h1) q
theorem wt_cmp' {op : CmpOp} {t : TE} (h : PC X op a b t) {Q : Bool → Hp → Prop} (q : t σ H fun x H1 => ∃ k, x = .bl k ∧ Q k H1) (h1 : behindInMarks op b = false := by first | exact nobehind _ (by decide) (by decide) | rfl) : WT X (.Compare a [op] [b] pos) σ H Q := wt_of (pt_cmp h h1) q
end
end J
/-! Data: which value of the heap stands for which plain datum; expressions that evaluate to data and leave all that was known as it was. -/
namespace J
open PySem PySem.Spec PyProof.Rows L2

/-! ### data at values -/
def isStrD : PyData → Bool
  | .str _ => true
  | _ => false
/-- a tuple of names: it is told with its very object, so that its methods may be called -/
def vst (ds : List PyData) : Bool := !ds.isEmpty && ds.all isStrD
def TupAt (H : Hp) (a : Addr) (f : Bool) (xs : List V) : Prop := if f = true then ∃ o : Obj, o.dict = none ∧ H a = some (.frz o (.tup xs)) else H a = some (.tup xs)
mutual
def Rep (H : Hp) : PyData → V → Prop
  | .none, v => v = .non
  | .bool b, v => v = .bl b
  | .int i, v => v = .int i
  | .str s, v => v = .str s
  | .list _, _ => False
  | .tuple ds, v => ∃ a xs, v = .ref a ∧ TupAt H a (vst ds) xs ∧ RepL H ds xs
  | .dict _, _ => False
def RepL (H : Hp) : List PyData → List V → Prop
  | [], xs => xs = []
  | d :: ds, xs => ∃ x r, xs = x :: r ∧ Rep H d x ∧ RepL H ds r
end
/-- tuples stay -/
def Kp (H H' : Hp) : Prop := ∀ a, (∀ xs, H a = some (.tup xs) → H' a = some (.tup xs)) ∧ ∀ o xs, H a = some (.frz o (.tup xs)) → H' a = some (.frz o (.tup xs))
theorem Kp.refl (H : Hp) : Kp H H := fun _ => ⟨fun _ h => h, fun _ _ h => h⟩
theorem Kp.trans {H H1 H2 : Hp} (a : Kp H H1) (b : Kp H1 H2) : Kp H H2 := fun p => ⟨fun xs h => (b p).1 xs ((a p).1 xs h), fun o xs h => (b p).2 o xs ((a p).2 o xs h)⟩
theorem Kp.of {H H' : Hp} (e : Same H H') : Kp H H' := fun _ => ⟨fun _ h => e _ _ h, fun _ _ h => e _ _ h⟩
/-- what is neither a tuple nor told with its object may change -/
def loose : HO → Bool
  | .tup _ => false
  | .frz _ _ => false
  | _ => true
theorem Kp.upd {H : Hp} {a : Addr} {u o : HO} (h : H a = some u) (l : loose u = true) : Kp H (upd H a o) := fun b => by
  by_cases hb : b = a
  · subst hb
    refine ⟨fun xs e => ?_, fun ob xs e => ?_⟩
    · rw [h] at e; cases e; cases l
    · rw [h] at e; cases e; cases l
  · rw [upd_ne hb]
    exact ⟨fun _ h => h, fun _ _ h => h⟩
theorem Kp.new {H : Hp} {a : Addr} {o : HO} (h : H a = none) : Kp H (L2.upd H a o) := fun b => by
  by_cases hb : b = a
  · subst hb
    refine ⟨fun xs e => ?_, fun ob xs e => ?_⟩
    · rw [h] at e; cases e
    · rw [h] at e; cases e
  · rw [upd_ne hb]
    exact ⟨fun _ h => h, fun _ _ h => h⟩
theorem _root_.L2.Same.new {H : Hp} {p : Addr} {o : HO} (h : H p = none) : Same H (upd H p o) := fun a u e => by
  rw [upd_ne (ne_of_none e h)]
  exact e
/-- an object that H does not know may change -/
theorem _root_.L2.Same.mut {H H' : Hp} {p : Addr} {o : HO} (e : Same H H') (h : H p = none) : Same H (upd H' p o) := fun a u ha => by
  rw [upd_ne (ne_of_none ha h)]
  exact e a u ha
theorem TupAt.mono {H H' : Hp} {a : Addr} {f : Bool} {xs : List V} (e : Kp H H') (h : TupAt H a f xs) : TupAt H' a f xs := by
  cases f with
  | true =>
    obtain ⟨o, ho, h⟩ := (show ∃ o : Obj, o.dict = none ∧ H a = some (.frz o (.tup xs)) from h)
    exact ⟨o, ho, (e a).2 o xs h⟩
  | false => exact (e a).1 xs h
theorem TupAt.sq {K : PySem.W.Frag} {H : Hp} {a : Addr} {f : Bool} {xs : List V} (h : TupAt H a f xs) : SqT K H a xs := by
  cases f with
  | true =>
    obtain ⟨o, ho, h⟩ := (show ∃ o : Obj, o.dict = none ∧ H a = some (.frz o (.tup xs)) from h)
    exact .inl (.inr ⟨o, h⟩)
  | false => exact .inl (.inl h)
mutual
theorem Rep.mono {H H' : Hp} (e : Kp H H') : ∀ {d : PyData} {v : V}, Rep H d v → Rep H' d v
  | .none, _, h => h
  | .bool _, _, h => h
  | .int _, _, h => h
  | .str _, _, h => h
  | .list _, _, h => h
  | .tuple _, _, ⟨a, xs, h1, h2, h3⟩ => ⟨a, xs, h1, h2.mono e, RepL.mono e h3⟩
  | .dict _, _, h => h
theorem RepL.mono {H H' : Hp} (e : Kp H H') : ∀ {ds : List PyData} {xs : List V}, RepL H ds xs → RepL H' ds xs
  | [], _, h => h
  | _ :: _, _, ⟨x, r, h1, h2, h3⟩ => ⟨x, r, h1, Rep.mono e h2, RepL.mono e h3⟩
end
mutual
theorem Rep.dp {K : PySem.W.Frag} {H : Hp} : ∀ {d : PyData} {v : V}, Rep H d v → Dp K H v d
  | .none, _, h => by cases (show _ = V.non from h); exact .non
  | .bool b, _, h => by cases (show _ = V.bl b from h); exact .bl b
  | .int i, _, h => by cases (show _ = V.int i from h); exact .int i
  | .str s, _, h => by cases (show _ = V.str s from h); exact .str s
  | .list _, _, h => by cases h
  | .tuple _, _, ⟨a, xs, h1, h2, h3⟩ => by cases h1; exact .tup h2.sq (RepL.dp h3)
  | .dict _, _, h => by cases h
theorem RepL.dp {K : PySem.W.Frag} {H : Hp} : ∀ {ds : List PyData} {xs : List V}, RepL H ds xs → DpAll K H xs ds
  | [], _, h => by cases (show _ = [] from h); exact .nil
  | _ :: _, _, ⟨x, r, h1, h2, h3⟩ => by cases h1; exact .cons (Rep.dp h2) (RepL.dp h3)
end
section
variable {H H' : Hp} {ds es : List PyData} {xs ys : List V} {d : PyData} {v : V}
theorem RepL.length : ∀ {ds : List PyData} {xs : List V}, RepL H ds xs → xs.length = ds.length
  | [], _, h => by cases (show _ = [] from h); rfl
  | _ :: _, _, ⟨x, r, h1, _, h3⟩ => by cases h1; rw [List.length_cons, List.length_cons, RepL.length h3]
theorem RepL.get : ∀ {ds : List PyData} {xs : List V} {i : Nat} {x : V}, RepL H ds xs → xs[i]? = some x → ∃ d, ds[i]? = some d ∧ Rep H d x
  | [], _, i, x, h, e => by cases (show _ = [] from h); cases e
  | d :: _, _, 0, x, ⟨y, r, h1, h2, _⟩, e => by cases h1; cases e; exact ⟨d, rfl, h2⟩
  | _ :: _, _, i + 1, x, ⟨y, r, h1, _, h3⟩, e => by cases h1; exact RepL.get (i := i) h3 (show r[i]? = some _ from e)
theorem RepL.at : ∀ {ds : List PyData} {xs : List V} {i : Nat} {d : PyData}, RepL H ds xs → ds[i]? = some d → ∃ x, xs[i]? = some x ∧ Rep H d x
  | [], _, i, x, h, e => by cases e
  | d :: _, _, 0, _, ⟨y, r, h1, h2, _⟩, e => by cases h1; cases e; exact ⟨y, rfl, h2⟩
  | _ :: _, _, i + 1, _, ⟨y, r, h1, _, h3⟩, e => by cases h1; exact RepL.at (i := i) h3 (show (_ : List PyData)[i]? = some _ from e)
theorem RepL.append : ∀ {ds es : List PyData} {xs ys : List V}, RepL H ds xs → RepL H es ys → RepL H (ds ++ es) (xs ++ ys)
  | [], _, _, _, h, k => by cases (show _ = [] from h); exact k
  | _ :: _, _, _, _, ⟨x, r, h1, h2, h3⟩, k => by cases h1; exact ⟨x, _, rfl, h2, RepL.append h3 k⟩
theorem RepL.one (h : Rep H d v) : RepL H [d] [v] := ⟨v, [], rfl, h, rfl⟩
theorem RepL.snoc (h : RepL H ds xs) (k : Rep H d v) : RepL H (ds ++ [d]) (xs ++ [v]) := h.append (.one k)
theorem RepL.take : ∀ {ds : List PyData} {xs : List V} (n : Nat), RepL H ds xs → RepL H (ds.take n) (xs.take n)
  | _, _, 0, _ => rfl
  | [], _, n + 1, h => by cases (show _ = [] from h); rfl
  | _ :: _, _, n + 1, ⟨x, r, h1, h2, h3⟩ => by cases h1; exact ⟨x, _, rfl, h2, RepL.take n h3⟩
theorem RepL.drop : ∀ {ds : List PyData} {xs : List V} (n : Nat), RepL H ds xs → RepL H (ds.drop n) (xs.drop n)
  | _, _, 0, h => h
  | [], _, n + 1, h => by cases (show _ = [] from h); rfl
  | _ :: _, _, n + 1, ⟨x, r, h1, h2, h3⟩ => by cases h1; exact RepL.drop n h3
theorem RepL.set : ∀ {ds : List PyData} {xs : List V} (n : Nat), RepL H ds xs → Rep H d v → RepL H (ds.set n d) (xs.set n v)
  | [], _, _, h, _ => by cases (show _ = [] from h); rfl
  | _ :: _, _, 0, ⟨x, r, h1, h2, h3⟩, k => by cases h1; exact ⟨v, r, rfl, k, h3⟩
  | _ :: _, _, n + 1, ⟨x, r, h1, h2, h3⟩, k => by cases h1; exact ⟨x, _, rfl, h2, RepL.set n h3 k⟩
theorem RepL.ints : ∀ {ns : List Int} {xs : List V}, RepL H (ns.map .int) xs → xs = ns.map V.int
  | [], _, h => h
  | _ :: _, _, ⟨x, r, h1, h2, h3⟩ => by cases h1; cases (show x = _ from h2); rw [RepL.ints h3]; rfl
theorem RepL.bls : ∀ {ns : List Bool} {xs : List V}, RepL H (ns.map .bool) xs → xs = ns.map V.bl
  | [], _, h => h
  | _ :: _, _, ⟨x, r, h1, h2, h3⟩ => by cases h1; cases (show x = _ from h2); rw [RepL.bls h3]; rfl
theorem RepL.strs : ∀ {ns : List Str} {xs : List V}, RepL H (ns.map .str) xs → xs = ns.map V.str
  | [], _, h => h
  | _ :: _, _, ⟨x, r, h1, h2, h3⟩ => by cases h1; cases (show x = _ from h2); rw [RepL.strs h3]; rfl
theorem RepL.ofInts : ∀ {ns : List Int}, RepL H (ns.map .int) (ns.map V.int)
  | [] => rfl
  | n :: _ => ⟨.int n, _, rfl, rfl, RepL.ofInts⟩
theorem RepL.ofBls : ∀ {ns : List Bool}, RepL H (ns.map .bool) (ns.map V.bl)
  | [] => rfl
  | n :: _ => ⟨.bl n, _, rfl, rfl, RepL.ofBls⟩
theorem RepL.ofStrs : ∀ {ns : List Str}, RepL H (ns.map .str) (ns.map V.str)
  | [] => rfl
  | n :: _ => ⟨.str n, _, rfl, rfl, RepL.ofStrs⟩
theorem RepL.two {a b : PyData} (h : RepL H [a, b] xs) : ∃ x y, xs = [x, y] ∧ Rep H a x ∧ Rep H b y := by
  obtain ⟨x, r, h1, h2, y, r2, h3, h4, h5⟩ := h
  cases (show r2 = [] from h5)
  exact ⟨x, y, by rw [h1, h3], h2, h4⟩
theorem RepL.three {a b c : PyData} (h : RepL H [a, b, c] xs) : ∃ x y z, xs = [x, y, z] ∧ Rep H a x ∧ Rep H b y ∧ Rep H c z := by
  obtain ⟨x, r, h1, h2, y, r2, h3, h4, z, r3, h5, h6, h7⟩ := h
  cases (show r3 = [] from h7)
  exact ⟨x, y, z, by rw [h1, h3, h5], h2, h4, h6⟩
theorem RepL.onlyOne {a : PyData} (h : RepL H [a] xs) : ∃ x, xs = [x] ∧ Rep H a x := by
  obtain ⟨x, r, h1, h2, h5⟩ := h
  cases (show r = [] from h5)
  exact ⟨x, h1, h2⟩
theorem RepL.none : RepL H [] xs ↔ xs = [] := Iff.rfl
theorem Rep.tupI {ns : List Int} (h : Rep H (.tuple (ns.map .int)) v) : ∃ a, v = .ref a ∧ H a = some (.tup (ns.map V.int)) := by
  obtain ⟨a, xs, h1, h2, h3⟩ := h
  have hv : vst (ns.map .int) = false := by cases ns <;> rfl
  rw [hv] at h2
  rw [RepL.ints h3] at h2
  exact ⟨a, h1, h2⟩
theorem Rep.ofTupI {ns : List Int} {a : Addr} (h : H a = some (.tup (ns.map V.int))) : Rep H (.tuple (ns.map .int)) (.ref a) := by
  have hv : vst (ns.map .int) = false := by cases ns <;> rfl
  exact ⟨a, _, rfl, by rw [hv]; exact h, RepL.ofInts⟩
theorem Rep.seq {K : PySem.W.Frag} (h : Rep H (.tuple ds) v) : ∃ a xs, v = .ref a ∧ SqT K H a xs ∧ RepL H ds xs := by
  obtain ⟨a, xs, h1, h2, h3⟩ := h
  exact ⟨a, xs, h1, h2.sq, h3⟩
end
end J
/-! Expressions that evaluate to data and leave all that was known as it was. -/
namespace J
open PySem PySem.Spec PyProof.Rows L2

structure WC (X : Cx) (op : CmpOp) (a b : Expr) (σ : L2.St) (H : Hp) (Q : VK) : Prop where
  run : ∀ (pins : List (Addr × Obj)) (s : Shared), Inv X pins σ H s →
  wpAny (model X.prog X.w) X.A (eval a X.env) (fun v s₁ => wpAny (model X.prog X.w) X.A (eval b X.env) (fun u s₂ => wpAny (model X.prog X.w) X.A (compareOp op v u) (EP X pins σ Q) X.xe s₂) X.xe s₁) X.xe s
def Mono (P : V → Hp → Prop) : Prop := ∀ v H H', Same H H' → P v H → P v H'
/-- evaluates to something of which P holds -/
def EE (X : Cx) (e : Expr) (σ : L2.St) (H : Hp) (P : V → Hp → Prop) : Prop := ∀ H1, Same H H1 → WE X e σ H1 fun v H2 => Same H1 H2 ∧ P v H2
/-- .. to a datum; to the value v; to a tuple of these (read only); to a list of these; to a new list of these -/
abbrev DE (X : Cx) (e : Expr) (σ : L2.St) (H : Hp) (d : PyData) : Prop := EE X e σ H fun v H2 => Rep H2 d v
abbrev VE (X : Cx) (e : Expr) (σ : L2.St) (H : Hp) (v : V) : Prop := EE X e σ H fun u _ => u = v
abbrev UE (X : Cx) (e : Expr) (σ : L2.St) (H : Hp) (ds : List PyData) : Prop := EE X e σ H fun v H2 => ∃ a xs, v = .ref a ∧ SqT X.K H2 a xs ∧ RepL H2 ds xs
abbrev LV (X : Cx) (e : Expr) (σ : L2.St) (H : Hp) (ds : List PyData) : Prop := EE X e σ H fun v H2 => ∃ a xs, v = .ref a ∧ SqL X.K H2 a xs ∧ RepL H2 ds xs
def LE (X : Cx) (e : Expr) (σ : L2.St) (H : Hp) (ds : List PyData) : Prop := ∀ H1, Same H H1 → WE X e σ H1 fun v H2 => Same H1 H2 ∧ ∃ l xs, v = .ref l ∧ H1 l = none ∧ H2 l = some (.lst xs) ∧ RepL H2 ds xs
/-- a test -/
def BT (X : Cx) (e : Expr) (σ : L2.St) (H : Hp) (b : Bool) : Prop := ∀ H1, Same H H1 → WT X e σ H1 fun k H2 => Same H1 H2 ∧ k = b
/-- arguments -/
def AA (X : Cx) (es : List Expr) (σ : L2.St) (H : Hp) (P : List V → Hp → Prop) : Prop := ∀ H1, Same H H1 → WA X es σ H1 fun vs H2 => Same H1 H2 ∧ P vs H2
abbrev AE (X : Cx) (es : List Expr) (σ : L2.St) (H : Hp) (ds : List PyData) : Prop := AA X es σ H fun vs H2 => RepL H2 ds vs
def CE (X : Cx) (op : CmpOp) (a b : Expr) (σ : L2.St) (H : Hp) (k : Bool) : Prop := ∀ H1, Same H H1 → WC X op a b σ H1 fun z H2 => Same H1 H2 ∧ z = .bl k

section
variable {X : Cx} {e a b c : Expr} {es : List Expr} {σ : L2.St} {H H' H1 : Hp} {Q Q' : VK} {pos : Pos} {D : Ends} {P Pa Pb : V → Hp → Prop} {d d1 d2 : PyData} {ds ds2 : List PyData} {v : V} {k m : Bool} {i j : Int} {x y : Str} {op : CmpOp}
theorem wc_of {t : TE} (h : PC X op a b t) (q : t σ H Q) : WC X op a b σ H Q := ⟨fun pins s I => h.run pins s σ H Q I q⟩
theorem pc_wc : PC X op a b (WC X op a b) := ⟨fun pins s _ _ _ I h => h.run pins s I⟩
theorem wc_op {r : R2} (ho : OpR X (compareOp op) r) (q : WE X a σ H fun x H1 => WE X b σ H1 fun y H2 => r x y H2 Q) : WC X op a b σ H Q := ⟨fun pins s I =>
  binT pe_we pe_we I q fun v u s2 x y H2 I2 rx ry z => ho pins s2 σ H2 x y v u Q I2 rx ry z⟩
theorem we_wc (q : WC X op a b σ H Q) (hm : behindInMarks op b = false) : WE X (.Compare a [op] [b] pos) σ H Q := we_of (pe_cmp pc_wc hm) q
theorem wt_wc {Q : Bool → Hp → Prop} (q : WC X op a b σ H fun x H1 => ∃ k, x = .bl k ∧ Q k H1) (hm : behindInMarks op b = false) : WT X (.Compare a [op] [b] pos) σ H Q := wt_of (pt_cmp pc_wc hm) q
theorem WC.mono (h : WC X op a b σ H Q) (k : ∀ v H', Q v H' → Q' v H') : WC X op a b σ H Q' := ⟨fun pins s I => thn (h.run pins s I) fun v s1 z => thn z fun u s2 z => thn z fun w s3 ⟨v, H', I', r, q⟩ => ⟨v, H', I', r, k v H' q⟩⟩

theorem mono_rep : Mono fun v H2 => Rep H2 d v := fun _ _ _ e h => h.mono (.of e)
theorem mono_eq : Mono fun u _ => u = v := fun _ _ _ _ h => h
theorem sqt_same {K : PySem.W.Frag} {p : Addr} {xs : List V} (e : Same H H') (h : SqT K H p xs) : SqT K H' p xs := by
  rcases h with (h | ⟨o, h⟩) | h
  · exact .inl (.inl (e _ _ h))
  · exact .inl (.inr ⟨o, e _ _ h⟩)
  · exact .inr h
theorem mono_ue : Mono fun v H2 => ∃ a xs, v = .ref a ∧ SqT X.K H2 a xs ∧ RepL H2 ds xs := fun _ _ _ e ⟨a, xs, h1, h2, h3⟩ => ⟨a, xs, h1, sqt_same e h2, h3.mono (.of e)⟩
theorem mono_lv : Mono fun v H2 => ∃ a xs, v = .ref a ∧ SqL X.K H2 a xs ∧ RepL H2 ds xs := fun _ _ _ e ⟨a, xs, h1, h2, h3⟩ => ⟨a, xs, h1, e.seq h2, h3.mono (.of e)⟩
/-- use: then what follows -/
theorem EE.go (h : EE X e σ H P) (s : Same H H1) (k : ∀ v H2, Same H1 H2 → P v H2 → Q v H2) : WE X e σ H1 Q := (h H1 s).mono fun v H2 z => k v H2 z.1 z.2
theorem EE.imp (h : EE X e σ H P) (k : ∀ v H2, Same H H2 → P v H2 → Pa v H2) : EE X e σ H Pa := fun H1 s => h.go s fun v H2 s2 p => ⟨s2, k v H2 (s.trans s2) p⟩
theorem EE.up (s : Same H H') (h : EE X e σ H P) : EE X e σ H' P := fun H1 s1 => h H1 (s.trans s1)
theorem LE.up (s : Same H H') (h : LE X e σ H ds) : LE X e σ H' ds := fun H1 s1 => h H1 (s.trans s1)
theorem LE.go (h : LE X e σ H ds) (s : Same H H1) (k : ∀ l xs H2, Same H1 H2 → H1 l = none → H2 l = some (.lst xs) → RepL H2 ds xs → Q (.ref l) H2) : WE X e σ H1 Q := (h H1 s).mono fun v H2 ⟨s2, l, xs, z1, z2, z3, z4⟩ => by
  subst z1
  exact k l xs H2 s2 z2 z3 z4
theorem LE.lv (h : LE X e σ H ds) : LV X e σ H ds := fun H1 s => (h H1 s).mono fun v H2 ⟨s2, l, xs, z1, _, z3, z4⟩ => ⟨s2, l, xs, z1, SqL.of z3, z4⟩
theorem LE.is (h : LE X e σ H ds) (q : ds = ds2) : LE X e σ H ds2 := q ▸ h
theorem DE.is (h : DE X e σ H d) (q : d = d2) : DE X e σ H d2 := q ▸ h
theorem DE.ue (h : DE X e σ H (.tuple ds)) : UE X e σ H ds := h.imp fun v H2 _ r => r.seq
theorem BT.go (h : BT X e σ H k) (s : Same H H1) {Q : Bool → Hp → Prop} (q : ∀ H2, Same H1 H2 → Q k H2) : WT X e σ H1 Q := (h H1 s).mono fun v H2 z => by
  obtain ⟨z1, z2⟩ := z
  subst z2
  exact q H2 z1
theorem BT.up (s : Same H H') (h : BT X e σ H k) : BT X e σ H' k := fun H1 s1 => h H1 (s.trans s1)
theorem BT.is (h : BT X e σ H k) (q : k = m) : BT X e σ H m := q ▸ h
theorem AA.go {P : List V → Hp → Prop} (h : AA X es σ H P) (s : Same H H1) {Q : List V → Hp → Prop} (k : ∀ v H2, Same H1 H2 → P v H2 → Q v H2) : WA X es σ H1 Q := (h H1 s).mono fun v H2 z => k v H2 z.1 z.2
theorem CE.go (h : CE X op a b σ H k) (s : Same H H1) (q : ∀ H2, Same H1 H2 → Q (.bl k) H2) : WC X op a b σ H1 Q := (h H1 s).mono fun v H2 z => by
  obtain ⟨z1, z2⟩ := z
  subst z2
  exact q H2 z1

/-! ### names, constants -/
theorem ve_var (i : Nat) {x : Str} {p : Pos} (h : σ[i]? = some (some v) := by rfl) (hN : X.N[i]? = some x := by rfl) (hv : Vis X.env.scope x := by first | exact Or.inl rfl | exact Or.inr (Or.inl rfl) | exact Or.inr (Or.inr rfl))
    (hd : (x == ("__debug__" : Str)) = false := by decide) (hcd : (x == ("__classdict__" : Str)) = false := by decide) : VE X (.Name x p) σ H v := fun H1 _ => we_of (pe_var hN hv hd hcd) ⟨v, h, Same.refl H1, rfl⟩
theorem de_var (i : Nat) {x : Str} {p : Pos} (r : Rep H d v) (h : σ[i]? = some (some v) := by rfl) (hN : X.N[i]? = some x := by rfl) (hv : Vis X.env.scope x := by first | exact Or.inl rfl | exact Or.inr (Or.inl rfl) | exact Or.inr (Or.inr rfl))
    (hd : (x == ("__debug__" : Str)) = false := by decide) (hcd : (x == ("__classdict__" : Str)) = false := by decide) : DE X (.Name x p) σ H d := fun H1 s => we_of (pe_var hN hv hd hcd) ⟨v, h, Same.refl H1, r.mono (.of s)⟩
theorem ve_de (h : VE X e σ H v) (r : Rep H d v) : DE X e σ H d := fun H1 s => h.go s fun u H2 s2 z => by
  subst z
  exact ⟨s2, r.mono (.of (s.trans s2))⟩
theorem ve_lv {p : Addr} {xs : List V} (h : VE X e σ H (.ref p)) (r : SqL X.K H p xs) (q : RepL H ds xs) : LV X e σ H ds := fun H1 s => h.go s fun u H2 s2 z => by
  subst z
  exact ⟨s2, p, xs, rfl, (s.trans s2).seq r, q.mono (.of (s.trans s2))⟩
theorem ve_ue {p : Addr} {xs : List V} (h : VE X e σ H (.ref p)) (r : SqT X.K H p xs) (q : RepL H ds xs) : UE X e σ H ds := fun H1 s => h.go s fun u H2 s2 z => by
  subst z
  exact ⟨s2, p, xs, rfl, sqt_same (s.trans s2) r, q.mono (.of (s.trans s2))⟩
theorem de_int {n : Nat} : DE X (.Constant (.int i) n pos) σ H (.int i) := fun H1 _ => we_of pe_int ⟨Same.refl H1, rfl⟩
theorem de_str {n : Nat} : DE X (.Constant (.str x) n pos) σ H (.str x) := fun H1 _ => we_of pe_str ⟨Same.refl H1, rfl⟩
theorem de_bl {n : Nat} : DE X (.Constant (.bool k) n pos) σ H (.bool k) := fun H1 _ => we_of pe_bl ⟨Same.refl H1, rfl⟩
theorem de_non {n : Nat} : DE X (.Constant .none n pos) σ H .none := fun H1 _ => we_of pe_non ⟨Same.refl H1, rfl⟩
theorem de_gint {p : Pos} (hm : ∃ t, X.mg x = some (.int i t)) (hg : Gl X x := by rfl) (hd : (x == ("__debug__" : Str)) = false := by decide) : DE X (.Name x p) σ H (.int i) := fun H1 _ => by
  obtain ⟨t, hm⟩ := hm
  exact we_of (pe_glob (v := .int i) hg hm ⟨t, rfl⟩ hd) ⟨Same.refl H1, rfl⟩
theorem de_gstr {p : Pos} (hm : ∃ t, X.mg x = some (.str y t)) (hg : Gl X x := by rfl) (hd : (x == ("__debug__" : Str)) = false := by decide) : DE X (.Name x p) σ H (.str y) := fun H1 _ => by
  obtain ⟨t, hm⟩ := hm
  exact we_of (pe_glob (v := .str y) hg hm ⟨t, rfl⟩ hd) ⟨Same.refl H1, rfl⟩

/-! ### operators -/
theorem ee_op {o : Operator} {r : R2} (ho : OpR X (binaryOp o) r) (ma : Mono Pa) (ha : EE X a σ H Pa) (hb : EE X b σ H Pb) (hr : ∀ x y H2, Same H H2 → Pa x H2 → Pb y H2 → r x y H2 fun z H3 => Same H2 H3 ∧ P z H3) (mr : ∀ x y H Q Q', (∀ v H', Q v H' → Q' v H') → r x y H Q → r x y H Q') :
    EE X (.BinOp a o b pos) σ H P := fun H1 s => we_op ho (ha.go s fun x H2 s2 px => hb.go (s.trans s2) fun y H3 s3 py =>
      mr _ _ _ _ _ (fun v H' z => ⟨(s2.trans s3).trans z.1, z.2⟩) (hr x y H3 ((s.trans s2).trans s3) (ma _ _ _ s3 px) py))
theorem rI0_mono {g : Int → Int → V} : ∀ x y H Q Q', (∀ v H', Q v H' → Q' v H') → rI0 g x y H Q → rI0 g x y H Q' := fun _ _ _ _ _ k ⟨i, j, h1, h2, q⟩ => ⟨i, j, h1, h2, k _ _ q⟩
theorem rI_mono {C : Int → Int → Prop} {g : Int → Int → V} : ∀ x y H Q Q', (∀ v H', Q v H' → Q' v H') → rI C g x y H Q → rI C g x y H Q' := fun _ _ _ _ _ k ⟨i, j, h1, h2, c, q⟩ => ⟨i, j, h1, h2, c, k _ _ q⟩
theorem de_add (ha : DE X a σ H (.int i)) (hb : DE X b σ H (.int j)) : DE X (.BinOp a .Add b pos) σ H (.int (i + j)) :=
  ee_op op_add mono_rep ha hb (fun x y H2 _ h1 h2 => ⟨i, j, h1, h2, Same.refl H2, rfl⟩) rI0_mono
theorem de_sub (ha : DE X a σ H (.int i)) (hb : DE X b σ H (.int j)) : DE X (.BinOp a .Sub b pos) σ H (.int (i - j)) :=
  ee_op op_sub mono_rep ha hb (fun x y H2 _ h1 h2 => ⟨i, j, h1, h2, Same.refl H2, rfl⟩) rI0_mono
theorem de_mul (ha : DE X a σ H (.int i)) (hb : DE X b σ H (.int j)) (hc : CMul i j) : DE X (.BinOp a .Mult b pos) σ H (.int (i * j)) :=
  ee_op op_mul mono_rep ha hb (fun x y H2 _ h1 h2 => ⟨i, j, h1, h2, hc, Same.refl H2, rfl⟩) rI_mono
theorem de_mod (ha : DE X a σ H (.int i)) (hb : DE X b σ H (.int j)) (hc : 0 < j) : DE X (.BinOp a .Mod b pos) σ H (.int (i % j)) :=
  ee_op op_mod mono_rep ha hb (fun x y H2 _ h1 h2 => ⟨i, j, h1, h2, hc, Same.refl H2, rfl⟩) rI_mono
theorem de_fdiv (ha : DE X a σ H (.int i)) (hb : DE X b σ H (.int j)) (hc : 0 < j ∧ j < 1073741824) : DE X (.BinOp a .FloorDiv b pos) σ H (.int (i / j)) :=
  ee_op op_fdiv mono_rep ha hb (fun x y H2 _ h1 h2 => ⟨i, j, h1, h2, hc, Same.refl H2, rfl⟩) rI_mono
theorem de_pow (ha : DE X a σ H (.int i)) (hb : DE X b σ H (.int j)) (hc : CPow i j) : DE X (.BinOp a .Pow b pos) σ H (.int (i ^ j.toNat)) :=
  ee_op op_pow mono_rep ha hb (fun x y H2 _ h1 h2 => ⟨i, j, h1, h2, hc, Same.refl H2, rfl⟩) rI_mono
theorem de_adds (ha : DE X a σ H (.str x)) (hb : DE X b σ H (.str y)) (hz : x.length + y.length ≤ sizeLine) : DE X (.BinOp a .Add b pos) σ H (.str (x ++ y)) :=
  ee_op op_add_str mono_rep ha hb (fun _ _ H2 _ h1 h2 => ⟨x, y, h1, h2, hz, Same.refl H2, rfl⟩) fun _ _ _ _ _ k ⟨i, j, h1, h2, c, q⟩ => ⟨i, j, h1, h2, c, k _ _ q⟩
/-- t + u of tuples -/
theorem de_addt (ha : DE X a σ H (.tuple ds)) (hb : DE X b σ H (.tuple ds2)) (hz : ds.length + ds2.length ≤ sizeLine) (hv : ds ≠ [] → ds2 ≠ [] → vst (ds ++ ds2) = false) : DE X (.BinOp a .Add b pos) σ H (.tuple (ds ++ ds2)) :=
  ee_op op_catA mono_rep ha hb (fun x y H2 _ h1 h2 => by
    obtain ⟨p, xs, rfl, t1, r1⟩ := h1
    obtain ⟨q, ys, rfl, t2, r2⟩ := h2
    refine ⟨p, q, xs, ys, rfl, rfl, t1.sq, t2.sq, by rw [r1.length, r2.length]; exact hz, fun e => ?_, fun e1 e2 => ?_, fun e1 e2 z hz' => ?_⟩
    · subst e
      have : ds = [] := List.length_eq_zero_iff.mp r1.length.symm
      subst this
      exact ⟨Same.refl H2, q, ys, rfl, t2, r2⟩
    · subst e2
      have : ds2 = [] := List.length_eq_zero_iff.mp r2.length.symm
      subst this
      rw [List.append_nil]
      exact ⟨Same.refl H2, p, xs, rfl, t1, r1⟩
    · refine ⟨Same.new hz', z, xs ++ ys, rfl, ?_, (r1.append r2).mono (.new hz')⟩
      rw [hv (fun e => e1 (by subst e; exact r1)) fun e => e2 (by subst e; exact r2)]
      exact upd_same) fun _ _ _ _ _ k ⟨p, q, xs, ys, h1, h2, h3, h4, h5, h6, h7, h8⟩ => ⟨p, q, xs, ys, h1, h2, h3, h4, h5, fun e => k _ _ (h6 e), fun e1 e2 => k _ _ (h7 e1 e2), fun e1 e2 z hz => k _ _ (h8 e1 e2 z hz)⟩
theorem de_neg (ha : DE X a σ H (.int i)) : DE X (.UnaryOp .USub a pos) σ H (.int (-i)) := fun H1 s => we_of (pe_un un_neg pe_we) (ha.go s fun x H2 s2 h => ⟨i, h, s2, rfl⟩)

/-! ### comparisons -/
theorem de_cmp (h : CE X op a b σ H k) (hm : behindInMarks op b = false := by first | exact nomark _ | rfl) : DE X (.Compare a [op] [b] pos) σ H (.bool k) := fun H1 s => we_wc ((h H1 s).mono fun v H2 z => z) hm
theorem bt_cmp (h : CE X op a b σ H k) (hm : behindInMarks op b = false := by first | exact nomark _ | rfl) : BT X (.Compare a [op] [b] pos) σ H k := fun H1 s => wt_wc ((h H1 s).mono fun v H2 z => ⟨k, z.2, z.1, rfl⟩) hm
theorem ce_op {r : R2} (ho : OpR X (compareOp op) r) (ma : Mono Pa) (ha : EE X a σ H Pa) (hb : EE X b σ H Pb) (hr : ∀ x y H2, Same H H2 → Pa x H2 → Pb y H2 → r x y H2 fun z H3 => Same H2 H3 ∧ z = .bl k) (mr : ∀ x y H Q Q', (∀ v H', Q v H' → Q' v H') → r x y H Q → r x y H Q') :
    CE X op a b σ H k := fun H1 s => wc_op ho (ha.go s fun x H2 s2 px => hb.go (s.trans s2) fun y H3 s3 py =>
      mr _ _ _ _ _ (fun v H' z => ⟨(s2.trans s3).trans z.1, z.2⟩) (hr x y H3 ((s.trans s2).trans s3) (ma _ _ _ s3 px) py))
theorem ce_lt (ha : DE X a σ H (.int i)) (hb : DE X b σ H (.int j)) : CE X .Lt a b σ H (decide (i < j)) := ce_op op_lt mono_rep ha hb (fun x y H2 _ h1 h2 => ⟨i, j, h1, h2, Same.refl H2, rfl⟩) rI0_mono
theorem ce_le (ha : DE X a σ H (.int i)) (hb : DE X b σ H (.int j)) : CE X .LtE a b σ H (decide (i ≤ j)) := ce_op op_le mono_rep ha hb (fun x y H2 _ h1 h2 => ⟨i, j, h1, h2, Same.refl H2, rfl⟩) rI0_mono
theorem ce_gt (ha : DE X a σ H (.int i)) (hb : DE X b σ H (.int j)) : CE X .Gt a b σ H (decide (j < i)) := ce_op op_gt mono_rep ha hb (fun x y H2 _ h1 h2 => ⟨i, j, h1, h2, Same.refl H2, rfl⟩) rI0_mono
theorem ce_ge (ha : DE X a σ H (.int i)) (hb : DE X b σ H (.int j)) : CE X .GtE a b σ H (decide (j ≤ i)) := ce_op op_ge mono_rep ha hb (fun x y H2 _ h1 h2 => ⟨i, j, h1, h2, Same.refl H2, rfl⟩) rI0_mono
theorem rEq_mono : ∀ x y H Q Q', (∀ v H', Q v H' → Q' v H') → rEq x y H Q → rEq x y H Q' := fun _ _ _ _ _ k ⟨c, q⟩ => ⟨c, k _ _ q⟩
theorem rNe_mono : ∀ x y H Q Q', (∀ v H', Q v H' → Q' v H') → rNe x y H Q → rNe x y H Q' := fun _ _ _ _ _ k ⟨c, q⟩ => ⟨c, k _ _ q⟩
theorem dec_vint : decide (V.int i = V.int j) = decide (i = j) := decide_eq_decide.mpr ⟨fun e => by injection e, fun e => by rw [e]⟩
theorem dec_vstr : decide (V.str x = V.str y) = decide (x = y) := decide_eq_decide.mpr ⟨fun e => by injection e, fun e => by rw [e]⟩
theorem ce_eq (ha : DE X a σ H (.int i)) (hb : DE X b σ H (.int j)) : CE X .Eq a b σ H (decide (i = j)) := ce_op op_eq mono_rep ha hb (fun x y H2 _ h1 h2 => by cases (show x = _ from h1); cases (show y = _ from h2); exact ⟨rfl, Same.refl H2, by rw [dec_vint]⟩) rEq_mono
theorem ce_ne (ha : DE X a σ H (.int i)) (hb : DE X b σ H (.int j)) : CE X .NotEq a b σ H (!decide (i = j)) := ce_op op_ne mono_rep ha hb (fun x y H2 _ h1 h2 => by cases (show x = _ from h1); cases (show y = _ from h2); exact ⟨rfl, Same.refl H2, by rw [dec_vint]⟩) rNe_mono
theorem ce_eqs (ha : DE X a σ H (.str x)) (hb : DE X b σ H (.str y)) : CE X .Eq a b σ H (decide (x = y)) := ce_op op_eq mono_rep ha hb (fun x y H2 _ h1 h2 => by cases (show x = _ from h1); cases (show y = _ from h2); exact ⟨rfl, Same.refl H2, by rw [dec_vstr]⟩) rEq_mono
theorem ce_nes (ha : DE X a σ H (.str x)) (hb : DE X b σ H (.str y)) : CE X .NotEq a b σ H (!decide (x = y)) := ce_op op_ne mono_rep ha hb (fun x y H2 _ h1 h2 => by cases (show x = _ from h1); cases (show y = _ from h2); exact ⟨rfl, Same.refl H2, by rw [dec_vstr]⟩) rNe_mono
theorem ce_lts (ha : DE X a σ H (.str x)) (hb : DE X b σ H (.str y)) : CE X .Lt a b σ H (decide (x.cps.toList < y.cps.toList)) := ce_op op_lt_str mono_rep ha hb (fun _ _ H2 _ h1 h2 => ⟨x, y, h1, h2, Same.refl H2, rfl⟩) fun _ _ _ _ _ k ⟨i, j, h1, h2, q⟩ => ⟨i, j, h1, h2, k _ _ q⟩
theorem ce_ltt {ns ms : List Int} (hu : X.A.units < cLine) (ha : DE X a σ H (.tuple (ns.map .int))) (hb : DE X b σ H (.tuple (ms.map .int))) : CE X .Lt a b σ H (HT.lexLt ns ms) := ce_op (op_ltT hu) mono_rep ha hb (fun x y H2 _ h1 h2 => by
    obtain ⟨p, e1, t1⟩ := h1.tupI
    obtain ⟨q, e2, t2⟩ := h2.tupI
    exact ⟨p, q, ns, ms, e1, e2, SqT.of t1, SqT.of t2, Same.refl H2, rfl⟩) fun _ _ _ _ _ k ⟨p, q, ns, ms, h1, h2, h3, h4, z⟩ => ⟨p, q, ns, ms, h1, h2, h3, h4, k _ _ z⟩
theorem ce_eqd (hu : X.A.units + 64 < cLine) (ha : DE X a σ H d1) (hb : DE X b σ H d2) (s1 : SeqAt.shaped d1 = true) (s2 : SeqAt.shaped d2 = true) : CE X .Eq a b σ H (PyData.eqv d1 d2) :=
  ce_op (op_eqD hu) mono_rep ha hb (fun x y H2 _ h1 h2 => ⟨d1, d2, h1.dp, h2.dp, s1, s2, Same.refl H2, rfl⟩) fun _ _ _ _ _ k ⟨p, q, h1, h2, h3, h4, z⟩ => ⟨p, q, h1, h2, h3, h4, k _ _ z⟩
theorem ce_ned (hu : X.A.units + 64 < cLine) (ha : DE X a σ H d1) (hb : DE X b σ H d2) (s1 : SeqAt.shaped d1 = true) (s2 : SeqAt.shaped d2 = true) : CE X .NotEq a b σ H (!PyData.eqv d1 d2) :=
  ce_op (op_neD hu) mono_rep ha hb (fun x y H2 _ h1 h2 => ⟨d1, d2, h1.dp, h2.dp, s1, s2, Same.refl H2, rfl⟩) fun _ _ _ _ _ k ⟨p, q, h1, h2, h3, h4, z⟩ => ⟨p, q, h1, h2, h3, h4, k _ _ z⟩
theorem ce_isN (ha : EE X a σ H P) {n : Nat} {p2 : Pos} (hp : ∀ v H2, P v H2 → decide (v = V.non) = k) : CE X .Is a (.Constant .none n p2) σ H k := fun H1 s => wc_of (pc_isN pe_we) (ha.go s fun v H2 s2 h => ⟨s2, by rw [hp v H2 h]⟩)
theorem ce_notN (ha : EE X a σ H P) {n : Nat} {p2 : Pos} (hp : ∀ v H2, P v H2 → decide (v = V.non) = k) : CE X .IsNot a (.Constant .none n p2) σ H (!k) := fun H1 s => wc_of (pc_notN pe_we) (ha.go s fun v H2 s2 h => ⟨s2, by rw [hp v H2 h]⟩)
/-- x in t, flat things -/
def flatD : PyData → Bool
  | .none => true
  | .bool _ => true
  | .int _ => true
  | .str _ => true
  | _ => false
theorem flat_rep (h : Rep H d v) (f : flatD d = true) : flatV v = true := by
  cases d with
  | none => cases (show v = _ from h); rfl
  | bool _ => cases (show v = _ from h); rfl
  | int _ => cases (show v = _ from h); rfl
  | str _ => cases (show v = _ from h); rfl
  | _ => cases f
theorem flat_repL {xs : List V} : ∀ {ds : List PyData} {xs : List V}, RepL H ds xs → ds.all flatD = true → xs.all flatV = true
  | [], _, h, _ => by cases (show _ = [] from h); rfl
  | _ :: _, _, ⟨x, r, h1, h2, h3⟩, f => by
    cases h1
    rw [List.all_cons, Bool.and_eq_true] at f ⊢
    exact ⟨flat_rep h2 f.1, flat_repL (xs := r) h3 f.2⟩
theorem inV_strs : ∀ {ys : List Str}, inV (.str x) (ys.map V.str) = ys.contains x
  | [] => rfl
  | y :: ys => by
    rw [List.contains_cons]
    show (eqV (V.str y) (V.str x) || inV (.str x) (ys.map V.str)) = _
    rw [inV_strs (ys := ys)]
    show ((y == x) || _) = _
    rw [BEq.comm]
theorem inV_ints : ∀ {ys : List Int}, inV (.int i) (ys.map V.int) = ys.contains i
  | [] => rfl
  | y :: ys => by
    rw [List.contains_cons]
    show (eqV (V.int y) (V.int i) || inV (.int i) (ys.map V.int)) = _
    rw [inV_ints (ys := ys)]
    show ((y == i) || _) = _
    rw [BEq.comm]
theorem rIn_mono {n : Bool} {K : PySem.W.Frag} : ∀ x y H Q Q', (∀ v H', Q v H' → Q' v H') → rIn K n x y H Q → rIn K n x y H Q' := fun _ _ _ _ _ k ⟨p, xs, h1, h2, h3, h4, q⟩ => ⟨p, xs, h1, h2, h3, h4, k _ _ q⟩
theorem flat_ints : ∀ {ns : List Int}, (ns.map V.int).all flatV = true
  | [] => rfl
  | _ :: ns => by rw [List.map_cons, List.all_cons, flat_ints (ns := ns)]; rfl
theorem flat_strs' : ∀ {ns : List Str}, (ns.map V.str).all flatV = true
  | [] => rfl
  | _ :: ns => by rw [List.map_cons, List.all_cons, flat_strs' (ns := ns)]; rfl
/-- x in (a tuple or list of texts) -/
def QE (X : Cx) (e : Expr) (σ : L2.St) (H : Hp) (ds : List PyData) : Prop := EE X e σ H fun v H2 => ∃ a xs, v = .ref a ∧ (SqL X.K H2 a xs ∨ SqT X.K H2 a xs) ∧ RepL H2 ds xs
theorem UE.qe (h : UE X e σ H ds) : QE X e σ H ds := h.imp fun v H2 _ ⟨a, xs, h1, h2, h3⟩ => ⟨a, xs, h1, .inr h2, h3⟩
theorem LV.qe (h : LV X e σ H ds) : QE X e σ H ds := h.imp fun v H2 _ ⟨a, xs, h1, h2, h3⟩ => ⟨a, xs, h1, .inl h2, h3⟩
theorem DE.qe (h : DE X e σ H (.tuple ds)) : QE X e σ H ds := h.ue.qe
theorem LE.qe (h : LE X e σ H ds) : QE X e σ H ds := LV.qe h.lv
theorem ce_ins {ys : List Str} (ha : DE X a σ H (.str x)) (hb : QE X b σ H (ys.map .str)) : CE X .In a b σ H (ys.contains x) := ce_op op_in_seq mono_rep ha hb (fun u w H2 _ h1 ⟨p, xs, e, h2, h3⟩ => by
    cases (show u = _ from h1)
    rw [RepL.strs h3] at h2
    exact ⟨p, _, e, h2, rfl, flat_strs', Same.refl H2, by rw [inV_strs]; rfl⟩) rIn_mono
theorem ce_nins {ys : List Str} (ha : DE X a σ H (.str x)) (hb : QE X b σ H (ys.map .str)) : CE X .NotIn a b σ H (!ys.contains x) := ce_op op_notIn_seq mono_rep ha hb (fun u w H2 _ h1 ⟨p, xs, e, h2, h3⟩ => by
    cases (show u = _ from h1)
    rw [RepL.strs h3] at h2
    exact ⟨p, _, e, h2, rfl, flat_strs', Same.refl H2, by rw [inV_strs]; rfl⟩) rIn_mono
theorem ce_ini {ys : List Int} (ha : DE X a σ H (.int i)) (hb : QE X b σ H (ys.map .int)) : CE X .In a b σ H (ys.contains i) := ce_op op_in_seq mono_rep ha hb (fun u w H2 _ h1 ⟨p, xs, e, h2, h3⟩ => by
    cases (show u = _ from h1)
    rw [RepL.ints h3] at h2
    exact ⟨p, _, e, h2, rfl, flat_ints, Same.refl H2, by rw [inV_ints]; rfl⟩) rIn_mono
theorem ce_nini {ys : List Int} (ha : DE X a σ H (.int i)) (hb : QE X b σ H (ys.map .int)) : CE X .NotIn a b σ H (!ys.contains i) := ce_op op_notIn_seq mono_rep ha hb (fun u w H2 _ h1 ⟨p, xs, e, h2, h3⟩ => by
    cases (show u = _ from h1)
    rw [RepL.ints h3] at h2
    exact ⟨p, _, e, h2, rfl, flat_ints, Same.refl H2, by rw [inV_ints]; rfl⟩) rIn_mono
/-- c in a text, c one sign -/
theorem ce_sign {ch : Nat} (ha : DE X a σ H (.str ⟨#[ch]⟩)) (hb : DE X b σ H (.str y)) : CE X .In a b σ H (decide (ch ∈ y.cps.toList)) := ce_op op_in_sign mono_rep ha hb (fun u w H2 _ h1 h2 => ⟨ch, y, h1, h2, Same.refl H2, rfl⟩)
  fun _ _ _ _ _ k ⟨p, xs, h1, h2, q⟩ => ⟨p, xs, h1, h2, k _ _ q⟩
theorem ce_nsign {ch : Nat} (ha : DE X a σ H (.str ⟨#[ch]⟩)) (hb : DE X b σ H (.str y)) : CE X .NotIn a b σ H (!decide (ch ∈ y.cps.toList)) := ce_op op_notIn_sign mono_rep ha hb (fun u w H2 _ h1 h2 => ⟨ch, y, h1, h2, Same.refl H2, rfl⟩)
  fun _ _ _ _ _ k ⟨p, xs, h1, h2, q⟩ => ⟨p, xs, h1, h2, k _ _ q⟩

/-! ### tests, bools -/
theorem bt_val (h : DE X e σ H (.bool k)) (he : ∀ whole, isTrue e X.env whole = (do let v ← whole; standAt e.pos; holding [v] (truthy v)) := by intro _; rfl) : BT X e σ H k := fun H1 s => wt_val (h.go s fun v H2 s2 r => ⟨k, r, s2, rfl⟩) he
theorem bt_not (h : BT X e σ H k) : BT X (.UnaryOp .Not e pos) σ H (!k) := fun H1 s => wt_of (pt_not pt_we) (h.go s fun H2 s2 => ⟨s2, rfl⟩)
theorem bt_and (h1 : BT X a σ H k) (h2 : k = true → BT X b σ H m) : BT X (.BoolOp .And [a, b] pos) σ H (k && m) := fun H1 s => wt_of (PW.pt (pw_and pt_we (pw_and1 pt_we))) (h1.go s fun H2 s2 => by
    cases k with
    | true => exact iteT ((h2 rfl).go (s.trans s2) fun H3 s3 => ⟨s2.trans s3, rfl⟩)
    | false => exact iteF ⟨s2, rfl⟩)
theorem bt_or (h1 : BT X a σ H k) (h2 : k = false → BT X b σ H m) : BT X (.BoolOp .Or [a, b] pos) σ H (k || m) := fun H1 s => wt_of (PW.pt (pw_or pt_we (pw_or1 pt_we))) (h1.go s fun H2 s2 => by
    cases k with
    | false => exact iteF ((h2 rfl).go (s.trans s2) fun H3 s3 => ⟨s2.trans s3, rfl⟩)
    | true => exact iteT ⟨s2, rfl⟩)
theorem bt_or3 {l : Bool} (h1 : BT X a σ H k) (h2 : k = false → BT X b σ H m) (h3 : k = false → m = false → BT X c σ H l) : BT X (.BoolOp .Or [a, b, c] pos) σ H (k || (m || l)) := fun H1 s => wt_of (PW.pt (pw_or pt_we (pw_or pt_we (pw_or1 pt_we)))) (h1.go s fun H2 s2 => by
    cases k with
    | false => exact iteF ((h2 rfl).go (s.trans s2) fun H3 s3 => by
        cases m with
        | false => exact iteF ((h3 rfl rfl).go ((s.trans s2).trans s3) fun H4 s4 => ⟨(s2.trans s3).trans s4, rfl⟩)
        | true => exact iteT ⟨s2.trans s3, rfl⟩)
    | true => exact iteT ⟨s2, rfl⟩)
theorem de_and (h1 : DE X a σ H (.bool k)) (h2 : k = true → DE X b σ H (.bool m)) : DE X (.BoolOp .And [a, b] pos) σ H (.bool (k && m)) := fun H1 s => we_of (pe_and pe_we (pe_one pe_we)) (h1.go s fun v H2 s2 r => ⟨k, r, by
    cases k with
    | true => exact iteT ((h2 rfl).go (s.trans s2) fun v H3 s3 r => ⟨s2.trans s3, r⟩)
    | false => exact iteF ⟨s2, rfl⟩⟩)
theorem de_and3 {l : Bool} (h1 : DE X a σ H (.bool k)) (h2 : k = true → DE X b σ H (.bool m)) (h3 : k = true → m = true → DE X c σ H (.bool l)) : DE X (.BoolOp .And [a, b, c] pos) σ H (.bool (k && (m && l))) := fun H1 s => we_of (pe_and pe_we (pe_and pe_we (pe_one pe_we))) (h1.go s fun v H2 s2 r => ⟨k, r, by
    cases k with
    | true => exact iteT ((h2 rfl).go (s.trans s2) fun v H3 s3 r => ⟨m, r, by
        cases m with
        | true => exact iteT ((h3 rfl rfl).go ((s.trans s2).trans s3) fun v H4 s4 r => ⟨(s2.trans s3).trans s4, r⟩)
        | false => exact iteF ⟨s2.trans s3, rfl⟩⟩)
    | false => exact iteF ⟨s2, rfl⟩⟩)
theorem de_not (h : DE X e σ H (.bool k)) : DE X (.UnaryOp .Not e pos) σ H (.bool (!k)) := fun H1 s => we_of (pe_not pe_we) (h.go s fun v H2 s2 r => ⟨k, r, s2, rfl⟩)
theorem ee_ifExp (hc : BT X c σ H k) (ha : k = true → EE X a σ H P) (hb : k = false → EE X b σ H P) : EE X (.IfExp c a b pos) σ H P := fun H1 s => we_of (pe_ifExp pt_we pe_we pe_we) (hc.go s fun H2 s2 => by
    cases k with
    | true => exact iteT ((ha rfl).go (s.trans s2) fun v H3 s3 r => ⟨s2.trans s3, r⟩)
    | false => exact iteF ((hb rfl).go (s.trans s2) fun v H3 s3 r => ⟨s2.trans s3, r⟩))
/-- a <= b <= c of ints -/
theorem de_chain {l : Int} (ha : DE X a σ H (.int i)) (hb : DE X b σ H (.int j)) (hc : DE X c σ H (.int l)) (hm : lastMarks [.LtE, .LtE] [b, c] = false := by rfl) : DE X (.Compare a [.LtE, .LtE] [b, c] pos) σ H (.bool (decide (i ≤ j) && decide (j ≤ l))) :=
  fun H1 s => we_of (pe_chain op_le op_le pe_we pe_we pe_we hm) (ha.go s fun x H2 s2 r1 => hb.go (s.trans s2) fun y H3 s3 r2 => ⟨i, j, r1, r2, _, rfl, by
    cases e : decide (i ≤ j) with
    | true => exact iteT (hc.go ((s.trans s2).trans s3) fun z H4 s4 r3 => ⟨j, l, r2, r3, (s2.trans s3).trans s4, rfl⟩)
    | false => exact iteF ⟨s2.trans s3, rfl⟩⟩)
theorem bt_chain {l : Int} (ha : DE X a σ H (.int i)) (hb : DE X b σ H (.int j)) (hc : DE X c σ H (.int l)) (hm : lastMarks [.LtE, .LtE] [b, c] = false := by rfl) : BT X (.Compare a [.LtE, .LtE] [b, c] pos) σ H (decide (i ≤ j) && decide (j ≤ l)) :=
  fun H1 s => wt_of (pt_chain op_le op_le pe_we pe_we pe_we hm) (ha.go s fun x H2 s2 r1 => hb.go (s.trans s2) fun y H3 s3 r2 => ⟨i, j, r1, r2, _, rfl, by
    cases e : decide (i ≤ j) with
    | true => exact iteT (hc.go ((s.trans s2).trans s3) fun z H4 s4 r3 => ⟨j, l, r2, r3, _, rfl, (s2.trans s3).trans s4, rfl⟩)
    | false => exact iteF ⟨_, rfl, s2.trans s3, rfl⟩⟩)
end
end J
/-! Tuples, lists, comprehensions, calls: expressions that evaluate to data. -/
namespace J
open PySem PySem.Spec PyProof.Rows L2

theorem szl {n : Nat} (h : n ≤ 100000) : n ≤ sizeLine := Nat.le_trans h (by decide)
theorem szlt {n : Nat} (h : n < 100000) : n < sizeLine := Nat.lt_of_lt_of_le h (by decide)
section
variable {X : Cx} {e a b c : Expr} {es : List Expr} {σ : L2.St} {H H' H1 : Hp} {Q Q' : VK} {pos : Pos} {D : Ends} {P Pa Pb : V → Hp → Prop} {d d1 d2 : PyData} {ds ds2 : List PyData} {v : V} {k m : Bool} {i j : Int} {x y : Str} {op : CmpOp}

/-! ### arguments, displays -/
theorem aa_nil : AE X [] σ H [] := fun H1 _ => wa_of pa_nil ⟨Same.refl H1, rfl⟩
theorem aa_cons (h1 : DE X e σ H d) (h2 : AE X es σ H ds) (hs : starEach (e :: es) X.env = (false, eval e X.env) :: starEach es X.env := by rfl) : AE X (e :: es) σ H (d :: ds) := fun H1 s =>
  wa_of (pa_cons pe_we pa_we hs) (h1.go s fun v H2 s2 r => h2.go (s.trans s2) fun vs H3 s3 r2 => ⟨s2.trans s3, v, vs, rfl, r.mono (.of s3), r2⟩)
theorem aav_cons {Pr : List V → Hp → Prop} (mp : Mono P) (h1 : EE X e σ H P) (h2 : AA X es σ H Pr) (hs : starEach (e :: es) X.env = (false, eval e X.env) :: starEach es X.env := by rfl) : AA X (e :: es) σ H fun vs H2 => ∃ v r, vs = v :: r ∧ P v H2 ∧ Pr r H2 := fun H1 s =>
  wa_of (pa_cons pe_we pa_we hs) (h1.go s fun v H2 s2 r => h2.go (s.trans s2) fun vs H3 s3 r2 => ⟨s2.trans s3, v, vs, rfl, mp _ _ _ s3 r, r2⟩)
theorem de_tup {n : Nat} (h : AE X es σ H ds) (hv : vst ds = false) (hz : ds.length ≤ 100000) : DE X (.Tuple es n pos) σ H (.tuple ds) := fun H1 s =>
  we_of (pe_tup pa_we) (h.go s fun vs H2 s2 r => ⟨szl (by rw [r.length]; exact hz), fun p hp => ⟨s2.trans (.new hp), p, vs, rfl, by rw [hv]; exact upd_same, r.mono (.new hp)⟩⟩)
theorem le_lst (h : AE X es σ H ds) (hz : ds.length ≤ 100000) : LE X (.List es pos) σ H ds := fun H1 s =>
  we_of (pe_lst pa_we) (h.go s fun vs H2 s2 r => ⟨szl (by rw [r.length]; exact hz), fun p hp => ⟨s2.trans (.new hp), p, vs, rfl, s2.free hp, upd_same, r.mono (.new hp)⟩⟩)

/-! ### items, slices, lengths -/
theorem plainIx {b : Expr} (h : ∀ o i, subscripted b false o i = operate [o, i] (getItem o i) := by intro _ _; rfl) : PlainIx b := h
theorem rep_atI {xs : List V} (r : RepL H ds xs) (h : atI ds i = some d) : ∃ v, atI xs i = some v ∧ Rep H d v := by
  unfold atI at h ⊢
  rw [r.length]
  cases e : ixN ds.length i with
  | none => rw [e] at h; cases h
  | some j =>
    rw [e] at h
    exact r.at h
theorem de_ix (ha : UE X a σ H ds) (hb : DE X b σ H (.int i)) (h : atI ds i = some d) (hs : PlainIx b := by intro _ _; rfl) : DE X (.Subscript a b pos) σ H d := fun H1 s =>
  we_of (pe_ix ix_tup pe_we pe_we hs) (ha.go s fun x H2 s2 ⟨p, xs, e1, t, r⟩ => hb.go (s.trans s2) fun y H3 s3 r2 => by
    obtain ⟨v, h1, h2⟩ := rep_atI (r.mono (.of s3)) h
    exact ⟨p, xs, i, v, e1, r2, sqt_same s3 t, h1, s2.trans s3, h2⟩)
theorem de_ixl (ha : LV X a σ H ds) (hb : DE X b σ H (.int i)) (h : atI ds i = some d) (hs : PlainIx b := by intro _ _; rfl) : DE X (.Subscript a b pos) σ H d := fun H1 s =>
  we_of (pe_ix ix_list pe_we pe_we hs) (ha.go s fun x H2 s2 ⟨p, xs, e1, t, r⟩ => hb.go (s.trans s2) fun y H3 s3 r2 => by
    obtain ⟨v, h1, h2⟩ := rep_atI (r.mono (.of s3)) h
    exact ⟨p, xs, i, v, e1, r2, s3.seq t, h1, s2.trans s3, h2⟩)
theorem de_ixs {ch : Nat} (ha : DE X a σ H (.str x)) (hb : DE X b σ H (.int i)) (hz : x.length ≤ sizeLine) (h : atI x.cps.toList i = some ch) (hs : PlainIx b := by intro _ _; rfl) : DE X (.Subscript a b pos) σ H (.str ⟨#[ch]⟩) := fun H1 s =>
  we_of (pe_ix ix_str pe_we pe_we hs) (ha.go s fun u H2 s2 r => hb.go (s.trans s2) fun w H3 s3 r2 => ⟨x, i, ch, r, r2, hz, h, s2.trans s3, rfl⟩)
def cutD (ds : List PyData) (lo hi : Option Int) : List PyData := (ds.drop (HT.sIx ds.length 0 lo)).take (HT.sIx ds.length ds.length hi - HT.sIx ds.length 0 lo)
theorem RepL.cut {xs : List V} (r : RepL H ds xs) (lo hi : Option Int) : RepL H (cutD ds lo hi) (cutV xs lo hi) := by
  unfold cutD cutV
  rw [r.length]
  exact (r.drop _).take _
theorem cutD_whole {lo hi : Option Int} (h : HT.sIx ds.length 0 lo = 0 ∧ HT.sIx ds.length ds.length hi = ds.length) : cutD ds lo hi = ds := by
  unfold cutD
  rw [h.1, h.2]
  simp
/-- the parts of a slice -/
def OE (X : Cx) (e : Option Expr) (σ : L2.St) (H : Hp) (o : Option Int) : Prop := ∃ t : TO, PO X e t ∧ ∀ H1, Same H H1 → ∀ Q : Option Int → Hp → Prop, (∀ H2, Same H1 H2 → Q o H2) → t σ H1 Q
theorem oe_none : OE X none σ H none := ⟨_, po_none, fun H1 _ Q q => q H1 (Same.refl H1)⟩
theorem oe_some (h : DE X e σ H (.int i)) : OE X (some e) σ H (some i) := ⟨_, po_some pe_we, fun H1 s Q q => h.go s fun v H2 s2 r => ⟨i, r, q H2 s2⟩⟩
theorem de_slice {lo hi : Option Expr} {l u : Option Int} {p2 : Pos} (ha : DE X a σ H (.tuple ds)) (h1 : OE X lo σ H l) (h2 : OE X hi σ H u) (he : cutD ds l u = ds2) (hv : ds2 ≠ ds → vst ds2 = false) : DE X (.Subscript a (.Slice lo hi none p2) pos) σ H (.tuple ds2) := fun H1 s => by
  obtain ⟨t1, p1, k1⟩ := h1
  obtain ⟨t2, p2, k2⟩ := h2
  refine we_of (pe_slice sl_tupA pe_we p1 p2) (ha.go s fun v H2 s2 ⟨p, xs, e1, t, r⟩ => k1 H2 (s.trans s2) _ fun H3 s3 => k2 H3 ((s.trans s2).trans s3) _ fun H4 s4 => ?_)
  have r4 : RepL H4 ds xs := r.mono (.of (s3.trans s4))
  have t4 : TupAt H4 p (vst ds) xs := t.mono (.of (s3.trans s4))
  refine ⟨p, xs, e1, t4.sq, fun hw => ?_, fun hw q hq => ?_⟩
  · rw [r.length] at hw
    have e2 : ds2 = ds := by rw [← he, cutD_whole hw]
    rw [e2]
    exact ⟨(s2.trans s3).trans s4, p, xs, rfl, t4, r4⟩
  · have rc := r4.cut l u
    rw [he] at rc
    refine ⟨((s2.trans s3).trans s4).trans (.new hq), q, cutV xs l u, rfl, ?_, rc.mono (.new hq)⟩
    have hne : ds2 ≠ ds := fun e2 => by
      apply hw
      rw [r.length]
      rw [← he] at e2
      have hl : (cutD ds l u).length = ds.length := by rw [e2]
      unfold cutD at hl
      rw [List.length_take, List.length_drop] at hl
      have h3 := HT.sIx_le ds.length 0 (Nat.zero_le _) l
      have h4 := HT.sIx_le ds.length ds.length (Nat.le_refl _) u
      omega
    rw [hv hne]
    exact upd_same
theorem ue_slice {lo hi : Option Expr} {l u : Option Int} {p2 : Pos} (ha : UE X a σ H ds) (h1 : OE X lo σ H l) (h2 : OE X hi σ H u) (he : cutD ds l u = ds2) : UE X (.Subscript a (.Slice lo hi none p2) pos) σ H ds2 := fun H1 s => by
  obtain ⟨t1, p1, k1⟩ := h1
  obtain ⟨t2, p2, k2⟩ := h2
  refine we_of (pe_slice sl_tupA pe_we p1 p2) (ha.go s fun v H2 s2 ⟨p, xs, e1, t, r⟩ => k1 H2 (s.trans s2) _ fun H3 s3 => k2 H3 ((s.trans s2).trans s3) _ fun H4 s4 => ?_)
  have r4 : RepL H4 ds xs := r.mono (.of (s3.trans s4))
  have t4 := sqt_same (s3.trans s4) t
  have rc := r4.cut l u
  rw [he] at rc
  refine ⟨p, xs, e1, t4, fun hw => ?_, fun hw q hq => ?_⟩
  · have e2 : cutV xs l u = xs := by
      unfold cutV
      rw [hw.1, hw.2]
      simp
    rw [e2] at rc
    exact ⟨(s2.trans s3).trans s4, p, xs, rfl, t4, rc⟩
  · exact ⟨((s2.trans s3).trans s4).trans (.new hq), q, cutV xs l u, rfl, SqT.of upd_same, rc.mono (.new hq)⟩
theorem lv_slice {lo hi : Option Expr} {l u : Option Int} {p2 : Pos} (ha : LV X a σ H ds) (h1 : OE X lo σ H l) (h2 : OE X hi σ H u) (he : cutD ds l u = ds2) : LE X (.Subscript a (.Slice lo hi none p2) pos) σ H ds2 := fun H1 s => by
  obtain ⟨t1, p1, k1⟩ := h1
  obtain ⟨t2, p2, k2⟩ := h2
  refine we_of (pe_slice sl_list pe_we p1 p2) (ha.go s fun v H2 s2 ⟨p, xs, e1, t, r⟩ => k1 H2 (s.trans s2) _ fun H3 s3 => k2 H3 ((s.trans s2).trans s3) _ fun H4 s4 => ?_)
  have rc := (r.mono (.of (s3.trans s4))).cut l u
  rw [he] at rc
  exact ⟨p, xs, e1, (s3.trans s4).seq t, fun q hq => ⟨((s2.trans s3).trans s4).trans (.new hq), q, _, rfl, ((s2.trans s3).trans s4).free hq, upd_same, rc.mono (.new hq)⟩⟩
theorem cut_to {n : Nat} (h : n ≤ ds.length) : cutD ds none (some (n : Int)) = ds.take n := by
  unfold cutD
  rw [HT.sIx_none, HT.sIx_nat, Nat.min_eq_left h]
  simp
theorem cut_from {n : Nat} (h : n ≤ ds.length) : cutD ds (some (n : Int)) none = ds.drop n := by
  unfold cutD
  rw [HT.sIx_none, HT.sIx_nat, Nat.min_eq_left h]
  rw [List.take_of_length_le (by rw [List.length_drop]; exact Nat.le_refl _)]
theorem atI_n {α : Type} {xs : List α} {n : Nat} {z : α} (h : xs[n]? = some z) : atI xs ((n : Nat) : Int) = some z := atI_nat h

/-! ### built-ins by their names -/
theorem ee_blt {id : String} {f : Str} {p : Pos} {r : List V → Hp → VK → Prop} {Pr : List V → Hp → Prop} (hc : CallR X (.builtin id) r) (hm : X.mg f = none) (hv : bootBuiltins f = some (.builtin id)) (ha : AA X (e :: es) σ H Pr)
    (hr : ∀ vs H2, Same H H2 → Pr vs H2 → r vs H2 fun v H3 => Same H2 H3 ∧ P v H3) (mr : ∀ vs H Q Q', (∀ v H', Q v H' → Q' v H') → r vs H Q → r vs H Q') (hg : Gl X f := by rfl) (hn : f ≠ "__name__" := by decide) (hdb : (f == ("__debug__" : Str)) = false := by decide)
    (he : starEach (e :: es) X.env = (false, eval e X.env) :: starEach es X.env := by rfl) (hpl : (backTo pos (starEach es X.env)).any (·.1) = false := by rfl) : EE X (.Call (.Name f p) (e :: es) [] pos) σ H P := fun H1 s =>
  we_of (pe_callB hc hg hm hv pa_we hn hdb he hpl) (ha.go s fun vs H2 s2 z => mr _ _ _ _ (fun v H3 q => ⟨s2.trans q.1, q.2⟩) (hr vs H2 (s.trans s2) z))
theorem ee_ty {T : String} {f : Str} {p : Pos} {r : List V → Hp → VK → Prop} {Pr : List V → Hp → Prop} (hc : CallR X (.type T) r) (hm : X.mg f = none) (hv : bootBuiltins f = some (.type T)) (ha : AA X (e :: es) σ H Pr)
    (hr : ∀ vs H2, Same H H2 → Pr vs H2 → r vs H2 fun v H3 => Same H2 H3 ∧ P v H3) (mr : ∀ vs H Q Q', (∀ v H', Q v H' → Q' v H') → r vs H Q → r vs H Q') (hg : Gl X f := by rfl) (hn : f ≠ "__name__" := by decide) (hdb : (f == ("__debug__" : Str)) = false := by decide)
    (he : starEach (e :: es) X.env = (false, eval e X.env) :: starEach es X.env := by rfl) (hpl : (backTo pos (starEach es X.env)).any (·.1) = false := by rfl) : EE X (.Call (.Name f p) (e :: es) [] pos) σ H P := fun H1 s =>
  we_of (pe_callTy hc hg hm hv pa_we hn hdb he hpl) (ha.go s fun vs H2 s2 z => mr _ _ _ _ (fun v H3 q => ⟨s2.trans q.1, q.2⟩) (hr vs H2 (s.trans s2) z))
theorem aa_one (h1 : EE X e σ H P) (hs : starEach [e] X.env = (false, eval e X.env) :: starEach [] X.env := by rfl) : AA X [e] σ H fun vs H2 => ∃ v, vs = [v] ∧ P v H2 := fun H1 s =>
  wa_of (pa_cons pe_we pa_nil hs) (h1.go s fun v H2 s2 r => ⟨s2, v, rfl, r⟩)
theorem de_len {p : Pos} (hm : X.mg "len" = none) (ha : QE X e σ H ds) (hg : Gl X "len" := by rfl) (hs : starEach [e] X.env = (false, eval e X.env) :: starEach [] X.env := by rfl) : DE X (.Call (.Name "len" p) [e] [] pos) σ H (.int ds.length) :=
  ee_blt call_len_seq hm PySem.boot_len (aa_one ha hs) (fun vs H2 s2 ⟨v, e1, q, xs, e2, t, r⟩ => ⟨q, xs, by rw [e1, e2], t, Same.refl H2, by rw [r.length]; rfl⟩) (fun _ _ _ _ k ⟨q, xs, h1, h2, h3⟩ => ⟨q, xs, h1, h2, k _ _ h3⟩) (hg := hg) (he := hs)
theorem de_lens {p : Pos} (hm : X.mg "len" = none) (ha : DE X e σ H (.str x)) (hz : x.length ≤ sizeLine) (hg : Gl X "len" := by rfl) (hs : starEach [e] X.env = (false, eval e X.env) :: starEach [] X.env := by rfl) : DE X (.Call (.Name "len" p) [e] [] pos) σ H (.int x.length) :=
  ee_blt call_len_str hm PySem.boot_len (aa_one ha hs) (fun vs H2 s2 ⟨v, e1, r⟩ => ⟨x, by rw [e1, (show v = _ from r)], hz, Same.refl H2, rfl⟩) (fun _ _ _ _ k ⟨q, h1, h2, h3⟩ => ⟨q, h1, h2, k _ _ h3⟩) (hg := hg) (he := hs)
theorem de_all {p : Pos} {bs : List Bool} (hc : X.calm = true) (hm : X.mg "all" = none) (ha : LV X e σ H (bs.map .bool)) (hg : Gl X "all" := by rfl) (hs : starEach [e] X.env = (false, eval e X.env) :: starEach [] X.env := by rfl) : DE X (.Call (.Name "all" p) [e] [] pos) σ H (.bool (bs.all id)) :=
  ee_blt (cr_all hc) hm (by decide +kernel) (aa_one ha hs) (fun vs H2 s2 ⟨v, e1, q, xs, e2, t, r⟩ => ⟨q, bs, by rw [e1, e2], by rw [RepL.bls r] at t; exact t, Same.refl H2, rfl⟩) (fun _ _ _ _ k ⟨q, xs, h1, h2, h3⟩ => ⟨q, xs, h1, h2, k _ _ h3⟩) (hg := hg) (he := hs)
theorem de_any {p : Pos} {bs : List Bool} (hc : X.calm = true) (hm : X.mg "any" = none) (ha : LV X e σ H (bs.map .bool)) (hg : Gl X "any" := by rfl) (hs : starEach [e] X.env = (false, eval e X.env) :: starEach [] X.env := by rfl) : DE X (.Call (.Name "any" p) [e] [] pos) σ H (.bool (bs.any id)) :=
  ee_blt (cr_any hc) hm (by decide +kernel) (aa_one ha hs) (fun vs H2 s2 ⟨v, e1, q, xs, e2, t, r⟩ => ⟨q, bs, by rw [e1, e2], by rw [RepL.bls r] at t; exact t, Same.refl H2, rfl⟩) (fun _ _ _ _ k ⟨q, xs, h1, h2, h3⟩ => ⟨q, xs, h1, h2, k _ _ h3⟩) (hg := hg) (he := hs)
theorem de_sum {p : Pos} {ns : List Int} (hc : X.calm = true) (hm : X.mg "sum" = none) (ha : LV X e σ H (ns.map .int)) (hg : Gl X "sum" := by rfl) (hs : starEach [e] X.env = (false, eval e X.env) :: starEach [] X.env := by rfl) : DE X (.Call (.Name "sum" p) [e] [] pos) σ H (.int ns.sum) :=
  ee_blt (cr_sum hc) hm (by decide +kernel) (aa_one ha hs) (fun vs H2 s2 ⟨v, e1, q, xs, e2, t, r⟩ => ⟨q, ns, by rw [e1, e2], by rw [RepL.ints r] at t; exact t, Same.refl H2, rfl⟩) (fun _ _ _ _ k ⟨q, xs, h1, h2, h3⟩ => ⟨q, xs, h1, h2, k _ _ h3⟩) (hg := hg) (he := hs)
theorem de_abs {p : Pos} (hm : X.mg "abs" = none) (ha : DE X e σ H (.int i)) (hg : Gl X "abs" := by rfl) (hs : starEach [e] X.env = (false, eval e X.env) :: starEach [] X.env := by rfl) : DE X (.Call (.Name "abs" p) [e] [] pos) σ H (.int (if i < 0 then -i else i)) :=
  ee_blt call_abs hm (by decide +kernel) (aa_one ha hs) (fun vs H2 s2 ⟨v, e1, r⟩ => ⟨i, by rw [e1, (show v = _ from r)], Same.refl H2, rfl⟩) (fun _ _ _ _ k ⟨q, h1, h3⟩ => ⟨q, h1, k _ _ h3⟩) (hg := hg) (he := hs)
theorem de_intI {p : Pos} (hm : X.mg "int" = none) (ha : DE X e σ H (.int i)) (hg : Gl X "int" := by rfl) (hs : starEach [e] X.env = (false, eval e X.env) :: starEach [] X.env := by rfl) : DE X (.Call (.Name "int" p) [e] [] pos) σ H (.int i) :=
  ee_ty call_int1 hm (by decide +kernel) (aa_one ha hs) (fun vs H2 s2 ⟨v, e1, r⟩ => .inl ⟨i, by rw [e1, (show v = _ from r)], Same.refl H2, rfl⟩) (fun _ _ _ _ k h => h.elim (fun ⟨q, h1, h3⟩ => .inl ⟨q, h1, k _ _ h3⟩) fun ⟨q, h1, h3⟩ => .inr ⟨q, h1, k _ _ h3⟩) (hg := hg) (he := hs)
theorem de_strI {p : Pos} (hm : X.mg "str" = none) (ha : DE X e σ H (.int i)) (hz : i.natAbs.log2 < 1920) (hg : Gl X "str" := by rfl) (hs : starEach [e] X.env = (false, eval e X.env) :: starEach [] X.env := by rfl) : DE X (.Call (.Name "str" p) [e] [] pos) σ H (.str (toString i)) :=
  ee_ty call_str_int hm (by decide +kernel) (aa_one ha hs) (fun vs H2 s2 ⟨v, e1, r⟩ => ⟨i, by rw [e1, (show v = _ from r)], hz, Same.refl H2, rfl⟩) (fun _ _ _ _ k ⟨q, h1, h2, h3⟩ => ⟨q, h1, h2, k _ _ h3⟩) (hg := hg) (he := hs)
/-- tuple(a list): told with its object, if it is one of names -/
theorem call_tuple_frz : CallR X (.type "tuple") (fun xs H Q => ∃ p ys, xs = [.ref p] ∧ SqL X.K H p ys ∧ ∀ l o, o.dict = none → H l = none → Q (.ref l) (upd H l (.frz o (.tup ys)))) := by
  intro pins s σ H xs us Q I r ⟨p, ys, e0, hq, q⟩
  subst e0
  obtain ⟨u, e1, rx⟩ := vals1 r
  subst e1
  cases rx
  obtain ⟨its, r1, pl, hz⟩ := I.list hq
  refine call_tuple_list pl.isList (fun h1 kp => ?_) (by have := r1.length; simp only [List.size_toArray]; omega)
  have I1 : Inv X pins σ H { s with heap := h1 } := I.kept (t' := s.toks) kp
  let o : Obj := { cls := .type "tuple", data := .seq its.toArray }
  have g : (h1.push o).get? h1.objs.size = some o := Heap.get?_push_size _ rfl
  exact ⟨.ref h1.objs.size, _, I1.laid (o := .frz o (.tup ys)) (t' := s.toks) (fun b ob e => Heap.get?_push_of_some _ e) (Nat.le_refl _) ⟨g, hz, its, r1, IsTup.new _ _⟩, rfl, q _ o rfl (I1.hok.fresh (Nat.le_refl _))⟩
theorem de_tuple {p : Pos} (hm : X.mg "tuple" = none) (ha : LV X e σ H ds) (hg : Gl X "tuple" := by rfl) (hs : starEach [e] X.env = (false, eval e X.env) :: starEach [] X.env := by rfl) : DE X (.Call (.Name "tuple" p) [e] [] pos) σ H (.tuple ds) := by
  cases hv : vst ds with
  | true =>
    exact ee_ty call_tuple_frz hm (by decide +kernel) (aa_one ha hs) (fun vs H2 s2 ⟨v, e1, q, xs, e2, t, r⟩ => ⟨q, xs, by rw [e1, e2], t, fun l o ho hl => ⟨Same.new hl, l, xs, rfl, by rw [hv]; exact ⟨o, ho, upd_same⟩, r.mono (.new hl)⟩⟩)
      (fun _ _ _ _ k ⟨q, xs, h1, h2, h3⟩ => ⟨q, xs, h1, h2, fun l o ho hl => k _ _ (h3 l o ho hl)⟩) (hg := hg) (he := hs)
  | false =>
    exact ee_ty call_tuple_of hm (by decide +kernel) (aa_one ha hs) (fun vs H2 s2 ⟨v, e1, q, xs, e2, t, r⟩ => ⟨q, xs, by rw [e1, e2], .inl ⟨t, fun l hl => ⟨Same.new hl, l, xs, rfl, by rw [hv]; exact upd_same, r.mono (.new hl)⟩⟩⟩)
      (fun _ _ _ _ k ⟨q, xs, h1, h2⟩ => ⟨q, xs, h1, h2.imp (fun ⟨t, h3⟩ => ⟨t, fun l hl => k _ _ (h3 l hl)⟩) fun ⟨t, h3⟩ => ⟨t, k _ _ h3⟩⟩) (hg := hg) (he := hs)
theorem le_list {p : Pos} (hm : X.mg "list" = none) (ha : QE X e σ H ds) (hg : Gl X "list" := by rfl) (hs : starEach [e] X.env = (false, eval e X.env) :: starEach [] X.env := by rfl) (hn : ("list" : Str) ≠ "__name__" := by decide) (hdb : (("list" : Str) == ("__debug__" : Str)) = false := by decide)
    (hpl : (backTo pos (starEach [] X.env)).any (·.1) = false := by rfl) : LE X (.Call (.Name "list" p) [e] [] pos) σ H ds := fun H1 s =>
  we_of (pe_callTy call_list_of hg hm (by decide +kernel) (pa_cons pe_we pa_nil hs) hn hdb hs hpl) (ha.go s fun v H2 s2 ⟨q, xs, e2, t, r⟩ => ⟨q, xs, by rw [e2], t, fun l hl => ⟨s2.trans (.new hl), l, xs, rfl, s2.free hl, upd_same, r.mono (.new hl)⟩⟩)
/-- a + b of lists, two new ones -/
theorem le_cat (ha : LE X a σ H ds) (hb : LE X b σ H ds2) (hz : ds.length + ds2.length ≤ 100000) : LE X (.BinOp a .Add b pos) σ H (ds ++ ds2) := fun H1 s =>
  we_op op_cat (ha.go s fun l xs H2 s2 n1 h1 r1 => hb.go (s.trans s2) fun m ys H3 s3 n2 h2 r2 => ⟨l, m, xs, ys, rfl, rfl, s3 _ _ h1, h2, szl (by rw [r1.length, r2.length]; exact hz), fun p hp =>
    ⟨(s2.trans s3).trans (.new hp), p, _, rfl, (s2.trans s3).free hp, upd_same, ((r1.mono (.of s3)).append r2).mono (.new hp)⟩⟩)
/-- sep.join(..) -/
theorem de_join {ys : List Str} {apos : Pos} (ha : DE X a σ H (.str x)) (hb : QE X b σ H (ys.map .str)) (hz : (ys.map (·.length)).sum + ys.length * x.length ≤ 16777216) (hs : starEach [b] X.env = (false, eval b X.env) :: starEach [] X.env := by rfl)
    (hbase : attributeBase a "join" X.env (eval a X.env) = eval a X.env := by rfl) (hline : (apos.endLine == pos.line) = true := by rfl)
    (hfew : ((backTo pos (starEach [b] X.env)).all (fun x => !x.1) && (backToKw pos (keywordEach [] X.env)).all (fun x => x.1.isSome)
      && decide (([b] : List Expr).length + ([] : List Keyword).length + (if ([] : List Keyword).isEmpty then 0 else 1) < 30)) = true := by rfl) (hpl : (backTo pos (starEach [] X.env)).any (·.1) = false := by rfl) : DE X (.Call (.Attribute a "join" apos) [b] [] pos) σ H (.str (Txt.join x ys)) := fun H1 s =>
  we_of (pe_bm F.plainAttrs_str F.slot_str_join F.type_str_join mt_join pe_we (pa_cons pe_we pa_nil hs) hbase hfew hline hs hpl) (ha.go s fun v H2 s2 r => ⟨by cases (show v = _ from r); exact rfl, hb.go (s.trans s2) fun u H3 s3 ⟨q, xs, e2, t, r2⟩ =>
    ⟨x, q, ys, r, by rw [e2], by rw [RepL.strs r2] at t; exact t, hz, s2.trans s3, rfl⟩⟩)
end
end J
/-! Comprehensions and loops over data. -/
namespace J
open PySem PySem.Spec PyProof.Rows L2

/-- the ifs of a comprehension -/
structure WTs (X : Cx) (ifs : List Expr) (σ : L2.St) (H : Hp) (Q : Bool → Hp → Prop) : Prop where
  run : ∀ (pins : List (Addr × Obj)) (s : Shared), Inv X pins σ H s →
  wpAny (model X.prog X.w) X.A (forIn ifs true fun c r => if r = true then do let ok ← isTrue c X.env (eval c X.env); pure (ForInStep.yield ok) else pure (ForInStep.yield r)) (TP X pins σ Q) X.xe s
def BTs (X : Cx) (ifs : List Expr) (σ : L2.St) (H : Hp) (b : Bool) : Prop := ∀ H1, Same H H1 → WTs X ifs σ H1 fun k H2 => Same H1 H2 ∧ k = b
theorem bts_nil {X : Cx} {σ : L2.St} {H : Hp} : BTs X [] σ H true := fun H1 _ => ⟨fun pins s I => pts_nil.run pins s σ H1 _ I ⟨Same.refl H1, rfl⟩⟩
theorem bts_one {X : Cx} {c : Expr} {σ : L2.St} {H : Hp} {k : Bool} (h : BT X c σ H k) : BTs X [c] σ H k := fun H1 s => ⟨fun pins st I => (pts_one pt_we).run pins st σ H1 _ I (h H1 s)⟩
theorem BTs.up {X : Cx} {c : List Expr} {σ : L2.St} {H H' : Hp} {k : Bool} (s : Same H H') (h : BTs X c σ H k) : BTs X c σ H' k := fun H1 s1 => h H1 (s.trans s1)
/-- the block of a comprehension, whatever its frame -/
abbrev Blk (X : Cx) (scope : Scope) (F : Cx → Prop) : Prop := ∀ (s : Shared) (H : Hp) (C : Addr) (cl : List (Str × Addr)) (fp : List Addr), F (X.blk s H scope (compEnvC scope cl C X.env) fp)
def tBlk (X : Cx) (scope : Scope) (e : Expr) : TE := fun σ H Q => Blk X scope fun Y => WE Y e σ H Q
def ttBlk (X : Cx) (scope : Scope) (ifs : List Expr) : TT := fun σ H Q => Blk X scope fun Y => WTs Y ifs σ H Q
section
variable {X : Cx} {elt iter tg : Expr} {ifs : List Expr} {scope : Scope} {own : List (Str × Nat)} {pos : Pos} {σ : L2.St} {H : Hp} {g : TG}
theorem pe_blk (s : Shared) (H : Hp) (C : Addr) (cl : List (Str × Addr)) (fp : List Addr) : PE (X.blk s H scope (compEnvC scope cl C X.env) fp) elt (tBlk X scope elt) := ⟨fun pins st _ _ _ I h => (h s H C cl fp).run pins st I⟩
theorem pts_blk (s : Shared) (H : Hp) (C : Addr) (cl : List (Str × Addr)) (fp : List Addr) : PTs (X.blk s H scope (compEnvC scope cl C X.env) fp) ifs (ttBlk X scope ifs) := ⟨fun pins st _ _ _ I h => (h s H C cl fp).run pins st I⟩

/-- what is made so far -/
def Cv (H1 : Hp) (D : Addr) (ds : List PyData) (H' : Hp) : Prop := Same H1 H' ∧ ∃ acc, H' D = some (.lst acc) ∧ RepL H' ds acc
theorem Cv.start {H1 : Hp} {D : Addr} (h : H1 D = none) : Cv H1 D [] (upd H1 D (.lst [])) := ⟨Same.new h, [], upd_same, rfl⟩
/-- one turn -/
theorem cv_turn {H1 H' : Hp} {D : Addr} {ds : List PyData} {σ2 : L2.St} {f : Bool} {d : PyData} (hn : H1 D = none) (c : Cv H1 D ds H') (hz : ds.length < 100000) (ht : Blk X scope fun Y => BTs Y ifs σ2 H' f) (he : f = true → Blk X scope fun Y => DE Y elt σ2 H' d) :
    ttBlk X scope ifs σ2 H' fun b H3 => if b = true then tBlk X scope elt σ2 H3 fun y H4 => ∃ acc, H4 D = some (.lst acc) ∧ acc.length < sizeLine ∧ Cv H1 D (if f = true then ds ++ [d] else ds) (upd H4 D (.lst (acc ++ [y]))) else Cv H1 D (if f = true then ds ++ [d] else ds) H3 := by
  obtain ⟨c1, acc, c2, c3⟩ := c
  intro s0 H0 C cl fp
  constructor
  intro pins st I
  refine thn ((ht s0 H0 C cl fp H' (Same.refl H')).run pins st I) fun k st2 ⟨H3, I3, s3, e3⟩ => ⟨H3, I3, ?_⟩
  subst e3
  cases k with
  | true =>
    refine iteT fun s0 H0 C cl fp => (he rfl s0 H0 C cl fp).go s3 fun y H4 s4 r4 => ?_
    have a4 : H4 D = some (.lst acc) := s4 _ _ (s3 _ _ c2)
    have r : RepL H4 ds acc := c3.mono (.of (s3.trans s4))
    refine ⟨acc, a4, szlt (by rw [r.length]; exact hz), ((c1.trans s3).trans s4).mut hn, _, upd_same, ?_⟩
    rw [if_pos rfl]
    exact (r.snoc r4).mono (.upd a4 rfl)
  | false =>
    refine iteF ?_
    rw [if_neg Bool.false_ne_true]
    exact ⟨c1.trans s3, acc, s3 _ _ c2, c3.mono (.of s3)⟩
/-- the made part of a filtered, mapped list -/
theorem made_snoc {α β : Type} (xs : List α) (f : α → Bool) (g : α → β) (i : Nat) (x : α) (h : xs[i]? = some x) : (((xs.take (i + 1)).filter f).map g) = if f x = true then ((xs.take i).filter f).map g ++ [g x] else ((xs.take i).filter f).map g := by
  have e : xs.take (i + 1) = xs.take i ++ [x] := by rw [List.take_add_one, h]; rfl
  rw [e, List.filter_append, List.map_append]
  cases hf : f x with
  | true => rw [if_pos rfl, List.filter_cons, if_pos hf]; rfl
  | false => rw [if_neg Bool.false_ne_true, List.filter_cons, hf]; simp
theorem made_len {α β : Type} (xs : List α) (f : α → Bool) (g : α → β) (i : Nat) : (((xs.take i).filter f).map g).length ≤ xs.length := by
  rw [List.length_map]
  exact Nat.le_trans (List.length_filter_le _ _) (by rw [List.length_take]; omega)
/-- how a target takes a value: to the slots σ2, the heap as it is -/
def Takes1 (g : TG) (v : V) (σ : L2.St) (H : Hp) (R : L2.St → Prop) : Prop := ∀ Q : L2.St → Hp → Prop, (∀ σ2, R σ2 → Q σ2 H) → g v σ H Q
theorem takes_name {i : Nat} {v : V} {σ : L2.St} {H : Hp} {R : L2.St → Prop} (h : R (σ.set i (some v))) : Takes1 (gName i) v σ H R := fun Q q => q _ h
theorem takes_tup2 {K : PySem.W.Frag} {i j : Nat} {v : V} {σ : L2.St} {H : Hp} {R : L2.St → Prop} {d1 d2 : PyData} (r : Rep H (.tuple [d1, d2]) v) (h : ∀ x y, Rep H d1 x → Rep H d2 y → R ((σ.set i (some x)).set j (some y))) : Takes1 (gTup K 2 (gCons (gName i) (gCons (gName j) gNil))) v σ H R := fun Q q => by
  obtain ⟨a, xs, e, t, rl⟩ := r.seq (K := K)
  obtain ⟨x, y, e2, r1, r2⟩ := rl.two
  subst e2
  exact ⟨a, [x, y], e, t, rfl, x, [y], rfl, y, [], rfl, rfl, q _ (h x y r1 r2)⟩
theorem takes_tup3 {K : PySem.W.Frag} {i j l : Nat} {v : V} {σ : L2.St} {H : Hp} {R : L2.St → Prop} {d1 d2 d3 : PyData} (r : Rep H (.tuple [d1, d2, d3]) v) (h : ∀ x y z, Rep H d1 x → Rep H d2 y → Rep H d3 z → R (((σ.set i (some x)).set j (some y)).set l (some z))) : Takes1 (gTup K 3 (gCons (gName i) (gCons (gName j) (gCons (gName l) gNil)))) v σ H R := fun Q q => by
  obtain ⟨a, xs, e, t, rl⟩ := r.seq (K := K)
  obtain ⟨x, y, z, e2, r1, r2, r3⟩ := rl.three
  subst e2
  exact ⟨a, [x, y, z], e, t, rfl, x, [y, z], rfl, y, [z], rfl, z, [], rfl, rfl, q _ (h x y z r1 r2 r3)⟩

theorem map_at {α β : Type} {xs : List α} {f : α → β} {i : Nat} {y : β} (h : (xs.map f)[i]? = some y) : ∃ x, xs[i]? = some x ∧ y = f x := by
  rw [List.getElem?_map] at h
  cases e : xs[i]? with
  | none => rw [e] at h; cases h
  | some x => rw [e] at h; exact ⟨x, rfl, (Option.some.inj h).symm⟩
/-- [elt for tg in iter if ..] over a tuple -/
theorem le_lcU {α : Type} (xs : List α) (enc : α → PyData) (f : α → Bool) (gd : α → PyData) (hc : X.calm = true) (hN : X.N.Nodup) (hit : UE X iter σ H (xs.map enc)) (hz : xs.length < 100000) (ok : BlkOk X.N X.env.scope scope own) (hg : Blk X scope fun Y => PG Y tg g)
    (hb : ∀ x v H2, x ∈ xs → Same H H2 → Rep H2 (enc x) v → Takes1 g v (wipe σ (own.map (·.2))) H2 fun σ2 => wipe σ2 (own.map (·.2)) = wipe σ (own.map (·.2)) ∧ (Blk X scope fun Y => BTs Y ifs σ2 H2 (f x)) ∧ (f x = true → Blk X scope fun Y => DE Y elt σ2 H2 (gd x)))
    (hs : ∀ x, foldedSetIterable iter X.env x = pure x := by intro _; rfl) : LE X (.ListComp elt [⟨tg, iter, ifs, 0⟩] scope pos) σ H ((xs.filter f).map gd) := fun H1 s =>
  we_of (pe_lc hc hN (pi_tup pe_we) ok hg pts_blk pe_blk hs) (hit.go s fun v H2 s2 ⟨a, vs, e1, t, r⟩ => ⟨a, e1, ⟨vs, t⟩, fun D hD => by
    have hl : vs.length = xs.length := by rw [r.length, List.length_map]
    refine lc_tup (xs := vs) (fun i H' => Cv H2 D (((xs.take i).filter f).map gd) H') (Cv.start hD) (fun i H' _ c => sqt_same c.1 t) (fun i x H' hx c => ?_) fun H' c => ?_
    · obtain ⟨d, hd, rd⟩ := r.get hx
      obtain ⟨y, hy, e⟩ := map_at hd
      subst e
      refine hb y x H' (List.mem_of_getElem? hy) ((s.trans s2).trans c.1) (rd.mono (.of c.1)) _ fun σ2 ⟨w, k1, k2⟩ => ⟨w, ?_⟩
      rw [made_snoc xs f gd i y hy]
      exact cv_turn hD c (Nat.lt_of_le_of_lt (made_len xs f gd i) hz) k1 k2
    · rw [hl, List.take_of_length_le (Nat.le_refl _)] at c
      obtain ⟨c1, acc, c2, c3⟩ := c
      exact ⟨s2.trans c1, D, acc, rfl, s2.free hD, c2, c3⟩⟩)
/-- .. over a list -/
theorem le_lcL {α : Type} (xs : List α) (enc : α → PyData) (f : α → Bool) (gd : α → PyData) (hc : X.calm = true) (hN : X.N.Nodup) (hit : LV X iter σ H (xs.map enc)) (hz : xs.length < 100000) (ok : BlkOk X.N X.env.scope scope own) (hg : Blk X scope fun Y => PG Y tg g)
    (hb : ∀ x v H2, x ∈ xs → Same H H2 → Rep H2 (enc x) v → Takes1 g v (wipe σ (own.map (·.2))) H2 fun σ2 => wipe σ2 (own.map (·.2)) = wipe σ (own.map (·.2)) ∧ (Blk X scope fun Y => BTs Y ifs σ2 H2 (f x)) ∧ (f x = true → Blk X scope fun Y => DE Y elt σ2 H2 (gd x)))
    (hs : ∀ x, foldedSetIterable iter X.env x = pure x := by intro _; rfl) : LE X (.ListComp elt [⟨tg, iter, ifs, 0⟩] scope pos) σ H ((xs.filter f).map gd) := fun H1 s =>
  we_of (pe_lc hc hN (pi_list pe_we) ok hg pts_blk pe_blk hs) (hit.go s fun v H2 s2 ⟨a, vs, e1, t, r⟩ => ⟨a, e1, ⟨vs, t⟩, fun D hD => by
    have hl : vs.length = xs.length := by rw [r.length, List.length_map]
    refine lc_list (xs := vs) (fun i H' => Cv H2 D (((xs.take i).filter f).map gd) H') (Cv.start hD) (fun i H' _ c => c.1.seq t) (fun i x H' hx c => ?_) fun H' c => ?_
    · obtain ⟨d, hd, rd⟩ := r.get hx
      obtain ⟨y, hy, e⟩ := map_at hd
      subst e
      refine hb y x H' (List.mem_of_getElem? hy) ((s.trans s2).trans c.1) (rd.mono (.of c.1)) _ fun σ2 ⟨w, k1, k2⟩ => ⟨w, ?_⟩
      rw [made_snoc xs f gd i y hy]
      exact cv_turn hD c (Nat.lt_of_le_of_lt (made_len xs f gd i) hz) k1 k2
    · rw [hl, List.take_of_length_le (Nat.le_refl _)] at c
      obtain ⟨c1, acc, c2, c3⟩ := c
      exact ⟨s2.trans c1, D, acc, rfl, s2.free hD, c2, c3⟩⟩)
theorem range_take (n i : Nat) (h : i ≤ n) : (List.range n).take i = List.range i := by
  rw [List.take_range, Nat.min_eq_left h]
/-- .. over range(n), range(lo, hi) -/
theorem le_lcR1 {ne : Expr} {n : Nat} {j : Nat} {p rp : Pos} (f : Nat → Bool) (gd : Nat → PyData) (hc : X.calm = true) (hN : X.N.Nodup) (hm : X.mg "range" = none) (hit : DE X ne σ H (.int (n : Int))) (hz : n < 100000) (ok : BlkOk X.N X.env.scope scope own) (hg : Blk X scope fun Y => PG Y tg g)
    (hb : ∀ (i : Nat) H2, i < n → Same H H2 → Takes1 g (.int (i : Int)) (wipe σ (own.map (·.2))) H2 fun σ2 => wipe σ2 (own.map (·.2)) = wipe σ (own.map (·.2)) ∧ (Blk X scope fun Y => BTs Y ifs σ2 H2 (f i)) ∧ (f i = true → Blk X scope fun Y => DE Y elt σ2 H2 (gd i)))
    (hgl : Gl X "range" := by rfl) (hst : starEach [ne] X.env = [(false, eval ne X.env)] := by rfl) (hs : ∀ x, foldedSetIterable (.Call (.Name "range" p) [ne] [] rp) X.env x = pure x := by intro _; rfl) :
    LE X (.ListComp elt [⟨tg, .Call (.Name "range" p) [ne] [] rp, ifs, 0⟩] scope pos) σ H (((List.range n).filter f).map gd) := fun H1 s =>
  we_of (pe_lc hc hN (pi_range1 hgl hm (pa_cons pe_we pa_nil hst) hst) ok hg pts_blk pe_blk hs) (hit.go s fun v H2 s2 r => ⟨(n : Int), by rw [(show v = _ from r)], by omega, by omega, fun D hD => by
    refine lc_range (lo := 0) (n := n) (fun i H' => i ≤ n ∧ Cv H2 D (((List.range i).filter f).map gd) H') ⟨Nat.zero_le _, Cv.start hD⟩ (fun i H' hi ⟨_, c⟩ => ?_) fun H' ⟨_, c⟩ => ?_
    · rw [Int.zero_add]
      refine hb i H' hi ((s.trans s2).trans c.1) _ fun σ2 ⟨w, k1, k2⟩ => ⟨w, ?_⟩
      have e := made_snoc (List.range n) f gd i i (by rw [List.getElem?_range hi])
      rw [range_take n i (Nat.le_of_lt hi), range_take n (i + 1) hi] at e
      rw [e]
      have z := made_len (List.range n) f gd i
      rw [range_take n i (Nat.le_of_lt hi), List.length_range] at z
      intro s0 H0 C cl fp
      constructor
      intro pins st I
      refine thn (cv_turn hD c (Nat.lt_of_le_of_lt z hz) k1 k2 s0 H0 C cl fp |>.run pins st I) fun b st2 ⟨H3, I3, q⟩ => ⟨H3, I3, ?_⟩
      cases b with
      | true =>
        rw [if_pos rfl] at q ⊢
        exact fun s0 H0 C cl fp => (q s0 H0 C cl fp).mono fun y H4 ⟨acc, a1, a2, a3⟩ => ⟨acc, a1, a2, hi, a3⟩
      | false =>
        rw [if_neg Bool.false_ne_true] at q ⊢
        exact ⟨hi, q⟩
    · obtain ⟨c1, acc, c2, c3⟩ := c
      exact ⟨s2.trans c1, D, acc, rfl, s2.free hD, c2, c3⟩⟩)
theorem le_lcR2 {ae ne : Expr} {lo : Int} {n : Nat} {p rp : Pos} (f : Nat → Bool) (gd : Nat → PyData) (hc : X.calm = true) (hN : X.N.Nodup) (hm : X.mg "range" = none) {hi : Int} (h1 : DE X ae σ H (.int lo)) (h2 : DE X ne σ H (.int hi)) (hn : (hi - lo).toNat = n) (hz : n < 100000) (hl : -(2 ^ 62) ≤ lo ∧ lo < 2 ^ 62 ∧ -(2 ^ 62) ≤ hi ∧ hi < 2 ^ 62)
    (ok : BlkOk X.N X.env.scope scope own) (hg : Blk X scope fun Y => PG Y tg g)
    (hb : ∀ (i : Nat) H2, i < n → Same H H2 → Takes1 g (.int (lo + (i : Int))) (wipe σ (own.map (·.2))) H2 fun σ2 => wipe σ2 (own.map (·.2)) = wipe σ (own.map (·.2)) ∧ (Blk X scope fun Y => BTs Y ifs σ2 H2 (f i)) ∧ (f i = true → Blk X scope fun Y => DE Y elt σ2 H2 (gd i)))
    (hgl : Gl X "range" := by rfl) (hst : starEach [ae, ne] X.env = [(false, eval ae X.env), (false, eval ne X.env)] := by rfl) (hst2 : starEach [ne] X.env = [(false, eval ne X.env)] := by rfl) (hs : ∀ x, foldedSetIterable (.Call (.Name "range" p) [ae, ne] [] rp) X.env x = pure x := by intro _; rfl) :
    LE X (.ListComp elt [⟨tg, .Call (.Name "range" p) [ae, ne] [] rp, ifs, 0⟩] scope pos) σ H (((List.range n).filter f).map gd) := fun H1 s =>
  we_of (pe_lc hc hN (pi_range2 hgl hm (pa_cons pe_we (pa_cons pe_we pa_nil hst2) (hst.trans (by rw [hst2]))) hst hst2) ok hg pts_blk pe_blk hs) (h1.go s fun v H2' s2' r => h2.go (s.trans s2') fun v2 H2 s2 r2 => ⟨lo, hi, by rw [(show v = _ from r), (show v2 = _ from r2)], hl, fun D hD => by
    rw [hn]
    refine lc_range (lo := lo) (n := n) (fun i H' => i ≤ n ∧ Cv H2 D (((List.range i).filter f).map gd) H') ⟨Nat.zero_le _, Cv.start hD⟩ (fun i H' hi ⟨_, c⟩ => ?_) fun H' ⟨_, c⟩ => ?_
    · refine hb i H' hi (((s.trans s2').trans s2).trans c.1) _ fun σ2 ⟨w, k1, k2⟩ => ⟨w, ?_⟩
      have e := made_snoc (List.range n) f gd i i (by rw [List.getElem?_range hi])
      rw [range_take n i (Nat.le_of_lt hi), range_take n (i + 1) hi] at e
      rw [e]
      have z := made_len (List.range n) f gd i
      rw [range_take n i (Nat.le_of_lt hi), List.length_range] at z
      intro s0 H0 C cl fp
      constructor
      intro pins st I
      refine thn (cv_turn hD c (Nat.lt_of_le_of_lt z hz) k1 k2 s0 H0 C cl fp |>.run pins st I) fun b st2 ⟨H3, I3, q⟩ => ⟨H3, I3, ?_⟩
      cases b with
      | true =>
        rw [if_pos rfl] at q ⊢
        exact fun s0 H0 C cl fp => (q s0 H0 C cl fp).mono fun y H4 ⟨acc, a1, a2, a3⟩ => ⟨acc, a1, a2, hi, a3⟩
      | false =>
        rw [if_neg Bool.false_ne_true] at q ⊢
        exact ⟨hi, q⟩
    · obtain ⟨c1, acc, c2, c3⟩ := c
      exact ⟨(s2'.trans s2).trans c1, D, acc, rfl, (s2'.trans s2).free hD, c2, c3⟩⟩)
end

/-! ### loops -/
/-- all that was known but what stands at M is as it was -/
def SameB (M : List Addr) (H H' : Hp) : Prop := ∀ a o, H a = some o → a ∉ M → H' a = some o
theorem SameB.refl (M : List Addr) (H : Hp) : SameB M H H := fun _ _ h _ => h
theorem SameB.of {M : List Addr} {H H' : Hp} (e : Same H H') : SameB M H H' := fun a o h _ => e a o h
theorem SameB.trans {M : List Addr} {H H1 H2 : Hp} (a : SameB M H H1) (b : SameB M H1 H2) : SameB M H H2 := fun x o h n => b x o (a x o h n) n
theorem SameB.upd {M : List Addr} {H : Hp} {p : Addr} {o : HO} (h : p ∈ M) : SameB M H (L2.upd H p o) := fun a u e n => by
  rw [upd_ne (fun q => n (by rw [q]; exact h))]
  exact e
theorem SameB.wide {M N : List Addr} {H H' : Hp} (a : SameB M H H') (h : ∀ x ∈ M, x ∈ N) : SameB N H H' := fun x o e n => a x o e fun q => n (h x q)
theorem SameB.kp {M : List Addr} {H H' : Hp} (a : SameB M H H') (h : ∀ x ∈ M, ∃ u, H x = some u ∧ loose u = true) : Kp H H' := fun p => by
  by_cases hp : p ∈ M
  · obtain ⟨u, hu, l⟩ := h p hp
    refine ⟨fun xs e => ?_, fun o xs e => ?_⟩
    · rw [hu] at e; cases e; cases l
    · rw [hu] at e; cases e; cases l
  · exact ⟨fun xs e => a p _ e hp, fun o xs e => a p _ e hp⟩
theorem sqt_kp {K : PySem.W.Frag} {H H' : Hp} {p : Addr} {xs : List V} (e : Kp H H') (h : SqT K H p xs) : SqT K H' p xs := by
  rcases h with (h | ⟨o, h⟩) | h
  · exact .inl (.inl ((e p).1 xs h))
  · exact .inl (.inr ⟨o, (e p).2 o xs h⟩)
  · exact .inr h
section
variable {X : Cx} {iter tg : Expr} {body : List Stmt} {pos : Pos} {σ : L2.St} {H : Hp} {g : TG} {D : Ends}
/-- for tg in a tuple -/
theorem ws_forU {ds : List PyData} (hp : PassesOwn (model X.prog X.w) X.A X.env X.xe) (hc : X.calm = true) (hit : UE X iter σ H ds) (hg : PG X tg g) (Pv : Hp → Nat → L2.St → Hp → Prop) (h0 : ∀ H1, Same H H1 → Pv H1 0 σ H1) (hk : ∀ H1 i σ' H', Pv H1 i σ' H' → Kp H1 H')
    (hs : ∀ H1 i d v σ' H', Same H H1 → ds[i]? = some d → Rep H' d v → Pv H1 i σ' H' → g v σ' H' fun σ2 H2 => WSs X body { D with nx := Pv H1 (i + 1), ct := Pv H1 (i + 1), bk := D.nx } σ2 H2) (hd : ∀ H1 σ' H', Same H H1 → Pv H1 ds.length σ' H' → D.nx σ' H')
    (hf : ∀ x, foldedSetIterable iter X.env x = pure x := by intro _; rfl) : WS X (.For tg iter body [] pos) D σ H :=
  ws_of (ps_for hp hc (pi_tup pe_we) hg pss_we hf) (hit.go (Same.refl H) fun v H2 s2 ⟨a, vs, e1, t, r⟩ => ⟨a, e1, ⟨vs, t⟩, by
    refine for_tup (xs := vs) (Pv H2) (h0 H2 s2) (fun i σ' H' _ p => sqt_kp (hk H2 i σ' H' p) t) (fun i x σ' H' hx p => ?_) fun σ' H' p => ?_
    · obtain ⟨d, hd', rd⟩ := r.get hx
      exact hs H2 i d x σ' H' s2 hd' (rd.mono (hk H2 i σ' H' p)) p
    · rw [r.length] at p
      exact hd H2 σ' H' s2 p⟩)
/-- for tg in a new list -/
theorem ws_forN {ds : List PyData} (hp : PassesOwn (model X.prog X.w) X.A X.env X.xe) (hc : X.calm = true) (hit : LE X iter σ H ds) (hg : PG X tg g) (Pv : Hp → Nat → L2.St → Hp → Prop) (h0 : ∀ H1, Same H H1 → Pv H1 0 σ H1)
    (hk : ∀ H1 i σ' H', Pv H1 i σ' H' → Kp H1 H' ∧ ∀ l xs, H l = none → H1 l = some (.lst xs) → H' l = some (.lst xs))
    (hs : ∀ H1 i d v σ' H', Same H H1 → ds[i]? = some d → Rep H' d v → Pv H1 i σ' H' → g v σ' H' fun σ2 H2 => WSs X body { D with nx := Pv H1 (i + 1), ct := Pv H1 (i + 1), bk := D.nx } σ2 H2) (hd : ∀ H1 σ' H', Same H H1 → Pv H1 ds.length σ' H' → D.nx σ' H')
    (hf : ∀ x, foldedSetIterable iter X.env x = pure x := by intro _; rfl) : WS X (.For tg iter body [] pos) D σ H :=
  ws_of (ps_for hp hc (pi_list pe_we) hg pss_we hf) (hit.go (Same.refl H) fun l vs H2 s2 n0 t r => ⟨l, rfl, ⟨vs, SqL.of t⟩, by
    refine for_list (xs := vs) (Pv H2) (h0 H2 s2) (fun i σ' H' _ p => SqL.of ((hk H2 i σ' H' p).2 l vs n0 t)) (fun i x σ' H' hx p => ?_) fun σ' H' p => ?_
    · obtain ⟨d, hd', rd⟩ := r.get hx
      exact hs H2 i d x σ' H' s2 hd' (rd.mono (hk H2 i σ' H' p).1) p
    · rw [r.length] at p
      exact hd H2 σ' H' s2 p⟩)
/-- for tg in the list at l, which stays -/
theorem ws_forL {ds : List PyData} {l : Addr} {vs : List V} (hp : PassesOwn (model X.prog X.w) X.A X.env X.xe) (hc : X.calm = true) (hit : VE X iter σ H (.ref l)) (t : SqL X.K H l vs) (r : RepL H ds vs) (hg : PG X tg g) (Pv : Nat → L2.St → Hp → Prop) (h0 : ∀ H1, Same H H1 → Pv 0 σ H1)
    (hk : ∀ i σ' H', Pv i σ' H' → Kp H H' ∧ SqL X.K H' l vs)
    (hs : ∀ i d v σ' H', ds[i]? = some d → Rep H' d v → Pv i σ' H' → g v σ' H' fun σ2 H2 => WSs X body { D with nx := Pv (i + 1), ct := Pv (i + 1), bk := D.nx } σ2 H2) (hd : ∀ σ' H', Pv ds.length σ' H' → D.nx σ' H')
    (hf : ∀ x, foldedSetIterable iter X.env x = pure x := by intro _; rfl) : WS X (.For tg iter body [] pos) D σ H :=
  ws_of (ps_for hp hc (pi_list pe_we) hg pss_we hf) (hit.go (Same.refl H) fun v H2 s2 e1 => ⟨l, e1, ⟨vs, s2.seq t⟩, by
    refine for_list (xs := vs) Pv (h0 H2 s2) (fun i σ' H' _ p => (hk i σ' H' p).2) (fun i x σ' H' hx p => ?_) fun σ' H' p => ?_
    · obtain ⟨d, hd', rd⟩ := r.get hx
      exact hs i d x σ' H' hd' (rd.mono (hk i σ' H' p).1) p
    · rw [r.length] at p
      exact hd σ' H' p⟩)
/-- for i in range(n) -/
theorem ws_forR {ne : Expr} {n : Nat} {p rp : Pos} (hp : PassesOwn (model X.prog X.w) X.A X.env X.xe) (hc : X.calm = true) (hm : X.mg "range" = none) (hit : WE X ne σ H fun v H1 => v = .int (n : Int) ∧ ∃ Pv : Nat → L2.St → Hp → Prop, Pv 0 σ H1 ∧
      (∀ i σ' H', i < n → Pv i σ' H' → g (.int (i : Int)) σ' H' fun σ2 H2 => WSs X body { D with nx := Pv (i + 1), ct := Pv (i + 1), bk := D.nx } σ2 H2) ∧ ∀ σ' H', Pv n σ' H' → D.nx σ' H') (hz : n < 100000) (hg : PG X tg g)
    (hgl : Gl X "range" := by rfl) (hst : starEach [ne] X.env = [(false, eval ne X.env)] := by rfl) (hf : ∀ x, foldedSetIterable (.Call (.Name "range" p) [ne] [] rp) X.env x = pure x := by intro _; rfl) : WS X (.For tg (.Call (.Name "range" p) [ne] [] rp) body [] pos) D σ H :=
  ws_of (ps_for hp hc (pi_range1 hgl hm (pa_cons pe_we pa_nil hst) hst) hg pss_we hf) (hit.mono fun v H1 ⟨e, Pv, h0, hs, hd⟩ => ⟨(n : Int), by rw [e], by omega, by omega, by
    refine for_range (lo := 0) (n := n) Pv h0 (fun i σ' H' hi p => ?_) hd
    rw [Int.zero_add]
    exact hs i σ' H' hi p⟩)
end

/-! ### defs -/
/-- where a def stands, and that it keeps its promise -/
def OkF (P : Program) (w : World) (K : PySem.W.Frag) (mg : Str → Option Value) (base : Heap) (CX : CXT) (k : Nat) (f : Addr) (ps : List Str) (sp : Sp) : Prop := ∃ fd : FuncData, FnOk P w K mg base CX k f fd ps sp ∧ Binds K fd ps [] ∧ PySem.W.keepIn K (.ref f) = true
section
variable {X : Cx} {CX : CXT} {k : Nat} {f : Addr} {ps : List Str} {sp : Sp} {E : XK} {x : Str} {p pos : Pos} {e : Expr} {es : List Expr} {σ : L2.St} {H : Hp} {Q : VK}
theorem OkF.mono {P : Program} {w : World} {K : PySem.W.Frag} {mg : Str → Option Value} {base : Heap} {j k : Nat} (h : OkF P w K mg base CX j f ps sp) (hj : j ≤ k) : OkF P w K mg base CX k f ps sp := by
  obtain ⟨fd, F, b, kp⟩ := h
  exact ⟨fd, F.mono hj, b, kp⟩
/-- f(e, ..) -/
theorem we_call (O : OkF X.prog X.w X.K X.mg X.base CX k f ps sp) (hr : Room k X.A) (hm : X.mg x = some (.ref f)) (hx : Passes CX X E) (q : WA X (e :: es) σ H fun vs H1 => sp vs H1 Q E) (hg : Gl X x := by rfl) (hdb : (x == ("__debug__" : Str)) = false := by decide)
    (he : starEach (e :: es) X.env = (false, eval e X.env) :: starEach es X.env := by rfl) (hpl : (backTo pos (starEach es X.env)).any (·.1) = false := by rfl) : WE X (.Call (.Name x p) (e :: es) [] pos) σ H Q := by
  obtain ⟨fd, F, b, kp⟩ := O
  refine we_of (pe_call F hr hg hm kp b .nil hx pa_we hdb he hpl) (q.mono fun vs H1 z => ?_)
  rw [List.append_nil]
  exact z
/-- a promise over data: R says which arguments it takes and what it gives; all that was known stays -/
def spD (R : List PyData → PyData → Prop) : Sp := fun vs H Q _ => ∃ ds d, RepL H ds vs ∧ R ds d ∧ ∀ v H', Same H H' → Rep H' d v → Q v H'
theorem de_call {R : List PyData → PyData → Prop} {ds : List PyData} {d : PyData} (O : OkF X.prog X.w X.K X.mg X.base CX k f ps (spD R)) (hr : Room k X.A) (hm : X.mg x = some (.ref f)) (hx : Passes CX X E0) (ha : AE X (e :: es) σ H ds) (h : R ds d) (hg : Gl X x := by rfl) (hdb : (x == ("__debug__" : Str)) = false := by decide)
    (he : starEach (e :: es) X.env = (false, eval e X.env) :: starEach es X.env := by rfl) (hpl : (backTo pos (starEach es X.env)).any (·.1) = false := by rfl) : DE X (.Call (.Name x p) (e :: es) [] pos) σ H d := fun H1 s =>
  we_call O hr hm hx (ha.go s fun vs H2 s2 r => ⟨ds, d, r, h, fun v H3 s3 r3 => ⟨s2.trans s3, r3⟩⟩) hg hdb he hpl
end
end J
/-! The program's text by places; what the top leaves, as facts by names. Printed by genhead.py. -/
namespace J
open PySem PySem.Spec PyProof.Rows L2
def top (i : Nat) : Stmt := PySem.Challenge.pw_joinhall_k32_whole_standing_answers_are.main.body.getD i (.Pass ⟨0, 0, 0, 0⟩)
abbrev s_is_name : Stmt := top 17
abbrev s_right_row : Stmt := top 18
abbrev s_ascend : Stmt := top 19
abbrev s_right_table : Stmt := top 20
abbrev s_check_catalogue : Stmt := top 21
abbrev s_place_of : Stmt := top 22
abbrev s_table_at : Stmt := top 23
abbrev s_with_rows : Stmt := top 24
abbrev s_with_row : Stmt := top 25
abbrev s_without_row : Stmt := top 26
abbrev s_all_variables : Stmt := top 31
abbrev s_right_atoms : Stmt := top 32
abbrev s_check_pattern : Stmt := top 33
abbrev s_check_fit : Stmt := top 34
abbrev s_place_from : Stmt := top 37
abbrev s_common : Stmt := top 38
abbrev s_joined : Stmt := top 43
abbrev s_write_catalogue : Stmt := top 45
abbrev s_write_pattern : Stmt := top 47
abbrev s_counted : Stmt := top 50
abbrev s_with_copies : Stmt := top 51
abbrev s_l_begin : Stmt := top 54
abbrev s_l_take : Stmt := top 55
abbrev s_l_rows : Stmt := top 56
abbrev s_l_catalogue : Stmt := top 57
abbrev s_l_table : Stmt := top 58
abbrev s_l_with : Stmt := top 59
abbrev s_l_variables : Stmt := top 60
abbrev s_l_pattern : Stmt := top 61
abbrev s_l_agrees : Stmt := top 62
abbrev s_l_partials : Stmt := top 63
abbrev s_l_assignments : Stmt := top 64
abbrev s_l_named : Stmt := top 65
abbrev s_l_answers : Stmt := top 66
abbrev s_l_class : Stmt := top 67
abbrev s_l_do : Stmt := top 68
abbrev s_l_changes : Stmt := top 69
abbrev s_l_step : Stmt := top 70
abbrev s_l_same : Stmt := top 71
abbrev s_law : Stmt := top 72
abbrev s_Trie_init : Stmt := inClass (top 36) 0
abbrev s_Trie_put : Stmt := inClass (top 36) 1
abbrev s_Trie_count : Stmt := inClass (top 36) 2
abbrev s_Trie_node_at : Stmt := inClass (top 36) 3
abbrev s_Trie_children : Stmt := inClass (top 36) 4
abbrev s_Trie_has : Stmt := inClass (top 36) 5
abbrev s_Branch_init : Stmt := inClass (top 41) 0
abbrev s_Branch_agrees : Stmt := inClass (top 41) 1
abbrev s_Branch_choices : Stmt := inClass (top 41) 2
abbrev s_Search_init : Stmt := inClass (top 42) 0
abbrev s_Search_next_ones : Stmt := inClass (top 42) 1
abbrev s_Search_first_level : Stmt := inClass (top 42) 2
abbrev s_Search_deeper : Stmt := inClass (top 42) 3
abbrev s_Keeper_init : Stmt := inClass (top 52) 0
abbrev s_Keeper_catalogue : Stmt := inClass (top 52) 1
abbrev s_Keeper_names : Stmt := inClass (top 52) 2
abbrev s_Keeper_log : Stmt := inClass (top 52) 3
abbrev s_Keeper_note : Stmt := inClass (top 52) 4
abbrev s_Keeper_known : Stmt := inClass (top 52) 5
abbrev s_Keeper_stand : Stmt := inClass (top 52) 6
abbrev s_Keeper_fall : Stmt := inClass (top 52) 7
abbrev s_Keeper_answers : Stmt := inClass (top 52) 8
abbrev s_Keeper_ways : Stmt := inClass (top 52) 9
abbrev s_Keeper_changes : Stmt := inClass (top 52) 10
abbrev s_Keeper_turn : Stmt := inClass (top 52) 11
abbrev s_Keeper_turn_all : Stmt := inClass (top 52) 12
abbrev s_Keeper_add : Stmt := inClass (top 52) 13
abbrev s_Keeper_drop : Stmt := inClass (top 52) 14
def fa0 : List (He.Fa) := [.glo "is_name", .glo "right_row", .glo "ascend", .glo "right_table", .glo "check_catalogue", .glo "place_of", .glo "table_at", .glo "with_rows", .glo "with_row", .glo "without_row", .glo "all_variables", .glo "right_atoms", .glo "check_pattern", .glo "check_fit", .glo "place_from", .glo "common", .glo "joined", .glo "write_catalogue", .glo "write_pattern", .glo "counted", .glo "with_copies", .glo "_law_begin", .glo "_law_take", .glo "_law_rows", .glo "_law_catalogue", .glo "_law_table", .glo "_law_with", .glo "_law_variables", .glo "_law_pattern", .glo "_law_agrees"]
def fa1 : List (He.Fa) := [.glo "_law_partials", .glo "_law_assignments", .glo "_law_named", .glo "_law_answers", .glo "_law_class", .glo "_law_do", .glo "_law_changes", .glo "_law_step", .glo "_law_same", .glo "law", .free "len", .free "all", .free "any", .free "range", .free "tuple", .free "list", .free "sorted", .free "set", .free "str", .free "int", .free "abs", .free "sum", .free "isinstance", .int "TABLE_LIMIT" 8, .int "ROW_LIMIT" 300, .int "COLUMN_LIMIT" 4, .int "NUMBER_LIMIT" 999999999, .int "NAME_LIMIT" 20, .int "ATOM_LIMIT" 8, .int "VARIABLE_LIMIT" 8]
def fa2 : List (He.Fa) := [.int "PLACE_LIMIT" 4, .int "VISIT_LIMIT" 20000, .int "STANDING_LIMIT" 8, .str "LETTERS" "abcdefghijklmnopqrstuvwxyz", .str "NAME_SIGNS" "abcdefghijklmnopqrstuvwxyz0123456789", .glo "Trie", .cls "Trie", .mkr "Trie", .noat "Trie" "top", .noat "Trie" "size", .noat "Trie" "depth", .glo "Branch", .cls "Branch", .mkr "Branch", .noat "Branch" "places", .noat "Branch" "empty", .noat "Branch" "trie", .glo "Search", .cls "Search", .mkr "Search", .noat "Search" "many", .noat "Search" "branches", .noat "Search" "dead", .glo "Keeper", .cls "Keeper", .mkr "Keeper", .noat "Keeper" "tables", .noat "Keeper" "patterns", .noat "Keeper" "counts", .noat "Keeper" "sizes"]
def fa3 : List (He.Fa) := [.noat "Keeper" "lines", .meth "Trie" "put", .meth "Trie" "node_at", .meth "Trie" "children", .meth "Branch" "agrees", .meth "Branch" "choices", .meth "Search" "next_ones", .meth "Search" "first_level", .meth "Search" "deeper", .meth "Keeper" "note", .meth "Keeper" "known", .meth "Keeper" "stand", .meth "Keeper" "fall", .meth "Keeper" "answers", .meth "Keeper" "ways", .meth "Keeper" "changes", .meth "Keeper" "turn", .meth "Keeper" "turn_all", .meth "Keeper" "add", .meth "Keeper" "drop", .glo "StandingError", .glo "RowError", .glo "UnknownTable", .glo "PatternError", .glo "HallError", .exc "StandingError", .exc "RowError", .exc "UnknownTable", .exm "StandingError" "HallError" true, .exm "RowError" "HallError" true]
def fa4 : List (He.Fa) := [.exm "UnknownTable" "HallError" true]
def fa : List (He.Fa) := fa0 ++ fa1 ++ fa2 ++ fa3 ++ fa4
def fn0 : List (He.DefD) := [⟨("is_name", none), "is_name", "is_name", defArgs s_is_name, defBody s_is_name, defScope s_is_name, [], []⟩, ⟨("right_row", none), "right_row", "right_row", defArgs s_right_row, defBody s_right_row, defScope s_right_row, [], []⟩, ⟨("ascend", none), "ascend", "ascend", defArgs s_ascend, defBody s_ascend, defScope s_ascend, [], []⟩, ⟨("right_table", none), "right_table", "right_table", defArgs s_right_table, defBody s_right_table, defScope s_right_table, [], []⟩, ⟨("check_catalogue", none), "check_catalogue", "check_catalogue", defArgs s_check_catalogue, defBody s_check_catalogue, defScope s_check_catalogue, [], []⟩, ⟨("place_of", none), "place_of", "place_of", defArgs s_place_of, defBody s_place_of, defScope s_place_of, [], []⟩, ⟨("table_at", none), "table_at", "table_at", defArgs s_table_at, defBody s_table_at, defScope s_table_at, [], []⟩, ⟨("with_rows", none), "with_rows", "with_rows", defArgs s_with_rows, defBody s_with_rows, defScope s_with_rows, [], []⟩, ⟨("with_row", none), "with_row", "with_row", defArgs s_with_row, defBody s_with_row, defScope s_with_row, [], []⟩, ⟨("without_row", none), "without_row", "without_row", defArgs s_without_row, defBody s_without_row, defScope s_without_row, [], []⟩, ⟨("all_variables", none), "all_variables", "all_variables", defArgs s_all_variables, defBody s_all_variables, defScope s_all_variables, [], []⟩, ⟨("right_atoms", none), "right_atoms", "right_atoms", defArgs s_right_atoms, defBody s_right_atoms, defScope s_right_atoms, [], []⟩, ⟨("check_pattern", none), "check_pattern", "check_pattern", defArgs s_check_pattern, defBody s_check_pattern, defScope s_check_pattern, [], []⟩, ⟨("check_fit", none), "check_fit", "check_fit", defArgs s_check_fit, defBody s_check_fit, defScope s_check_fit, [], []⟩, ⟨("place_from", none), "place_from", "place_from", defArgs s_place_from, defBody s_place_from, defScope s_place_from, [], []⟩, ⟨("common", none), "common", "common", defArgs s_common, defBody s_common, defScope s_common, [], []⟩, ⟨("joined", none), "joined", "joined", defArgs s_joined, defBody s_joined, defScope s_joined, [], []⟩, ⟨("write_catalogue", none), "write_catalogue", "write_catalogue", defArgs s_write_catalogue, defBody s_write_catalogue, defScope s_write_catalogue, [], []⟩, ⟨("write_pattern", none), "write_pattern", "write_pattern", defArgs s_write_pattern, defBody s_write_pattern, defScope s_write_pattern, [], []⟩, ⟨("counted", none), "counted", "counted", defArgs s_counted, defBody s_counted, defScope s_counted, [], []⟩, ⟨("with_copies", none), "with_copies", "with_copies", defArgs s_with_copies, defBody s_with_copies, defScope s_with_copies, [], []⟩, ⟨("_law_begin", none), "_law_begin", "_law_begin", defArgs s_l_begin, defBody s_l_begin, defScope s_l_begin, [], []⟩, ⟨("_law_take", none), "_law_take", "_law_take", defArgs s_l_take, defBody s_l_take, defScope s_l_take, [], []⟩, ⟨("_law_rows", none), "_law_rows", "_law_rows", defArgs s_l_rows, defBody s_l_rows, defScope s_l_rows, [], []⟩, ⟨("_law_catalogue", none), "_law_catalogue", "_law_catalogue", defArgs s_l_catalogue, defBody s_l_catalogue, defScope s_l_catalogue, [], []⟩, ⟨("_law_table", none), "_law_table", "_law_table", defArgs s_l_table, defBody s_l_table, defScope s_l_table, [], []⟩, ⟨("_law_with", none), "_law_with", "_law_with", defArgs s_l_with, defBody s_l_with, defScope s_l_with, [], []⟩, ⟨("_law_variables", none), "_law_variables", "_law_variables", defArgs s_l_variables, defBody s_l_variables, defScope s_l_variables, [], []⟩, ⟨("_law_pattern", none), "_law_pattern", "_law_pattern", defArgs s_l_pattern, defBody s_l_pattern, defScope s_l_pattern, [], []⟩, ⟨("_law_agrees", none), "_law_agrees", "_law_agrees", defArgs s_l_agrees, defBody s_l_agrees, defScope s_l_agrees, [], []⟩]
def fn1 : List (He.DefD) := [⟨("_law_partials", none), "_law_partials", "_law_partials", defArgs s_l_partials, defBody s_l_partials, defScope s_l_partials, [], []⟩, ⟨("_law_assignments", none), "_law_assignments", "_law_assignments", defArgs s_l_assignments, defBody s_l_assignments, defScope s_l_assignments, [], []⟩, ⟨("_law_named", none), "_law_named", "_law_named", defArgs s_l_named, defBody s_l_named, defScope s_l_named, [], []⟩, ⟨("_law_answers", none), "_law_answers", "_law_answers", defArgs s_l_answers, defBody s_l_answers, defScope s_l_answers, [], []⟩, ⟨("_law_class", none), "_law_class", "_law_class", defArgs s_l_class, defBody s_l_class, defScope s_l_class, [], []⟩, ⟨("_law_do", none), "_law_do", "_law_do", defArgs s_l_do, defBody s_l_do, defScope s_l_do, [], []⟩, ⟨("_law_changes", none), "_law_changes", "_law_changes", defArgs s_l_changes, defBody s_l_changes, defScope s_l_changes, [], []⟩, ⟨("_law_step", none), "_law_step", "_law_step", defArgs s_l_step, defBody s_l_step, defScope s_l_step, [], []⟩, ⟨("_law_same", none), "_law_same", "_law_same", defArgs s_l_same, defBody s_l_same, defScope s_l_same, [], []⟩, ⟨("law", none), "law", "law", defArgs s_law, defBody s_law, defScope s_law, [], []⟩, ⟨("Trie", some "__init__"), "__init__", "Trie.__init__", defArgs s_Trie_init, defBody s_Trie_init, defScope s_Trie_init, [], []⟩, ⟨("Trie", some "put"), "put", "Trie.put", defArgs s_Trie_put, defBody s_Trie_put, defScope s_Trie_put, [], []⟩, ⟨("Trie", some "node_at"), "node_at", "Trie.node_at", defArgs s_Trie_node_at, defBody s_Trie_node_at, defScope s_Trie_node_at, [], []⟩, ⟨("Trie", some "children"), "children", "Trie.children", defArgs s_Trie_children, defBody s_Trie_children, defScope s_Trie_children, [], []⟩, ⟨("Branch", some "__init__"), "__init__", "Branch.__init__", defArgs s_Branch_init, defBody s_Branch_init, defScope s_Branch_init, [], []⟩, ⟨("Branch", some "agrees"), "agrees", "Branch.agrees", defArgs s_Branch_agrees, defBody s_Branch_agrees, defScope s_Branch_agrees, [], []⟩, ⟨("Branch", some "choices"), "choices", "Branch.choices", defArgs s_Branch_choices, defBody s_Branch_choices, defScope s_Branch_choices, [], []⟩, ⟨("Search", some "__init__"), "__init__", "Search.__init__", defArgs s_Search_init, defBody s_Search_init, defScope s_Search_init, [], []⟩, ⟨("Search", some "next_ones"), "next_ones", "Search.next_ones", defArgs s_Search_next_ones, defBody s_Search_next_ones, defScope s_Search_next_ones, [], []⟩, ⟨("Search", some "first_level"), "first_level", "Search.first_level", defArgs s_Search_first_level, defBody s_Search_first_level, defScope s_Search_first_level, [], []⟩, ⟨("Search", some "deeper"), "deeper", "Search.deeper", defArgs s_Search_deeper, defBody s_Search_deeper, defScope s_Search_deeper, [], []⟩, ⟨("Keeper", some "__init__"), "__init__", "Keeper.__init__", defArgs s_Keeper_init, defBody s_Keeper_init, defScope s_Keeper_init, [], []⟩, ⟨("Keeper", some "note"), "note", "Keeper.note", defArgs s_Keeper_note, defBody s_Keeper_note, defScope s_Keeper_note, [], []⟩, ⟨("Keeper", some "known"), "known", "Keeper.known", defArgs s_Keeper_known, defBody s_Keeper_known, defScope s_Keeper_known, [], []⟩, ⟨("Keeper", some "stand"), "stand", "Keeper.stand", defArgs s_Keeper_stand, defBody s_Keeper_stand, defScope s_Keeper_stand, [], []⟩, ⟨("Keeper", some "fall"), "fall", "Keeper.fall", defArgs s_Keeper_fall, defBody s_Keeper_fall, defScope s_Keeper_fall, [], []⟩, ⟨("Keeper", some "answers"), "answers", "Keeper.answers", defArgs s_Keeper_answers, defBody s_Keeper_answers, defScope s_Keeper_answers, [], []⟩, ⟨("Keeper", some "ways"), "ways", "Keeper.ways", defArgs s_Keeper_ways, defBody s_Keeper_ways, defScope s_Keeper_ways, [], []⟩, ⟨("Keeper", some "changes"), "changes", "Keeper.changes", defArgs s_Keeper_changes, defBody s_Keeper_changes, defScope s_Keeper_changes, [], []⟩, ⟨("Keeper", some "turn"), "turn", "Keeper.turn", defArgs s_Keeper_turn, defBody s_Keeper_turn, defScope s_Keeper_turn, [], []⟩]
def fn2 : List (He.DefD) := [⟨("Keeper", some "turn_all"), "turn_all", "Keeper.turn_all", defArgs s_Keeper_turn_all, defBody s_Keeper_turn_all, defScope s_Keeper_turn_all, [], []⟩, ⟨("Keeper", some "add"), "add", "Keeper.add", defArgs s_Keeper_add, defBody s_Keeper_add, defScope s_Keeper_add, [], []⟩, ⟨("Keeper", some "drop"), "drop", "Keeper.drop", defArgs s_Keeper_drop, defBody s_Keeper_drop, defScope s_Keeper_drop, [], []⟩]
def fn : List (He.DefD) := fn0 ++ fn1 ++ fn2
/-! properties: the object that stands in the class, its getter -/
def pAd (K : PySem.W.Frag) (C f : Str) : Addr := match PySem.W.findIn K (.ref (He.ga K C)) f with
  | some (some (.ref p)) => p
  | _ => 0
def gAd (K : PySem.W.Frag) (C f : Str) : Addr := match PySem.W.recIn K (pAd K C f) "property" with
  | some (.ref g :: _) => g
  | _ => 0
structure PrD where
  cls : Str
  name : Str
  qual : Str
  params : Arguments
  body : List Stmt
  scope : Scope
def PrD.val (d : PrD) : He.FnW := some (d.name, d.qual, d.params, .stmts d.body, d.scope, mainGlobals, [], builtinsNs)
def prW (K : PySem.W.Frag) (d : PrD) : He.FnW := match K.lookup (gAd K d.cls d.name) with
  | some ⟨_, _, .func fd, _⟩ => some (fd.name, fd.qualname, fd.params, fd.body, fd.scope, fd.globals, fd.closure, fd.builtins)
  | _ => none
def PrD.ok (K : PySem.W.Frag) (d : PrD) : Bool :=
  He.eqO (PySem.W.findIn K (.ref (He.ga K d.cls)) d.name) (some (some (.ref (pAd K d.cls d.name)))) &&
  (He.eqO (PySem.W.specialIn K (.ref (pAd K d.cls d.name)) "__get__") (some (some (.builtin "property.__get__"))) &&
  (decide (PySem.W.takesIn K (.ref (pAd K d.cls d.name)) = some true) &&
  ((match PySem.W.recIn K (pAd K d.cls d.name) "property" with
    | some (.ref _ :: _) => true
    | _ => false) &&
  (PySem.W.keepIn K (.ref (gAd K d.cls d.name)) && (match K.lookup (gAd K d.cls d.name) with
  | some ⟨_, _, .func fd, _⟩ => PySem.W.codeIn K fd.code d.qual && (He.dflB K fd.defaults [] && He.kwdB K fd.kwdefaults [])
  | _ => false)))))
/-! isinstance of an error of the class x -/
def isB (K : PySem.W.Frag) (x : Str) : Bool :=
  He.eqO (PySem.W.findIn K (.ref (He.ga K x)) "__getattribute__") (some (some (.builtin "BaseException.__getattribute__"))) &&
  (He.eqO (PySem.W.findIn K (.ref (He.ga K x)) "__getattr__") (some none) &&
  (decide (PySem.W.subIn K (.ref (He.ga K x)) (.type "BaseException") = some true) &&
  (PySem.W.hasDictIn K (He.ga K x) &&
  (He.eqO (PySem.W.findIn K (.ref (He.ga K x)) "__class__") (some (some (.builtin "object.__class__"))) &&
  (He.eqO (PySem.W.specialIn K (.builtin "object.__class__") "__get__") (some (some (.builtin "getset_descriptor.__get__"))) &&
  (decide (PySem.W.takesIn K (.builtin "object.__class__") = some true) && decide (PySem.W.mroIn K (He.ga K x) (.type "object") = some true)))))))
def kitB (K : PySem.W.Frag) (x y : Str) : Bool := decide (PySem.W.kitOne K (.ref (He.ga K x)) (.ref (He.ga K y)) = some (decide (x = y)))
def prs : List PrD := [⟨"Keeper", "catalogue", "Keeper.catalogue", defArgs s_Keeper_catalogue, defBody s_Keeper_catalogue, defScope s_Keeper_catalogue⟩, ⟨"Keeper", "names", "Keeper.names", defArgs s_Keeper_names, defBody s_Keeper_names, defScope s_Keeper_names⟩]
def exs : List Str := ["StandingError", "RowError", "UnknownTable"]
def exq : List Str := ["StandingError", "RowError", "UnknownTable", "PatternError"]
def xb (K : PySem.W.Frag) : Bool := (prs.all fun d => d.ok K) && ((exs.all fun x => isB K x) && exs.all fun x => exq.all fun y => kitB K x y)
abbrev AlX : Type := He.AlD × (Bool × List He.FnW)
def obsX (K : PySem.W.Frag) : AlX := (He.obsD fa fn K, (xb K, prs.map fun d => prW K d))
def valX : AlX := (He.valD fn, (true, prs.map PrD.val))
def SaysX (K : PySem.W.Frag) : Prop := obsX K = valX
/-! what every proof of a def leans on: the written part K, what the module's names hold -/
structure Tx (K : PySem.W.Frag) (mg : Str → Option Value) : Prop where
  c : SaysX K
  g : ∀ {x : Str} {o : Option Value}, PySem.W.nsIn K mainGlobals x = some o → mg x = o
section
variable {K : PySem.W.Frag} {mg : Str → Option Value}
theorem Tx.cd (T : Tx K mg) : He.SaysD fa fn K := congrArg (fun z : AlX => z.1) T.c
theorem Tx.xb (T : Tx K mg) : xb K = true := congrArg (fun z : AlX => z.2.1) T.c
theorem Tx.pr (T : Tx K mg) : prs.map (fun d => prW K d) = prs.map PrD.val := congrArg (fun z : AlX => z.2.2) T.c
theorem Tx.glo (T : Tx K mg) {x : Str} (h : (He.Fa.glo x).ok K = true) : mg x = some (.ref (He.ga K x)) := T.g (He.eqO_ok h)
theorem Tx.free (T : Tx K mg) {x : Str} (h : (He.Fa.free x).ok K = true) : mg x = none := T.g (He.eqO_ok h)
theorem Tx.int (T : Tx K mg) {x : Str} {i : Int} (c : (He.Fa.int x i).ok K = true) : ∃ t, mg x = some (.int i t) := by
  have c2 : (match PySem.W.nsIn K mainGlobals x with
    | some (some (.int j _)) => decide (j = i)
    | _ => false) = true := c
  split at c2
  · rename_i j t e
    rw [← of_decide_eq_true c2]
    exact ⟨t, T.g e⟩
  · cases c2
theorem Tx.str (T : Tx K mg) {x z : Str} (c : (He.Fa.str x z).ok K = true) : ∃ t, mg x = some (.str z t) := by
  have c2 : (match PySem.W.nsIn K mainGlobals x with
    | some (some (.str j _)) => decide (j = z)
    | _ => false) = true := c
  split at c2
  · rename_i j t e
    rw [← of_decide_eq_true c2]
    exact ⟨t, T.g e⟩
  · cases c2
/-- a def, by its place in the list: its body's walk gives its promise -/
theorem mk_ok {P : Program} {w : World} {base : Heap} {CX : CXT} {k : Nat} {sp : Sp} {N ps : List Str} (T : Tx K mg) (i : Nat) {d : He.DefD} (hi : fn[i]? = some d) (h1 : d.dfl = []) (h2 : d.kwd = []) (S : FnScope N ps d.scope)
    (hb : ∀ (kV doc pm : Value) (an : Option Addr) (cdv ct : Value) (us : List Value), us.length = ps.length → bindArgs (PySem.W.fnOf d.name d.qual d.params d.body d.scope .none kV doc pm an cdv ct) ⟨us, []⟩ = pure (ps.zip us))
    (len : ∀ vs H Q E, sp vs H Q E → vs.length = ps.length)
    (hw : ∀ (cdv : Value) (A : Around) (outer : List Env) (s : Shared) (H : Hp) (vs : List V) (Q : VK) (E : XK), Room k (A.deeper (envOfC d.qual d.scope s.heap.objs.size (He.fAd K d.at_) cdv)) → sp vs H Q E →
      WSs (cxOf CX P w K mg base N d.qual d.scope (He.fAd K d.at_) cdv A outer s H E) d.body { nx := fun _ H' => Q .non H', rt := Q } (start N vs) H) : OkF P w K mg base CX (k + 1) (He.fAd K d.at_) ps sp := by
  obtain ⟨fd, F⟩ := T.cd.def_ i hi
  have e1 : d.dvs K = [] := by unfold He.DefD.dvs; rw [h1]; rfl
  have e2 : d.kws K = [] := by unfold He.DefD.kws; rw [h2]; rfl
  rw [e1, e2] at F
  exact ⟨fd, F.ok S len fun cdv A outer s H vs Q E hr h => ⟨_, pss_we, hw cdv A outer s H vs Q E hr h⟩, F.bindsN hb, F.kp⟩
theorem Tx.gis_name (T : Tx K mg) : mg "is_name" = some (.ref (He.fAd K ("is_name", none))) := T.glo (T.cd.fact 0 (f := .glo "is_name") rfl)
theorem Tx.gright_row (T : Tx K mg) : mg "right_row" = some (.ref (He.fAd K ("right_row", none))) := T.glo (T.cd.fact 1 (f := .glo "right_row") rfl)
theorem Tx.gascend (T : Tx K mg) : mg "ascend" = some (.ref (He.fAd K ("ascend", none))) := T.glo (T.cd.fact 2 (f := .glo "ascend") rfl)
theorem Tx.gright_table (T : Tx K mg) : mg "right_table" = some (.ref (He.fAd K ("right_table", none))) := T.glo (T.cd.fact 3 (f := .glo "right_table") rfl)
theorem Tx.gcheck_catalogue (T : Tx K mg) : mg "check_catalogue" = some (.ref (He.fAd K ("check_catalogue", none))) := T.glo (T.cd.fact 4 (f := .glo "check_catalogue") rfl)
theorem Tx.gplace_of (T : Tx K mg) : mg "place_of" = some (.ref (He.fAd K ("place_of", none))) := T.glo (T.cd.fact 5 (f := .glo "place_of") rfl)
theorem Tx.gtable_at (T : Tx K mg) : mg "table_at" = some (.ref (He.fAd K ("table_at", none))) := T.glo (T.cd.fact 6 (f := .glo "table_at") rfl)
theorem Tx.gwith_rows (T : Tx K mg) : mg "with_rows" = some (.ref (He.fAd K ("with_rows", none))) := T.glo (T.cd.fact 7 (f := .glo "with_rows") rfl)
theorem Tx.gwith_row (T : Tx K mg) : mg "with_row" = some (.ref (He.fAd K ("with_row", none))) := T.glo (T.cd.fact 8 (f := .glo "with_row") rfl)
theorem Tx.gwithout_row (T : Tx K mg) : mg "without_row" = some (.ref (He.fAd K ("without_row", none))) := T.glo (T.cd.fact 9 (f := .glo "without_row") rfl)
theorem Tx.gall_variables (T : Tx K mg) : mg "all_variables" = some (.ref (He.fAd K ("all_variables", none))) := T.glo (T.cd.fact 10 (f := .glo "all_variables") rfl)
theorem Tx.gright_atoms (T : Tx K mg) : mg "right_atoms" = some (.ref (He.fAd K ("right_atoms", none))) := T.glo (T.cd.fact 11 (f := .glo "right_atoms") rfl)
theorem Tx.gcheck_pattern (T : Tx K mg) : mg "check_pattern" = some (.ref (He.fAd K ("check_pattern", none))) := T.glo (T.cd.fact 12 (f := .glo "check_pattern") rfl)
theorem Tx.gcheck_fit (T : Tx K mg) : mg "check_fit" = some (.ref (He.fAd K ("check_fit", none))) := T.glo (T.cd.fact 13 (f := .glo "check_fit") rfl)
theorem Tx.gplace_from (T : Tx K mg) : mg "place_from" = some (.ref (He.fAd K ("place_from", none))) := T.glo (T.cd.fact 14 (f := .glo "place_from") rfl)
theorem Tx.gcommon (T : Tx K mg) : mg "common" = some (.ref (He.fAd K ("common", none))) := T.glo (T.cd.fact 15 (f := .glo "common") rfl)
theorem Tx.gjoined (T : Tx K mg) : mg "joined" = some (.ref (He.fAd K ("joined", none))) := T.glo (T.cd.fact 16 (f := .glo "joined") rfl)
theorem Tx.gwrite_catalogue (T : Tx K mg) : mg "write_catalogue" = some (.ref (He.fAd K ("write_catalogue", none))) := T.glo (T.cd.fact 17 (f := .glo "write_catalogue") rfl)
theorem Tx.gwrite_pattern (T : Tx K mg) : mg "write_pattern" = some (.ref (He.fAd K ("write_pattern", none))) := T.glo (T.cd.fact 18 (f := .glo "write_pattern") rfl)
theorem Tx.gcounted (T : Tx K mg) : mg "counted" = some (.ref (He.fAd K ("counted", none))) := T.glo (T.cd.fact 19 (f := .glo "counted") rfl)
theorem Tx.gwith_copies (T : Tx K mg) : mg "with_copies" = some (.ref (He.fAd K ("with_copies", none))) := T.glo (T.cd.fact 20 (f := .glo "with_copies") rfl)
theorem Tx.gl_begin (T : Tx K mg) : mg "_law_begin" = some (.ref (He.fAd K ("_law_begin", none))) := T.glo (T.cd.fact 21 (f := .glo "_law_begin") rfl)
theorem Tx.gl_take (T : Tx K mg) : mg "_law_take" = some (.ref (He.fAd K ("_law_take", none))) := T.glo (T.cd.fact 22 (f := .glo "_law_take") rfl)
theorem Tx.gl_rows (T : Tx K mg) : mg "_law_rows" = some (.ref (He.fAd K ("_law_rows", none))) := T.glo (T.cd.fact 23 (f := .glo "_law_rows") rfl)
theorem Tx.gl_catalogue (T : Tx K mg) : mg "_law_catalogue" = some (.ref (He.fAd K ("_law_catalogue", none))) := T.glo (T.cd.fact 24 (f := .glo "_law_catalogue") rfl)
theorem Tx.gl_table (T : Tx K mg) : mg "_law_table" = some (.ref (He.fAd K ("_law_table", none))) := T.glo (T.cd.fact 25 (f := .glo "_law_table") rfl)
theorem Tx.gl_with (T : Tx K mg) : mg "_law_with" = some (.ref (He.fAd K ("_law_with", none))) := T.glo (T.cd.fact 26 (f := .glo "_law_with") rfl)
theorem Tx.gl_variables (T : Tx K mg) : mg "_law_variables" = some (.ref (He.fAd K ("_law_variables", none))) := T.glo (T.cd.fact 27 (f := .glo "_law_variables") rfl)
theorem Tx.gl_pattern (T : Tx K mg) : mg "_law_pattern" = some (.ref (He.fAd K ("_law_pattern", none))) := T.glo (T.cd.fact 28 (f := .glo "_law_pattern") rfl)
theorem Tx.gl_agrees (T : Tx K mg) : mg "_law_agrees" = some (.ref (He.fAd K ("_law_agrees", none))) := T.glo (T.cd.fact 29 (f := .glo "_law_agrees") rfl)
theorem Tx.gl_partials (T : Tx K mg) : mg "_law_partials" = some (.ref (He.fAd K ("_law_partials", none))) := T.glo (T.cd.fact 30 (f := .glo "_law_partials") rfl)
theorem Tx.gl_assignments (T : Tx K mg) : mg "_law_assignments" = some (.ref (He.fAd K ("_law_assignments", none))) := T.glo (T.cd.fact 31 (f := .glo "_law_assignments") rfl)
theorem Tx.gl_named (T : Tx K mg) : mg "_law_named" = some (.ref (He.fAd K ("_law_named", none))) := T.glo (T.cd.fact 32 (f := .glo "_law_named") rfl)
theorem Tx.gl_answers (T : Tx K mg) : mg "_law_answers" = some (.ref (He.fAd K ("_law_answers", none))) := T.glo (T.cd.fact 33 (f := .glo "_law_answers") rfl)
theorem Tx.gl_class (T : Tx K mg) : mg "_law_class" = some (.ref (He.fAd K ("_law_class", none))) := T.glo (T.cd.fact 34 (f := .glo "_law_class") rfl)
theorem Tx.gl_do (T : Tx K mg) : mg "_law_do" = some (.ref (He.fAd K ("_law_do", none))) := T.glo (T.cd.fact 35 (f := .glo "_law_do") rfl)
theorem Tx.gl_changes (T : Tx K mg) : mg "_law_changes" = some (.ref (He.fAd K ("_law_changes", none))) := T.glo (T.cd.fact 36 (f := .glo "_law_changes") rfl)
theorem Tx.gl_step (T : Tx K mg) : mg "_law_step" = some (.ref (He.fAd K ("_law_step", none))) := T.glo (T.cd.fact 37 (f := .glo "_law_step") rfl)
theorem Tx.gl_same (T : Tx K mg) : mg "_law_same" = some (.ref (He.fAd K ("_law_same", none))) := T.glo (T.cd.fact 38 (f := .glo "_law_same") rfl)
theorem Tx.glaw (T : Tx K mg) : mg "law" = some (.ref (He.fAd K ("law", none))) := T.glo (T.cd.fact 39 (f := .glo "law") rfl)
theorem Tx.b_len (T : Tx K mg) : mg "len" = none := T.free (T.cd.fact 40 (f := .free "len") rfl)
theorem Tx.b_all (T : Tx K mg) : mg "all" = none := T.free (T.cd.fact 41 (f := .free "all") rfl)
theorem Tx.b_any (T : Tx K mg) : mg "any" = none := T.free (T.cd.fact 42 (f := .free "any") rfl)
theorem Tx.b_range (T : Tx K mg) : mg "range" = none := T.free (T.cd.fact 43 (f := .free "range") rfl)
theorem Tx.b_tuple (T : Tx K mg) : mg "tuple" = none := T.free (T.cd.fact 44 (f := .free "tuple") rfl)
theorem Tx.b_list (T : Tx K mg) : mg "list" = none := T.free (T.cd.fact 45 (f := .free "list") rfl)
theorem Tx.b_sorted (T : Tx K mg) : mg "sorted" = none := T.free (T.cd.fact 46 (f := .free "sorted") rfl)
theorem Tx.b_set (T : Tx K mg) : mg "set" = none := T.free (T.cd.fact 47 (f := .free "set") rfl)
theorem Tx.b_str (T : Tx K mg) : mg "str" = none := T.free (T.cd.fact 48 (f := .free "str") rfl)
theorem Tx.b_int (T : Tx K mg) : mg "int" = none := T.free (T.cd.fact 49 (f := .free "int") rfl)
theorem Tx.b_abs (T : Tx K mg) : mg "abs" = none := T.free (T.cd.fact 50 (f := .free "abs") rfl)
theorem Tx.b_sum (T : Tx K mg) : mg "sum" = none := T.free (T.cd.fact 51 (f := .free "sum") rfl)
theorem Tx.b_isinstance (T : Tx K mg) : mg "isinstance" = none := T.free (T.cd.fact 52 (f := .free "isinstance") rfl)
theorem Tx.TABLE_LIMIT (T : Tx K mg) : ∃ t, mg "TABLE_LIMIT" = some (.int 8 t) := T.int (T.cd.fact 53 (f := .int "TABLE_LIMIT" 8) rfl)
theorem Tx.ROW_LIMIT (T : Tx K mg) : ∃ t, mg "ROW_LIMIT" = some (.int 300 t) := T.int (T.cd.fact 54 (f := .int "ROW_LIMIT" 300) rfl)
theorem Tx.COLUMN_LIMIT (T : Tx K mg) : ∃ t, mg "COLUMN_LIMIT" = some (.int 4 t) := T.int (T.cd.fact 55 (f := .int "COLUMN_LIMIT" 4) rfl)
theorem Tx.NUMBER_LIMIT (T : Tx K mg) : ∃ t, mg "NUMBER_LIMIT" = some (.int 999999999 t) := T.int (T.cd.fact 56 (f := .int "NUMBER_LIMIT" 999999999) rfl)
theorem Tx.NAME_LIMIT (T : Tx K mg) : ∃ t, mg "NAME_LIMIT" = some (.int 20 t) := T.int (T.cd.fact 57 (f := .int "NAME_LIMIT" 20) rfl)
theorem Tx.ATOM_LIMIT (T : Tx K mg) : ∃ t, mg "ATOM_LIMIT" = some (.int 8 t) := T.int (T.cd.fact 58 (f := .int "ATOM_LIMIT" 8) rfl)
theorem Tx.VARIABLE_LIMIT (T : Tx K mg) : ∃ t, mg "VARIABLE_LIMIT" = some (.int 8 t) := T.int (T.cd.fact 59 (f := .int "VARIABLE_LIMIT" 8) rfl)
theorem Tx.PLACE_LIMIT (T : Tx K mg) : ∃ t, mg "PLACE_LIMIT" = some (.int 4 t) := T.int (T.cd.fact 60 (f := .int "PLACE_LIMIT" 4) rfl)
theorem Tx.VISIT_LIMIT (T : Tx K mg) : ∃ t, mg "VISIT_LIMIT" = some (.int 20000 t) := T.int (T.cd.fact 61 (f := .int "VISIT_LIMIT" 20000) rfl)
theorem Tx.STANDING_LIMIT (T : Tx K mg) : ∃ t, mg "STANDING_LIMIT" = some (.int 8 t) := T.int (T.cd.fact 62 (f := .int "STANDING_LIMIT" 8) rfl)
theorem Tx.LETTERS (T : Tx K mg) : ∃ t, mg "LETTERS" = some (.str "abcdefghijklmnopqrstuvwxyz" t) := T.str (T.cd.fact 63 (f := .str "LETTERS" "abcdefghijklmnopqrstuvwxyz") rfl)
theorem Tx.NAME_SIGNS (T : Tx K mg) : ∃ t, mg "NAME_SIGNS" = some (.str "abcdefghijklmnopqrstuvwxyz0123456789" t) := T.str (T.cd.fact 64 (f := .str "NAME_SIGNS" "abcdefghijklmnopqrstuvwxyz0123456789") rfl)
theorem Tx.gTrie (T : Tx K mg) : mg "Trie" = some (.ref (He.ga K "Trie")) := T.glo (T.cd.fact 65 (f := .glo "Trie") rfl)
theorem Tx.clTrie (T : Tx K mg) : Cls K (He.ga K "Trie") := He.cls_ok (T.cd.fact 66 (f := .cls "Trie") rfl)
theorem Tx.mkTrie (T : Tx K mg) : Mk K (He.ga K "Trie") (He.fAd K ("Trie", some "__init__")) := He.mkr_ok (T.cd.fact 67 (f := .mkr "Trie") rfl)
theorem Tx.no_Trie_top (T : Tx K mg) : NoAttr K (He.ga K "Trie") "top" := He.noat_ok (T.cd.fact 68 (f := .noat "Trie" "top") rfl)
theorem Tx.no_Trie_size (T : Tx K mg) : NoAttr K (He.ga K "Trie") "size" := He.noat_ok (T.cd.fact 69 (f := .noat "Trie" "size") rfl)
theorem Tx.no_Trie_depth (T : Tx K mg) : NoAttr K (He.ga K "Trie") "depth" := He.noat_ok (T.cd.fact 70 (f := .noat "Trie" "depth") rfl)
theorem Tx.gBranch (T : Tx K mg) : mg "Branch" = some (.ref (He.ga K "Branch")) := T.glo (T.cd.fact 71 (f := .glo "Branch") rfl)
theorem Tx.clBranch (T : Tx K mg) : Cls K (He.ga K "Branch") := He.cls_ok (T.cd.fact 72 (f := .cls "Branch") rfl)
theorem Tx.mkBranch (T : Tx K mg) : Mk K (He.ga K "Branch") (He.fAd K ("Branch", some "__init__")) := He.mkr_ok (T.cd.fact 73 (f := .mkr "Branch") rfl)
theorem Tx.no_Branch_places (T : Tx K mg) : NoAttr K (He.ga K "Branch") "places" := He.noat_ok (T.cd.fact 74 (f := .noat "Branch" "places") rfl)
theorem Tx.no_Branch_empty (T : Tx K mg) : NoAttr K (He.ga K "Branch") "empty" := He.noat_ok (T.cd.fact 75 (f := .noat "Branch" "empty") rfl)
theorem Tx.no_Branch_trie (T : Tx K mg) : NoAttr K (He.ga K "Branch") "trie" := He.noat_ok (T.cd.fact 76 (f := .noat "Branch" "trie") rfl)
theorem Tx.gSearch (T : Tx K mg) : mg "Search" = some (.ref (He.ga K "Search")) := T.glo (T.cd.fact 77 (f := .glo "Search") rfl)
theorem Tx.clSearch (T : Tx K mg) : Cls K (He.ga K "Search") := He.cls_ok (T.cd.fact 78 (f := .cls "Search") rfl)
theorem Tx.mkSearch (T : Tx K mg) : Mk K (He.ga K "Search") (He.fAd K ("Search", some "__init__")) := He.mkr_ok (T.cd.fact 79 (f := .mkr "Search") rfl)
theorem Tx.no_Search_many (T : Tx K mg) : NoAttr K (He.ga K "Search") "many" := He.noat_ok (T.cd.fact 80 (f := .noat "Search" "many") rfl)
theorem Tx.no_Search_branches (T : Tx K mg) : NoAttr K (He.ga K "Search") "branches" := He.noat_ok (T.cd.fact 81 (f := .noat "Search" "branches") rfl)
theorem Tx.no_Search_dead (T : Tx K mg) : NoAttr K (He.ga K "Search") "dead" := He.noat_ok (T.cd.fact 82 (f := .noat "Search" "dead") rfl)
theorem Tx.gKeeper (T : Tx K mg) : mg "Keeper" = some (.ref (He.ga K "Keeper")) := T.glo (T.cd.fact 83 (f := .glo "Keeper") rfl)
theorem Tx.clKeeper (T : Tx K mg) : Cls K (He.ga K "Keeper") := He.cls_ok (T.cd.fact 84 (f := .cls "Keeper") rfl)
theorem Tx.mkKeeper (T : Tx K mg) : Mk K (He.ga K "Keeper") (He.fAd K ("Keeper", some "__init__")) := He.mkr_ok (T.cd.fact 85 (f := .mkr "Keeper") rfl)
theorem Tx.no_Keeper_tables (T : Tx K mg) : NoAttr K (He.ga K "Keeper") "tables" := He.noat_ok (T.cd.fact 86 (f := .noat "Keeper" "tables") rfl)
theorem Tx.no_Keeper_patterns (T : Tx K mg) : NoAttr K (He.ga K "Keeper") "patterns" := He.noat_ok (T.cd.fact 87 (f := .noat "Keeper" "patterns") rfl)
theorem Tx.no_Keeper_counts (T : Tx K mg) : NoAttr K (He.ga K "Keeper") "counts" := He.noat_ok (T.cd.fact 88 (f := .noat "Keeper" "counts") rfl)
theorem Tx.no_Keeper_sizes (T : Tx K mg) : NoAttr K (He.ga K "Keeper") "sizes" := He.noat_ok (T.cd.fact 89 (f := .noat "Keeper" "sizes") rfl)
theorem Tx.no_Keeper_lines (T : Tx K mg) : NoAttr K (He.ga K "Keeper") "lines" := He.noat_ok (T.cd.fact 90 (f := .noat "Keeper" "lines") rfl)
theorem Tx.me_Trie_put (T : Tx K mg) : Meth K (He.ga K "Trie") "put" (He.fAd K ("Trie", some "put")) := He.meth_ok (T.cd.fact 91 (f := .meth "Trie" "put") rfl)
theorem Tx.me_Trie_node_at (T : Tx K mg) : Meth K (He.ga K "Trie") "node_at" (He.fAd K ("Trie", some "node_at")) := He.meth_ok (T.cd.fact 92 (f := .meth "Trie" "node_at") rfl)
theorem Tx.me_Trie_children (T : Tx K mg) : Meth K (He.ga K "Trie") "children" (He.fAd K ("Trie", some "children")) := He.meth_ok (T.cd.fact 93 (f := .meth "Trie" "children") rfl)
theorem Tx.me_Branch_agrees (T : Tx K mg) : Meth K (He.ga K "Branch") "agrees" (He.fAd K ("Branch", some "agrees")) := He.meth_ok (T.cd.fact 94 (f := .meth "Branch" "agrees") rfl)
theorem Tx.me_Branch_choices (T : Tx K mg) : Meth K (He.ga K "Branch") "choices" (He.fAd K ("Branch", some "choices")) := He.meth_ok (T.cd.fact 95 (f := .meth "Branch" "choices") rfl)
theorem Tx.me_Search_next_ones (T : Tx K mg) : Meth K (He.ga K "Search") "next_ones" (He.fAd K ("Search", some "next_ones")) := He.meth_ok (T.cd.fact 96 (f := .meth "Search" "next_ones") rfl)
theorem Tx.me_Search_first_level (T : Tx K mg) : Meth K (He.ga K "Search") "first_level" (He.fAd K ("Search", some "first_level")) := He.meth_ok (T.cd.fact 97 (f := .meth "Search" "first_level") rfl)
theorem Tx.me_Search_deeper (T : Tx K mg) : Meth K (He.ga K "Search") "deeper" (He.fAd K ("Search", some "deeper")) := He.meth_ok (T.cd.fact 98 (f := .meth "Search" "deeper") rfl)
theorem Tx.me_Keeper_note (T : Tx K mg) : Meth K (He.ga K "Keeper") "note" (He.fAd K ("Keeper", some "note")) := He.meth_ok (T.cd.fact 99 (f := .meth "Keeper" "note") rfl)
theorem Tx.me_Keeper_known (T : Tx K mg) : Meth K (He.ga K "Keeper") "known" (He.fAd K ("Keeper", some "known")) := He.meth_ok (T.cd.fact 100 (f := .meth "Keeper" "known") rfl)
theorem Tx.me_Keeper_stand (T : Tx K mg) : Meth K (He.ga K "Keeper") "stand" (He.fAd K ("Keeper", some "stand")) := He.meth_ok (T.cd.fact 101 (f := .meth "Keeper" "stand") rfl)
theorem Tx.me_Keeper_fall (T : Tx K mg) : Meth K (He.ga K "Keeper") "fall" (He.fAd K ("Keeper", some "fall")) := He.meth_ok (T.cd.fact 102 (f := .meth "Keeper" "fall") rfl)
theorem Tx.me_Keeper_answers (T : Tx K mg) : Meth K (He.ga K "Keeper") "answers" (He.fAd K ("Keeper", some "answers")) := He.meth_ok (T.cd.fact 103 (f := .meth "Keeper" "answers") rfl)
theorem Tx.me_Keeper_ways (T : Tx K mg) : Meth K (He.ga K "Keeper") "ways" (He.fAd K ("Keeper", some "ways")) := He.meth_ok (T.cd.fact 104 (f := .meth "Keeper" "ways") rfl)
theorem Tx.me_Keeper_changes (T : Tx K mg) : Meth K (He.ga K "Keeper") "changes" (He.fAd K ("Keeper", some "changes")) := He.meth_ok (T.cd.fact 105 (f := .meth "Keeper" "changes") rfl)
theorem Tx.me_Keeper_turn (T : Tx K mg) : Meth K (He.ga K "Keeper") "turn" (He.fAd K ("Keeper", some "turn")) := He.meth_ok (T.cd.fact 106 (f := .meth "Keeper" "turn") rfl)
theorem Tx.me_Keeper_turn_all (T : Tx K mg) : Meth K (He.ga K "Keeper") "turn_all" (He.fAd K ("Keeper", some "turn_all")) := He.meth_ok (T.cd.fact 107 (f := .meth "Keeper" "turn_all") rfl)
theorem Tx.me_Keeper_add (T : Tx K mg) : Meth K (He.ga K "Keeper") "add" (He.fAd K ("Keeper", some "add")) := He.meth_ok (T.cd.fact 108 (f := .meth "Keeper" "add") rfl)
theorem Tx.me_Keeper_drop (T : Tx K mg) : Meth K (He.ga K "Keeper") "drop" (He.fAd K ("Keeper", some "drop")) := He.meth_ok (T.cd.fact 109 (f := .meth "Keeper" "drop") rfl)
theorem Tx.gStandingError (T : Tx K mg) : mg "StandingError" = some (.ref (He.ga K "StandingError")) := T.glo (T.cd.fact 110 (f := .glo "StandingError") rfl)
theorem Tx.gRowError (T : Tx K mg) : mg "RowError" = some (.ref (He.ga K "RowError")) := T.glo (T.cd.fact 111 (f := .glo "RowError") rfl)
theorem Tx.gUnknownTable (T : Tx K mg) : mg "UnknownTable" = some (.ref (He.ga K "UnknownTable")) := T.glo (T.cd.fact 112 (f := .glo "UnknownTable") rfl)
theorem Tx.gPatternError (T : Tx K mg) : mg "PatternError" = some (.ref (He.ga K "PatternError")) := T.glo (T.cd.fact 113 (f := .glo "PatternError") rfl)
theorem Tx.gHallError (T : Tx K mg) : mg "HallError" = some (.ref (He.ga K "HallError")) := T.glo (T.cd.fact 114 (f := .glo "HallError") rfl)
theorem Tx.ex_StandingError (T : Tx K mg) : PySem.W.excIn K (He.ga K "StandingError") He.veBase "ValueError.__new__" = true ∧ PySem.W.keepIn K (.ref (He.ga K "StandingError")) = true ∧ PySem.W.subIn K (.ref (He.ga K "StandingError")) (.type "BaseException") = some true ∧ PySem.W.typeIn K (.ref (He.ga K "StandingError")) = some (.type "type") := He.exc_ok (T.cd.fact 115 (f := .exc "StandingError") rfl)
theorem Tx.ex_RowError (T : Tx K mg) : PySem.W.excIn K (He.ga K "RowError") He.veBase "ValueError.__new__" = true ∧ PySem.W.keepIn K (.ref (He.ga K "RowError")) = true ∧ PySem.W.subIn K (.ref (He.ga K "RowError")) (.type "BaseException") = some true ∧ PySem.W.typeIn K (.ref (He.ga K "RowError")) = some (.type "type") := He.exc_ok (T.cd.fact 116 (f := .exc "RowError") rfl)
theorem Tx.ex_UnknownTable (T : Tx K mg) : PySem.W.excIn K (He.ga K "UnknownTable") He.veBase "ValueError.__new__" = true ∧ PySem.W.keepIn K (.ref (He.ga K "UnknownTable")) = true ∧ PySem.W.subIn K (.ref (He.ga K "UnknownTable")) (.type "BaseException") = some true ∧ PySem.W.typeIn K (.ref (He.ga K "UnknownTable")) = some (.type "type") := He.exc_ok (T.cd.fact 117 (f := .exc "UnknownTable") rfl)
theorem Tx.exm_StandingError (T : Tx K mg) : PySem.W.exmOne K (.ref (He.ga K "StandingError")) (.ref (He.ga K "HallError")) = some true := He.exm_ok (T.cd.fact 118 (f := .exm "StandingError" "HallError" true) rfl)
theorem Tx.exm_RowError (T : Tx K mg) : PySem.W.exmOne K (.ref (He.ga K "RowError")) (.ref (He.ga K "HallError")) = some true := He.exm_ok (T.cd.fact 119 (f := .exm "RowError" "HallError" true) rfl)
theorem Tx.exm_UnknownTable (T : Tx K mg) : PySem.W.exmOne K (.ref (He.ga K "UnknownTable")) (.ref (He.ga K "HallError")) = some true := He.exm_ok (T.cd.fact 120 (f := .exm "UnknownTable" "HallError" true) rfl)
variable {P : Program} {w : World} {base : Heap} {CX : CXT} {k : Nat} {sp : Sp}
abbrev n_is_name : List Str := ["word", "sign"]
theorem sc_is_name : FnScope n_is_name ["word"] (defScope s_is_name) := ⟨rfl, rfl, rfl, by decide +kernel, rfl, by decide +kernel, by decide +kernel⟩
theorem mk_is_name (T : Tx K mg) (len : ∀ vs H Q E, sp vs H Q E → vs.length = 1)
    (hw : ∀ (cdv : Value) (A : Around) (outer : List Env) (s : Shared) (H : Hp) (vs : List V) (Q : VK) (E : XK), Room k (A.deeper (envOfC "is_name" (defScope s_is_name) s.heap.objs.size (He.fAd K ("is_name", none)) cdv)) → sp vs H Q E →
      WSs (cxOf CX P w K mg base n_is_name "is_name" (defScope s_is_name) (He.fAd K ("is_name", none)) cdv A outer s H E) (defBody s_is_name) { nx := fun _ H' => Q .non H', rt := Q } (start n_is_name vs) H) : OkF P w K mg base CX (k + 1) (He.fAd K ("is_name", none)) ["word"] sp :=
  mk_ok T 0 (d := ⟨("is_name", none), "is_name", "is_name", defArgs s_is_name, defBody s_is_name, defScope s_is_name, [], []⟩) rfl rfl rfl sc_is_name (fun _ _ _ _ _ _ us hl => match us, hl with | [_], _ => rfl) len hw
abbrev n_right_row : List Str := ["columns", "row", "number"]
theorem sc_right_row : FnScope n_right_row ["columns", "row"] (defScope s_right_row) := ⟨rfl, rfl, rfl, by decide +kernel, rfl, by decide +kernel, by decide +kernel⟩
theorem mk_right_row (T : Tx K mg) (len : ∀ vs H Q E, sp vs H Q E → vs.length = 2)
    (hw : ∀ (cdv : Value) (A : Around) (outer : List Env) (s : Shared) (H : Hp) (vs : List V) (Q : VK) (E : XK), Room k (A.deeper (envOfC "right_row" (defScope s_right_row) s.heap.objs.size (He.fAd K ("right_row", none)) cdv)) → sp vs H Q E →
      WSs (cxOf CX P w K mg base n_right_row "right_row" (defScope s_right_row) (He.fAd K ("right_row", none)) cdv A outer s H E) (defBody s_right_row) { nx := fun _ H' => Q .non H', rt := Q } (start n_right_row vs) H) : OkF P w K mg base CX (k + 1) (He.fAd K ("right_row", none)) ["columns", "row"] sp :=
  mk_ok T 1 (d := ⟨("right_row", none), "right_row", "right_row", defArgs s_right_row, defBody s_right_row, defScope s_right_row, [], []⟩) rfl rfl rfl sc_right_row (fun _ _ _ _ _ _ us hl => match us, hl with | [_, _], _ => rfl) len hw
abbrev n_ascend : List Str := ["items", "k"]
theorem sc_ascend : FnScope n_ascend ["items"] (defScope s_ascend) := ⟨rfl, rfl, rfl, by decide +kernel, rfl, by decide +kernel, by decide +kernel⟩
theorem mk_ascend (T : Tx K mg) (len : ∀ vs H Q E, sp vs H Q E → vs.length = 1)
    (hw : ∀ (cdv : Value) (A : Around) (outer : List Env) (s : Shared) (H : Hp) (vs : List V) (Q : VK) (E : XK), Room k (A.deeper (envOfC "ascend" (defScope s_ascend) s.heap.objs.size (He.fAd K ("ascend", none)) cdv)) → sp vs H Q E →
      WSs (cxOf CX P w K mg base n_ascend "ascend" (defScope s_ascend) (He.fAd K ("ascend", none)) cdv A outer s H E) (defBody s_ascend) { nx := fun _ H' => Q .non H', rt := Q } (start n_ascend vs) H) : OkF P w K mg base CX (k + 1) (He.fAd K ("ascend", none)) ["items"] sp :=
  mk_ok T 2 (d := ⟨("ascend", none), "ascend", "ascend", defArgs s_ascend, defBody s_ascend, defScope s_ascend, [], []⟩) rfl rfl rfl sc_ascend (fun _ _ _ _ _ _ us hl => match us, hl with | [_], _ => rfl) len hw
abbrev n_right_table : List Str := ["table", "name", "columns", "rows", "row"]
theorem sc_right_table : FnScope n_right_table ["table"] (defScope s_right_table) := ⟨rfl, rfl, rfl, by decide +kernel, rfl, by decide +kernel, by decide +kernel⟩
theorem mk_right_table (T : Tx K mg) (len : ∀ vs H Q E, sp vs H Q E → vs.length = 1)
    (hw : ∀ (cdv : Value) (A : Around) (outer : List Env) (s : Shared) (H : Hp) (vs : List V) (Q : VK) (E : XK), Room k (A.deeper (envOfC "right_table" (defScope s_right_table) s.heap.objs.size (He.fAd K ("right_table", none)) cdv)) → sp vs H Q E →
      WSs (cxOf CX P w K mg base n_right_table "right_table" (defScope s_right_table) (He.fAd K ("right_table", none)) cdv A outer s H E) (defBody s_right_table) { nx := fun _ H' => Q .non H', rt := Q } (start n_right_table vs) H) : OkF P w K mg base CX (k + 1) (He.fAd K ("right_table", none)) ["table"] sp :=
  mk_ok T 3 (d := ⟨("right_table", none), "right_table", "right_table", defArgs s_right_table, defBody s_right_table, defScope s_right_table, [], []⟩) rfl rfl rfl sc_right_table (fun _ _ _ _ _ _ us hl => match us, hl with | [_], _ => rfl) len hw
abbrev n_check_catalogue : List Str := ["catalogue", "table"]
theorem sc_check_catalogue : FnScope n_check_catalogue ["catalogue"] (defScope s_check_catalogue) := ⟨rfl, rfl, rfl, by decide +kernel, rfl, by decide +kernel, by decide +kernel⟩
theorem mk_check_catalogue (T : Tx K mg) (len : ∀ vs H Q E, sp vs H Q E → vs.length = 1)
    (hw : ∀ (cdv : Value) (A : Around) (outer : List Env) (s : Shared) (H : Hp) (vs : List V) (Q : VK) (E : XK), Room k (A.deeper (envOfC "check_catalogue" (defScope s_check_catalogue) s.heap.objs.size (He.fAd K ("check_catalogue", none)) cdv)) → sp vs H Q E →
      WSs (cxOf CX P w K mg base n_check_catalogue "check_catalogue" (defScope s_check_catalogue) (He.fAd K ("check_catalogue", none)) cdv A outer s H E) (defBody s_check_catalogue) { nx := fun _ H' => Q .non H', rt := Q } (start n_check_catalogue vs) H) : OkF P w K mg base CX (k + 1) (He.fAd K ("check_catalogue", none)) ["catalogue"] sp :=
  mk_ok T 4 (d := ⟨("check_catalogue", none), "check_catalogue", "check_catalogue", defArgs s_check_catalogue, defBody s_check_catalogue, defScope s_check_catalogue, [], []⟩) rfl rfl rfl sc_check_catalogue (fun _ _ _ _ _ _ us hl => match us, hl with | [_], _ => rfl) len hw
abbrev n_place_of : List Str := ["catalogue", "name", "k"]
theorem sc_place_of : FnScope n_place_of ["catalogue", "name"] (defScope s_place_of) := ⟨rfl, rfl, rfl, by decide +kernel, rfl, by decide +kernel, by decide +kernel⟩
theorem mk_place_of (T : Tx K mg) (len : ∀ vs H Q E, sp vs H Q E → vs.length = 2)
    (hw : ∀ (cdv : Value) (A : Around) (outer : List Env) (s : Shared) (H : Hp) (vs : List V) (Q : VK) (E : XK), Room k (A.deeper (envOfC "place_of" (defScope s_place_of) s.heap.objs.size (He.fAd K ("place_of", none)) cdv)) → sp vs H Q E →
      WSs (cxOf CX P w K mg base n_place_of "place_of" (defScope s_place_of) (He.fAd K ("place_of", none)) cdv A outer s H E) (defBody s_place_of) { nx := fun _ H' => Q .non H', rt := Q } (start n_place_of vs) H) : OkF P w K mg base CX (k + 1) (He.fAd K ("place_of", none)) ["catalogue", "name"] sp :=
  mk_ok T 5 (d := ⟨("place_of", none), "place_of", "place_of", defArgs s_place_of, defBody s_place_of, defScope s_place_of, [], []⟩) rfl rfl rfl sc_place_of (fun _ _ _ _ _ _ us hl => match us, hl with | [_, _], _ => rfl) len hw
abbrev n_table_at : List Str := ["catalogue", "name", "k"]
theorem sc_table_at : FnScope n_table_at ["catalogue", "name"] (defScope s_table_at) := ⟨rfl, rfl, rfl, by decide +kernel, rfl, by decide +kernel, by decide +kernel⟩
theorem mk_table_at (T : Tx K mg) (len : ∀ vs H Q E, sp vs H Q E → vs.length = 2)
    (hw : ∀ (cdv : Value) (A : Around) (outer : List Env) (s : Shared) (H : Hp) (vs : List V) (Q : VK) (E : XK), Room k (A.deeper (envOfC "table_at" (defScope s_table_at) s.heap.objs.size (He.fAd K ("table_at", none)) cdv)) → sp vs H Q E →
      WSs (cxOf CX P w K mg base n_table_at "table_at" (defScope s_table_at) (He.fAd K ("table_at", none)) cdv A outer s H E) (defBody s_table_at) { nx := fun _ H' => Q .non H', rt := Q } (start n_table_at vs) H) : OkF P w K mg base CX (k + 1) (He.fAd K ("table_at", none)) ["catalogue", "name"] sp :=
  mk_ok T 6 (d := ⟨("table_at", none), "table_at", "table_at", defArgs s_table_at, defBody s_table_at, defScope s_table_at, [], []⟩) rfl rfl rfl sc_table_at (fun _ _ _ _ _ _ us hl => match us, hl with | [_, _], _ => rfl) len hw
abbrev n_with_rows : List Str := ["catalogue", "name", "rows", "k"]
theorem sc_with_rows : FnScope n_with_rows ["catalogue", "name", "rows"] (defScope s_with_rows) := ⟨rfl, rfl, rfl, by decide +kernel, rfl, by decide +kernel, by decide +kernel⟩
theorem mk_with_rows (T : Tx K mg) (len : ∀ vs H Q E, sp vs H Q E → vs.length = 3)
    (hw : ∀ (cdv : Value) (A : Around) (outer : List Env) (s : Shared) (H : Hp) (vs : List V) (Q : VK) (E : XK), Room k (A.deeper (envOfC "with_rows" (defScope s_with_rows) s.heap.objs.size (He.fAd K ("with_rows", none)) cdv)) → sp vs H Q E →
      WSs (cxOf CX P w K mg base n_with_rows "with_rows" (defScope s_with_rows) (He.fAd K ("with_rows", none)) cdv A outer s H E) (defBody s_with_rows) { nx := fun _ H' => Q .non H', rt := Q } (start n_with_rows vs) H) : OkF P w K mg base CX (k + 1) (He.fAd K ("with_rows", none)) ["catalogue", "name", "rows"] sp :=
  mk_ok T 7 (d := ⟨("with_rows", none), "with_rows", "with_rows", defArgs s_with_rows, defBody s_with_rows, defScope s_with_rows, [], []⟩) rfl rfl rfl sc_with_rows (fun _ _ _ _ _ _ us hl => match us, hl with | [_, _, _], _ => rfl) len hw
abbrev n_with_row : List Str := ["catalogue", "name", "row", "columns", "rows"]
theorem sc_with_row : FnScope n_with_row ["catalogue", "name", "row"] (defScope s_with_row) := ⟨rfl, rfl, rfl, by decide +kernel, rfl, by decide +kernel, by decide +kernel⟩
theorem mk_with_row (T : Tx K mg) (len : ∀ vs H Q E, sp vs H Q E → vs.length = 3)
    (hw : ∀ (cdv : Value) (A : Around) (outer : List Env) (s : Shared) (H : Hp) (vs : List V) (Q : VK) (E : XK), Room k (A.deeper (envOfC "with_row" (defScope s_with_row) s.heap.objs.size (He.fAd K ("with_row", none)) cdv)) → sp vs H Q E →
      WSs (cxOf CX P w K mg base n_with_row "with_row" (defScope s_with_row) (He.fAd K ("with_row", none)) cdv A outer s H E) (defBody s_with_row) { nx := fun _ H' => Q .non H', rt := Q } (start n_with_row vs) H) : OkF P w K mg base CX (k + 1) (He.fAd K ("with_row", none)) ["catalogue", "name", "row"] sp :=
  mk_ok T 8 (d := ⟨("with_row", none), "with_row", "with_row", defArgs s_with_row, defBody s_with_row, defScope s_with_row, [], []⟩) rfl rfl rfl sc_with_row (fun _ _ _ _ _ _ us hl => match us, hl with | [_, _, _], _ => rfl) len hw
abbrev n_without_row : List Str := ["catalogue", "name", "row", "rows", "other"]
theorem sc_without_row : FnScope n_without_row ["catalogue", "name", "row"] (defScope s_without_row) := ⟨rfl, rfl, rfl, by decide +kernel, rfl, by decide +kernel, by decide +kernel⟩
theorem mk_without_row (T : Tx K mg) (len : ∀ vs H Q E, sp vs H Q E → vs.length = 3)
    (hw : ∀ (cdv : Value) (A : Around) (outer : List Env) (s : Shared) (H : Hp) (vs : List V) (Q : VK) (E : XK), Room k (A.deeper (envOfC "without_row" (defScope s_without_row) s.heap.objs.size (He.fAd K ("without_row", none)) cdv)) → sp vs H Q E →
      WSs (cxOf CX P w K mg base n_without_row "without_row" (defScope s_without_row) (He.fAd K ("without_row", none)) cdv A outer s H E) (defBody s_without_row) { nx := fun _ H' => Q .non H', rt := Q } (start n_without_row vs) H) : OkF P w K mg base CX (k + 1) (He.fAd K ("without_row", none)) ["catalogue", "name", "row"] sp :=
  mk_ok T 9 (d := ⟨("without_row", none), "without_row", "without_row", defArgs s_without_row, defBody s_without_row, defScope s_without_row, [], []⟩) rfl rfl rfl sc_without_row (fun _ _ _ _ _ _ us hl => match us, hl with | [_, _, _], _ => rfl) len hw
abbrev n_all_variables : List Str := ["pattern", "found", "name", "variables", "variable"]
theorem sc_all_variables : FnScope n_all_variables ["pattern"] (defScope s_all_variables) := ⟨rfl, rfl, rfl, by decide +kernel, rfl, by decide +kernel, by decide +kernel⟩
theorem mk_all_variables (T : Tx K mg) (len : ∀ vs H Q E, sp vs H Q E → vs.length = 1)
    (hw : ∀ (cdv : Value) (A : Around) (outer : List Env) (s : Shared) (H : Hp) (vs : List V) (Q : VK) (E : XK), Room k (A.deeper (envOfC "all_variables" (defScope s_all_variables) s.heap.objs.size (He.fAd K ("all_variables", none)) cdv)) → sp vs H Q E →
      WSs (cxOf CX P w K mg base n_all_variables "all_variables" (defScope s_all_variables) (He.fAd K ("all_variables", none)) cdv A outer s H E) (defBody s_all_variables) { nx := fun _ H' => Q .non H', rt := Q } (start n_all_variables vs) H) : OkF P w K mg base CX (k + 1) (He.fAd K ("all_variables", none)) ["pattern"] sp :=
  mk_ok T 10 (d := ⟨("all_variables", none), "all_variables", "all_variables", defArgs s_all_variables, defBody s_all_variables, defScope s_all_variables, [], []⟩) rfl rfl rfl sc_all_variables (fun _ _ _ _ _ _ us hl => match us, hl with | [_], _ => rfl) len hw
abbrev n_right_atoms : List Str := ["atoms", "columns", "name", "variables", "variable"]
theorem sc_right_atoms : FnScope n_right_atoms ["atoms"] (defScope s_right_atoms) := ⟨rfl, rfl, rfl, by decide +kernel, rfl, by decide +kernel, by decide +kernel⟩
theorem mk_right_atoms (T : Tx K mg) (len : ∀ vs H Q E, sp vs H Q E → vs.length = 1)
    (hw : ∀ (cdv : Value) (A : Around) (outer : List Env) (s : Shared) (H : Hp) (vs : List V) (Q : VK) (E : XK), Room k (A.deeper (envOfC "right_atoms" (defScope s_right_atoms) s.heap.objs.size (He.fAd K ("right_atoms", none)) cdv)) → sp vs H Q E →
      WSs (cxOf CX P w K mg base n_right_atoms "right_atoms" (defScope s_right_atoms) (He.fAd K ("right_atoms", none)) cdv A outer s H E) (defBody s_right_atoms) { nx := fun _ H' => Q .non H', rt := Q } (start n_right_atoms vs) H) : OkF P w K mg base CX (k + 1) (He.fAd K ("right_atoms", none)) ["atoms"] sp :=
  mk_ok T 11 (d := ⟨("right_atoms", none), "right_atoms", "right_atoms", defArgs s_right_atoms, defBody s_right_atoms, defScope s_right_atoms, [], []⟩) rfl rfl rfl sc_right_atoms (fun _ _ _ _ _ _ us hl => match us, hl with | [_], _ => rfl) len hw
abbrev n_check_pattern : List Str := ["pattern", "head", "atoms", "variables", "good", "variable", "k"]
theorem sc_check_pattern : FnScope n_check_pattern ["pattern"] (defScope s_check_pattern) := ⟨rfl, rfl, rfl, by decide +kernel, rfl, by decide +kernel, by decide +kernel⟩
theorem mk_check_pattern (T : Tx K mg) (len : ∀ vs H Q E, sp vs H Q E → vs.length = 1)
    (hw : ∀ (cdv : Value) (A : Around) (outer : List Env) (s : Shared) (H : Hp) (vs : List V) (Q : VK) (E : XK), Room k (A.deeper (envOfC "check_pattern" (defScope s_check_pattern) s.heap.objs.size (He.fAd K ("check_pattern", none)) cdv)) → sp vs H Q E →
      WSs (cxOf CX P w K mg base n_check_pattern "check_pattern" (defScope s_check_pattern) (He.fAd K ("check_pattern", none)) cdv A outer s H E) (defBody s_check_pattern) { nx := fun _ H' => Q .non H', rt := Q } (start n_check_pattern vs) H) : OkF P w K mg base CX (k + 1) (He.fAd K ("check_pattern", none)) ["pattern"] sp :=
  mk_ok T 12 (d := ⟨("check_pattern", none), "check_pattern", "check_pattern", defArgs s_check_pattern, defBody s_check_pattern, defScope s_check_pattern, [], []⟩) rfl rfl rfl sc_check_pattern (fun _ _ _ _ _ _ us hl => match us, hl with | [_], _ => rfl) len hw
abbrev n_check_fit : List Str := ["catalogue", "pattern", "name", "variables"]
theorem sc_check_fit : FnScope n_check_fit ["catalogue", "pattern"] (defScope s_check_fit) := ⟨rfl, rfl, rfl, by decide +kernel, rfl, by decide +kernel, by decide +kernel⟩
theorem mk_check_fit (T : Tx K mg) (len : ∀ vs H Q E, sp vs H Q E → vs.length = 2)
    (hw : ∀ (cdv : Value) (A : Around) (outer : List Env) (s : Shared) (H : Hp) (vs : List V) (Q : VK) (E : XK), Room k (A.deeper (envOfC "check_fit" (defScope s_check_fit) s.heap.objs.size (He.fAd K ("check_fit", none)) cdv)) → sp vs H Q E →
      WSs (cxOf CX P w K mg base n_check_fit "check_fit" (defScope s_check_fit) (He.fAd K ("check_fit", none)) cdv A outer s H E) (defBody s_check_fit) { nx := fun _ H' => Q .non H', rt := Q } (start n_check_fit vs) H) : OkF P w K mg base CX (k + 1) (He.fAd K ("check_fit", none)) ["catalogue", "pattern"] sp :=
  mk_ok T 13 (d := ⟨("check_fit", none), "check_fit", "check_fit", defArgs s_check_fit, defBody s_check_fit, defScope s_check_fit, [], []⟩) rfl rfl rfl sc_check_fit (fun _ _ _ _ _ _ us hl => match us, hl with | [_, _], _ => rfl) len hw
abbrev n_place_from : List Str := ["row", "start", "n", "low", "high", "middle"]
theorem sc_place_from : FnScope n_place_from ["row", "start", "n"] (defScope s_place_from) := ⟨rfl, rfl, rfl, by decide +kernel, rfl, by decide +kernel, by decide +kernel⟩
theorem mk_place_from (T : Tx K mg) (len : ∀ vs H Q E, sp vs H Q E → vs.length = 3)
    (hw : ∀ (cdv : Value) (A : Around) (outer : List Env) (s : Shared) (H : Hp) (vs : List V) (Q : VK) (E : XK), Room k (A.deeper (envOfC "place_from" (defScope s_place_from) s.heap.objs.size (He.fAd K ("place_from", none)) cdv)) → sp vs H Q E →
      WSs (cxOf CX P w K mg base n_place_from "place_from" (defScope s_place_from) (He.fAd K ("place_from", none)) cdv A outer s H E) (defBody s_place_from) { nx := fun _ H' => Q .non H', rt := Q } (start n_place_from vs) H) : OkF P w K mg base CX (k + 1) (He.fAd K ("place_from", none)) ["row", "start", "n"] sp :=
  mk_ok T 14 (d := ⟨("place_from", none), "place_from", "place_from", defArgs s_place_from, defBody s_place_from, defScope s_place_from, [], []⟩) rfl rfl rfl sc_place_from (fun _ _ _ _ _ _ us hl => match us, hl with | [_, _, _], _ => rfl) len hw
abbrev n_common : List Str := ["rows", "places", "found", "k", "agree", "goal", "j"]
theorem sc_common : FnScope n_common ["rows"] (defScope s_common) := ⟨rfl, rfl, rfl, by decide +kernel, rfl, by decide +kernel, by decide +kernel⟩
theorem mk_common (T : Tx K mg) (len : ∀ vs H Q E, sp vs H Q E → vs.length = 1)
    (hw : ∀ (cdv : Value) (A : Around) (outer : List Env) (s : Shared) (H : Hp) (vs : List V) (Q : VK) (E : XK), Room k (A.deeper (envOfC "common" (defScope s_common) s.heap.objs.size (He.fAd K ("common", none)) cdv)) → sp vs H Q E →
      WSs (cxOf CX P w K mg base n_common "common" (defScope s_common) (He.fAd K ("common", none)) cdv A outer s H E) (defBody s_common) { nx := fun _ H' => Q .non H', rt := Q } (start n_common vs) H) : OkF P w K mg base CX (k + 1) (He.fAd K ("common", none)) ["rows"] sp :=
  mk_ok T 15 (d := ⟨("common", none), "common", "common", defArgs s_common, defBody s_common, defScope s_common, [], []⟩) rfl rfl rfl sc_common (fun _ _ _ _ _ _ us hl => match us, hl with | [_], _ => rfl) len hw
abbrev n_joined : List Str := ["catalogue", "pattern", "order", "limit", "search", "level", "visits", "k"]
theorem sc_joined : FnScope n_joined ["catalogue", "pattern", "order", "limit"] (defScope s_joined) := ⟨rfl, rfl, rfl, by decide +kernel, rfl, by decide +kernel, by decide +kernel⟩
theorem mk_joined (T : Tx K mg) (len : ∀ vs H Q E, sp vs H Q E → vs.length = 4)
    (hw : ∀ (cdv : Value) (A : Around) (outer : List Env) (s : Shared) (H : Hp) (vs : List V) (Q : VK) (E : XK), Room k (A.deeper (envOfC "joined" (defScope s_joined) s.heap.objs.size (He.fAd K ("joined", none)) cdv)) → sp vs H Q E →
      WSs (cxOf CX P w K mg base n_joined "joined" (defScope s_joined) (He.fAd K ("joined", none)) cdv A outer s H E) (defBody s_joined) { nx := fun _ H' => Q .non H', rt := Q } (start n_joined vs) H) : OkF P w K mg base CX (k + 1) (He.fAd K ("joined", none)) ["catalogue", "pattern", "order", "limit"] sp :=
  mk_ok T 16 (d := ⟨("joined", none), "joined", "joined", defArgs s_joined, defBody s_joined, defScope s_joined, [], []⟩) rfl rfl rfl sc_joined (fun _ _ _ _ _ _ us hl => match us, hl with | [_, _, _, _], _ => rfl) len hw
abbrev n_write_catalogue : List Str := ["catalogue", "lines", "name", "columns", "rows", "row", "number", "line"]
theorem sc_write_catalogue : FnScope n_write_catalogue ["catalogue"] (defScope s_write_catalogue) := ⟨rfl, rfl, rfl, by decide +kernel, rfl, by decide +kernel, by decide +kernel⟩
theorem mk_write_catalogue (T : Tx K mg) (len : ∀ vs H Q E, sp vs H Q E → vs.length = 1)
    (hw : ∀ (cdv : Value) (A : Around) (outer : List Env) (s : Shared) (H : Hp) (vs : List V) (Q : VK) (E : XK), Room k (A.deeper (envOfC "write_catalogue" (defScope s_write_catalogue) s.heap.objs.size (He.fAd K ("write_catalogue", none)) cdv)) → sp vs H Q E →
      WSs (cxOf CX P w K mg base n_write_catalogue "write_catalogue" (defScope s_write_catalogue) (He.fAd K ("write_catalogue", none)) cdv A outer s H E) (defBody s_write_catalogue) { nx := fun _ H' => Q .non H', rt := Q } (start n_write_catalogue vs) H) : OkF P w K mg base CX (k + 1) (He.fAd K ("write_catalogue", none)) ["catalogue"] sp :=
  mk_ok T 17 (d := ⟨("write_catalogue", none), "write_catalogue", "write_catalogue", defArgs s_write_catalogue, defBody s_write_catalogue, defScope s_write_catalogue, [], []⟩) rfl rfl rfl sc_write_catalogue (fun _ _ _ _ _ _ us hl => match us, hl with | [_], _ => rfl) len hw
abbrev n_write_pattern : List Str := ["pattern", "head", "atoms", "body", "name", "variables", "word"]
theorem sc_write_pattern : FnScope n_write_pattern ["pattern"] (defScope s_write_pattern) := ⟨rfl, rfl, rfl, by decide +kernel, rfl, by decide +kernel, by decide +kernel⟩
theorem mk_write_pattern (T : Tx K mg) (len : ∀ vs H Q E, sp vs H Q E → vs.length = 1)
    (hw : ∀ (cdv : Value) (A : Around) (outer : List Env) (s : Shared) (H : Hp) (vs : List V) (Q : VK) (E : XK), Room k (A.deeper (envOfC "write_pattern" (defScope s_write_pattern) s.heap.objs.size (He.fAd K ("write_pattern", none)) cdv)) → sp vs H Q E →
      WSs (cxOf CX P w K mg base n_write_pattern "write_pattern" (defScope s_write_pattern) (He.fAd K ("write_pattern", none)) cdv A outer s H E) (defBody s_write_pattern) { nx := fun _ H' => Q .non H', rt := Q } (start n_write_pattern vs) H) : OkF P w K mg base CX (k + 1) (He.fAd K ("write_pattern", none)) ["pattern"] sp :=
  mk_ok T 18 (d := ⟨("write_pattern", none), "write_pattern", "write_pattern", defArgs s_write_pattern, defBody s_write_pattern, defScope s_write_pattern, [], []⟩) rfl rfl rfl sc_write_pattern (fun _ _ _ _ _ _ us hl => match us, hl with | [_], _ => rfl) len hw
abbrev n_counted : List Str := ["pattern", "rows", "order", "places", "table", "row", "answer", "variable", "k"]
theorem sc_counted : FnScope n_counted ["pattern", "rows"] (defScope s_counted) := ⟨rfl, rfl, rfl, by decide +kernel, rfl, by decide +kernel, by decide +kernel⟩
theorem mk_counted (T : Tx K mg) (len : ∀ vs H Q E, sp vs H Q E → vs.length = 2)
    (hw : ∀ (cdv : Value) (A : Around) (outer : List Env) (s : Shared) (H : Hp) (vs : List V) (Q : VK) (E : XK), Room k (A.deeper (envOfC "counted" (defScope s_counted) s.heap.objs.size (He.fAd K ("counted", none)) cdv)) → sp vs H Q E →
      WSs (cxOf CX P w K mg base n_counted "counted" (defScope s_counted) (He.fAd K ("counted", none)) cdv A outer s H E) (defBody s_counted) { nx := fun _ H' => Q .non H', rt := Q } (start n_counted vs) H) : OkF P w K mg base CX (k + 1) (He.fAd K ("counted", none)) ["pattern", "rows"] sp :=
  mk_ok T 19 (d := ⟨("counted", none), "counted", "counted", defArgs s_counted, defBody s_counted, defScope s_counted, [], []⟩) rfl rfl rfl sc_counted (fun _ _ _ _ _ _ us hl => match us, hl with | [_, _], _ => rfl) len hw
abbrev n_with_copies : List Str := ["catalogue", "pattern", "name", "row", "found", "atoms", "columns", "rows", "others", "k", "fresh", "j", "word", "copies", "other"]
theorem sc_with_copies : FnScope n_with_copies ["catalogue", "pattern", "name", "row"] (defScope s_with_copies) := ⟨rfl, rfl, rfl, by decide +kernel, rfl, by decide +kernel, by decide +kernel⟩
theorem mk_with_copies (T : Tx K mg) (len : ∀ vs H Q E, sp vs H Q E → vs.length = 4)
    (hw : ∀ (cdv : Value) (A : Around) (outer : List Env) (s : Shared) (H : Hp) (vs : List V) (Q : VK) (E : XK), Room k (A.deeper (envOfC "with_copies" (defScope s_with_copies) s.heap.objs.size (He.fAd K ("with_copies", none)) cdv)) → sp vs H Q E →
      WSs (cxOf CX P w K mg base n_with_copies "with_copies" (defScope s_with_copies) (He.fAd K ("with_copies", none)) cdv A outer s H E) (defBody s_with_copies) { nx := fun _ H' => Q .non H', rt := Q } (start n_with_copies vs) H) : OkF P w K mg base CX (k + 1) (He.fAd K ("with_copies", none)) ["catalogue", "pattern", "name", "row"] sp :=
  mk_ok T 20 (d := ⟨("with_copies", none), "with_copies", "with_copies", defArgs s_with_copies, defBody s_with_copies, defScope s_with_copies, [], []⟩) rfl rfl rfl sc_with_copies (fun _ _ _ _ _ _ us hl => match us, hl with | [_, _, _, _], _ => rfl) len hw
abbrev n_l_begin : List Str := ["_law_script", "_law_seed", "_law_cell"]
theorem sc_l_begin : FnScope n_l_begin ["_law_script"] (defScope s_l_begin) := ⟨rfl, rfl, rfl, by decide +kernel, rfl, by decide +kernel, by decide +kernel⟩
theorem mk_l_begin (T : Tx K mg) (len : ∀ vs H Q E, sp vs H Q E → vs.length = 1)
    (hw : ∀ (cdv : Value) (A : Around) (outer : List Env) (s : Shared) (H : Hp) (vs : List V) (Q : VK) (E : XK), Room k (A.deeper (envOfC "_law_begin" (defScope s_l_begin) s.heap.objs.size (He.fAd K ("_law_begin", none)) cdv)) → sp vs H Q E →
      WSs (cxOf CX P w K mg base n_l_begin "_law_begin" (defScope s_l_begin) (He.fAd K ("_law_begin", none)) cdv A outer s H E) (defBody s_l_begin) { nx := fun _ H' => Q .non H', rt := Q } (start n_l_begin vs) H) : OkF P w K mg base CX (k + 1) (He.fAd K ("_law_begin", none)) ["_law_script"] sp :=
  mk_ok T 21 (d := ⟨("_law_begin", none), "_law_begin", "_law_begin", defArgs s_l_begin, defBody s_l_begin, defScope s_l_begin, [], []⟩) rfl rfl rfl sc_l_begin (fun _ _ _ _ _ _ us hl => match us, hl with | [_], _ => rfl) len hw
abbrev n_l_take : List Str := ["_law_d", "_law_many", "_law_small", "_law_digit"]
theorem sc_l_take : FnScope n_l_take ["_law_d", "_law_many"] (defScope s_l_take) := ⟨rfl, rfl, rfl, by decide +kernel, rfl, by decide +kernel, by decide +kernel⟩
theorem mk_l_take (T : Tx K mg) (len : ∀ vs H Q E, sp vs H Q E → vs.length = 2)
    (hw : ∀ (cdv : Value) (A : Around) (outer : List Env) (s : Shared) (H : Hp) (vs : List V) (Q : VK) (E : XK), Room k (A.deeper (envOfC "_law_take" (defScope s_l_take) s.heap.objs.size (He.fAd K ("_law_take", none)) cdv)) → sp vs H Q E →
      WSs (cxOf CX P w K mg base n_l_take "_law_take" (defScope s_l_take) (He.fAd K ("_law_take", none)) cdv A outer s H E) (defBody s_l_take) { nx := fun _ H' => Q .non H', rt := Q } (start n_l_take vs) H) : OkF P w K mg base CX (k + 1) (He.fAd K ("_law_take", none)) ["_law_d", "_law_many"] sp :=
  mk_ok T 22 (d := ⟨("_law_take", none), "_law_take", "_law_take", defArgs s_l_take, defBody s_l_take, defScope s_l_take, [], []⟩) rfl rfl rfl sc_l_take (fun _ _ _ _ _ _ us hl => match us, hl with | [_, _], _ => rfl) len hw
abbrev n_l_rows : List Str := ["_law_d", "_law_columns", "_law_most", "_law_reach", "_law_rows_here", "_law_k", "_law_row", "_law_j"]
theorem sc_l_rows : FnScope n_l_rows ["_law_d", "_law_columns", "_law_most", "_law_reach"] (defScope s_l_rows) := ⟨rfl, rfl, rfl, by decide +kernel, rfl, by decide +kernel, by decide +kernel⟩
theorem mk_l_rows (T : Tx K mg) (len : ∀ vs H Q E, sp vs H Q E → vs.length = 4)
    (hw : ∀ (cdv : Value) (A : Around) (outer : List Env) (s : Shared) (H : Hp) (vs : List V) (Q : VK) (E : XK), Room k (A.deeper (envOfC "_law_rows" (defScope s_l_rows) s.heap.objs.size (He.fAd K ("_law_rows", none)) cdv)) → sp vs H Q E →
      WSs (cxOf CX P w K mg base n_l_rows "_law_rows" (defScope s_l_rows) (He.fAd K ("_law_rows", none)) cdv A outer s H E) (defBody s_l_rows) { nx := fun _ H' => Q .non H', rt := Q } (start n_l_rows vs) H) : OkF P w K mg base CX (k + 1) (He.fAd K ("_law_rows", none)) ["_law_d", "_law_columns", "_law_most", "_law_reach"] sp :=
  mk_ok T 23 (d := ⟨("_law_rows", none), "_law_rows", "_law_rows", defArgs s_l_rows, defBody s_l_rows, defScope s_l_rows, [], []⟩) rfl rfl rfl sc_l_rows (fun _ _ _ _ _ _ us hl => match us, hl with | [_, _, _, _], _ => rfl) len hw
abbrev n_l_catalogue : List Str := ["_law_d", "_law_many", "_law_most", "_law_reach", "_law_tables", "_law_k", "_law_columns"]
theorem sc_l_catalogue : FnScope n_l_catalogue ["_law_d", "_law_many", "_law_most", "_law_reach"] (defScope s_l_catalogue) := ⟨rfl, rfl, rfl, by decide +kernel, rfl, by decide +kernel, by decide +kernel⟩
theorem mk_l_catalogue (T : Tx K mg) (len : ∀ vs H Q E, sp vs H Q E → vs.length = 4)
    (hw : ∀ (cdv : Value) (A : Around) (outer : List Env) (s : Shared) (H : Hp) (vs : List V) (Q : VK) (E : XK), Room k (A.deeper (envOfC "_law_catalogue" (defScope s_l_catalogue) s.heap.objs.size (He.fAd K ("_law_catalogue", none)) cdv)) → sp vs H Q E →
      WSs (cxOf CX P w K mg base n_l_catalogue "_law_catalogue" (defScope s_l_catalogue) (He.fAd K ("_law_catalogue", none)) cdv A outer s H E) (defBody s_l_catalogue) { nx := fun _ H' => Q .non H', rt := Q } (start n_l_catalogue vs) H) : OkF P w K mg base CX (k + 1) (He.fAd K ("_law_catalogue", none)) ["_law_d", "_law_many", "_law_most", "_law_reach"] sp :=
  mk_ok T 24 (d := ⟨("_law_catalogue", none), "_law_catalogue", "_law_catalogue", defArgs s_l_catalogue, defBody s_l_catalogue, defScope s_l_catalogue, [], []⟩) rfl rfl rfl sc_l_catalogue (fun _ _ _ _ _ _ us hl => match us, hl with | [_, _, _, _], _ => rfl) len hw
abbrev n_l_table : List Str := ["_law_catalogue_here", "_law_name", "_law_table_here"]
theorem sc_l_table : FnScope n_l_table ["_law_catalogue_here", "_law_name"] (defScope s_l_table) := ⟨rfl, rfl, rfl, by decide +kernel, rfl, by decide +kernel, by decide +kernel⟩
theorem mk_l_table (T : Tx K mg) (len : ∀ vs H Q E, sp vs H Q E → vs.length = 2)
    (hw : ∀ (cdv : Value) (A : Around) (outer : List Env) (s : Shared) (H : Hp) (vs : List V) (Q : VK) (E : XK), Room k (A.deeper (envOfC "_law_table" (defScope s_l_table) s.heap.objs.size (He.fAd K ("_law_table", none)) cdv)) → sp vs H Q E →
      WSs (cxOf CX P w K mg base n_l_table "_law_table" (defScope s_l_table) (He.fAd K ("_law_table", none)) cdv A outer s H E) (defBody s_l_table) { nx := fun _ H' => Q .non H', rt := Q } (start n_l_table vs) H) : OkF P w K mg base CX (k + 1) (He.fAd K ("_law_table", none)) ["_law_catalogue_here", "_law_name"] sp :=
  mk_ok T 25 (d := ⟨("_law_table", none), "_law_table", "_law_table", defArgs s_l_table, defBody s_l_table, defScope s_l_table, [], []⟩) rfl rfl rfl sc_l_table (fun _ _ _ _ _ _ us hl => match us, hl with | [_, _], _ => rfl) len hw
abbrev n_l_with : List Str := ["_law_catalogue_here", "_law_name", "_law_rows_here", "_law_table_here"]
theorem sc_l_with : FnScope n_l_with ["_law_catalogue_here", "_law_name", "_law_rows_here"] (defScope s_l_with) := ⟨rfl, rfl, rfl, by decide +kernel, rfl, by decide +kernel, by decide +kernel⟩
theorem mk_l_with (T : Tx K mg) (len : ∀ vs H Q E, sp vs H Q E → vs.length = 3)
    (hw : ∀ (cdv : Value) (A : Around) (outer : List Env) (s : Shared) (H : Hp) (vs : List V) (Q : VK) (E : XK), Room k (A.deeper (envOfC "_law_with" (defScope s_l_with) s.heap.objs.size (He.fAd K ("_law_with", none)) cdv)) → sp vs H Q E →
      WSs (cxOf CX P w K mg base n_l_with "_law_with" (defScope s_l_with) (He.fAd K ("_law_with", none)) cdv A outer s H E) (defBody s_l_with) { nx := fun _ H' => Q .non H', rt := Q } (start n_l_with vs) H) : OkF P w K mg base CX (k + 1) (He.fAd K ("_law_with", none)) ["_law_catalogue_here", "_law_name", "_law_rows_here"] sp :=
  mk_ok T 26 (d := ⟨("_law_with", none), "_law_with", "_law_with", defArgs s_l_with, defBody s_l_with, defScope s_l_with, [], []⟩) rfl rfl rfl sc_l_with (fun _ _ _ _ _ _ us hl => match us, hl with | [_, _, _], _ => rfl) len hw
abbrev n_l_variables : List Str := ["_law_pattern_here", "_law_found", "_law_name", "_law_inner", "_law_k"]
theorem sc_l_variables : FnScope n_l_variables ["_law_pattern_here"] (defScope s_l_variables) := ⟨rfl, rfl, rfl, by decide +kernel, rfl, by decide +kernel, by decide +kernel⟩
theorem mk_l_variables (T : Tx K mg) (len : ∀ vs H Q E, sp vs H Q E → vs.length = 1)
    (hw : ∀ (cdv : Value) (A : Around) (outer : List Env) (s : Shared) (H : Hp) (vs : List V) (Q : VK) (E : XK), Room k (A.deeper (envOfC "_law_variables" (defScope s_l_variables) s.heap.objs.size (He.fAd K ("_law_variables", none)) cdv)) → sp vs H Q E →
      WSs (cxOf CX P w K mg base n_l_variables "_law_variables" (defScope s_l_variables) (He.fAd K ("_law_variables", none)) cdv A outer s H E) (defBody s_l_variables) { nx := fun _ H' => Q .non H', rt := Q } (start n_l_variables vs) H) : OkF P w K mg base CX (k + 1) (He.fAd K ("_law_variables", none)) ["_law_pattern_here"] sp :=
  mk_ok T 27 (d := ⟨("_law_variables", none), "_law_variables", "_law_variables", defArgs s_l_variables, defBody s_l_variables, defScope s_l_variables, [], []⟩) rfl rfl rfl sc_l_variables (fun _ _ _ _ _ _ us hl => match us, hl with | [_], _ => rfl) len hw
abbrev n_l_pattern : List Str := ["_law_d", "_law_catalogue_here", "_law_atoms", "_law_many", "_law_names", "_law_body", "_law_k", "_law_table_here", "_law_pattern_here", "_law_variables_here", "_law_head", "_law_one", "_law_j"]
theorem sc_l_pattern : FnScope n_l_pattern ["_law_d", "_law_catalogue_here", "_law_atoms", "_law_many"] (defScope s_l_pattern) := ⟨rfl, rfl, rfl, by decide +kernel, rfl, by decide +kernel, by decide +kernel⟩
theorem mk_l_pattern (T : Tx K mg) (len : ∀ vs H Q E, sp vs H Q E → vs.length = 4)
    (hw : ∀ (cdv : Value) (A : Around) (outer : List Env) (s : Shared) (H : Hp) (vs : List V) (Q : VK) (E : XK), Room k (A.deeper (envOfC "_law_pattern" (defScope s_l_pattern) s.heap.objs.size (He.fAd K ("_law_pattern", none)) cdv)) → sp vs H Q E →
      WSs (cxOf CX P w K mg base n_l_pattern "_law_pattern" (defScope s_l_pattern) (He.fAd K ("_law_pattern", none)) cdv A outer s H E) (defBody s_l_pattern) { nx := fun _ H' => Q .non H', rt := Q } (start n_l_pattern vs) H) : OkF P w K mg base CX (k + 1) (He.fAd K ("_law_pattern", none)) ["_law_d", "_law_catalogue_here", "_law_atoms", "_law_many"] sp :=
  mk_ok T 28 (d := ⟨("_law_pattern", none), "_law_pattern", "_law_pattern", defArgs s_l_pattern, defBody s_l_pattern, defScope s_l_pattern, [], []⟩) rfl rfl rfl sc_l_pattern (fun _ _ _ _ _ _ us hl => match us, hl with | [_, _, _, _], _ => rfl) len hw
abbrev n_l_agrees : List Str := ["_law_inner", "_law_row", "_law_known", "_law_seen", "_law_k"]
theorem sc_l_agrees : FnScope n_l_agrees ["_law_inner", "_law_row", "_law_known"] (defScope s_l_agrees) := ⟨rfl, rfl, rfl, by decide +kernel, rfl, by decide +kernel, by decide +kernel⟩
theorem mk_l_agrees (T : Tx K mg) (len : ∀ vs H Q E, sp vs H Q E → vs.length = 3)
    (hw : ∀ (cdv : Value) (A : Around) (outer : List Env) (s : Shared) (H : Hp) (vs : List V) (Q : VK) (E : XK), Room k (A.deeper (envOfC "_law_agrees" (defScope s_l_agrees) s.heap.objs.size (He.fAd K ("_law_agrees", none)) cdv)) → sp vs H Q E →
      WSs (cxOf CX P w K mg base n_l_agrees "_law_agrees" (defScope s_l_agrees) (He.fAd K ("_law_agrees", none)) cdv A outer s H E) (defBody s_l_agrees) { nx := fun _ H' => Q .non H', rt := Q } (start n_l_agrees vs) H) : OkF P w K mg base CX (k + 1) (He.fAd K ("_law_agrees", none)) ["_law_inner", "_law_row", "_law_known"] sp :=
  mk_ok T 29 (d := ⟨("_law_agrees", none), "_law_agrees", "_law_agrees", defArgs s_l_agrees, defBody s_l_agrees, defScope s_l_agrees, [], []⟩) rfl rfl rfl sc_l_agrees (fun _ _ _ _ _ _ us hl => match us, hl with | [_, _, _], _ => rfl) len hw
abbrev n_l_partials : List Str := ["_law_catalogue_here", "_law_pattern_here", "_law_order", "_law_values", "_law_table_here", "_law_row", "_law_rows_here", "_law_name", "_law_inner", "_law_k", "_law_longer", "_law_prefix", "_law_n", "_law_known", "_law_j", "_law_good"]
theorem sc_l_partials : FnScope n_l_partials ["_law_catalogue_here", "_law_pattern_here", "_law_order"] (defScope s_l_partials) := ⟨rfl, rfl, rfl, by decide +kernel, rfl, by decide +kernel, by decide +kernel⟩
theorem mk_l_partials (T : Tx K mg) (len : ∀ vs H Q E, sp vs H Q E → vs.length = 3)
    (hw : ∀ (cdv : Value) (A : Around) (outer : List Env) (s : Shared) (H : Hp) (vs : List V) (Q : VK) (E : XK), Room k (A.deeper (envOfC "_law_partials" (defScope s_l_partials) s.heap.objs.size (He.fAd K ("_law_partials", none)) cdv)) → sp vs H Q E →
      WSs (cxOf CX P w K mg base n_l_partials "_law_partials" (defScope s_l_partials) (He.fAd K ("_law_partials", none)) cdv A outer s H E) (defBody s_l_partials) { nx := fun _ H' => Q .non H', rt := Q } (start n_l_partials vs) H) : OkF P w K mg base CX (k + 1) (He.fAd K ("_law_partials", none)) ["_law_catalogue_here", "_law_pattern_here", "_law_order"] sp :=
  mk_ok T 30 (d := ⟨("_law_partials", none), "_law_partials", "_law_partials", defArgs s_l_partials, defBody s_l_partials, defScope s_l_partials, [], []⟩) rfl rfl rfl sc_l_partials (fun _ _ _ _ _ _ us hl => match us, hl with | [_, _, _], _ => rfl) len hw
abbrev n_l_assignments : List Str := ["_law_catalogue_here", "_law_pattern_here", "_law_order", "_law_row"]
theorem sc_l_assignments : FnScope n_l_assignments ["_law_catalogue_here", "_law_pattern_here"] (defScope s_l_assignments) := ⟨rfl, rfl, rfl, by decide +kernel, rfl, by decide +kernel, by decide +kernel⟩
theorem mk_l_assignments (T : Tx K mg) (len : ∀ vs H Q E, sp vs H Q E → vs.length = 2)
    (hw : ∀ (cdv : Value) (A : Around) (outer : List Env) (s : Shared) (H : Hp) (vs : List V) (Q : VK) (E : XK), Room k (A.deeper (envOfC "_law_assignments" (defScope s_l_assignments) s.heap.objs.size (He.fAd K ("_law_assignments", none)) cdv)) → sp vs H Q E →
      WSs (cxOf CX P w K mg base n_l_assignments "_law_assignments" (defScope s_l_assignments) (He.fAd K ("_law_assignments", none)) cdv A outer s H E) (defBody s_l_assignments) { nx := fun _ H' => Q .non H', rt := Q } (start n_l_assignments vs) H) : OkF P w K mg base CX (k + 1) (He.fAd K ("_law_assignments", none)) ["_law_catalogue_here", "_law_pattern_here"] sp :=
  mk_ok T 31 (d := ⟨("_law_assignments", none), "_law_assignments", "_law_assignments", defArgs s_l_assignments, defBody s_l_assignments, defScope s_l_assignments, [], []⟩) rfl rfl rfl sc_l_assignments (fun _ _ _ _ _ _ us hl => match us, hl with | [_, _], _ => rfl) len hw
abbrev n_l_named : List Str := ["_law_order", "_law_row", "_law_known", "_law_k"]
theorem sc_l_named : FnScope n_l_named ["_law_order", "_law_row"] (defScope s_l_named) := ⟨rfl, rfl, rfl, by decide +kernel, rfl, by decide +kernel, by decide +kernel⟩
theorem mk_l_named (T : Tx K mg) (len : ∀ vs H Q E, sp vs H Q E → vs.length = 2)
    (hw : ∀ (cdv : Value) (A : Around) (outer : List Env) (s : Shared) (H : Hp) (vs : List V) (Q : VK) (E : XK), Room k (A.deeper (envOfC "_law_named" (defScope s_l_named) s.heap.objs.size (He.fAd K ("_law_named", none)) cdv)) → sp vs H Q E →
      WSs (cxOf CX P w K mg base n_l_named "_law_named" (defScope s_l_named) (He.fAd K ("_law_named", none)) cdv A outer s H E) (defBody s_l_named) { nx := fun _ H' => Q .non H', rt := Q } (start n_l_named vs) H) : OkF P w K mg base CX (k + 1) (He.fAd K ("_law_named", none)) ["_law_order", "_law_row"] sp :=
  mk_ok T 32 (d := ⟨("_law_named", none), "_law_named", "_law_named", defArgs s_l_named, defBody s_l_named, defScope s_l_named, [], []⟩) rfl rfl rfl sc_l_named (fun _ _ _ _ _ _ us hl => match us, hl with | [_, _], _ => rfl) len hw
abbrev n_l_answers : List Str := ["_law_catalogue_here", "_law_pattern_here", "_law_found", "_law_one", "_law_variable"]
theorem sc_l_answers : FnScope n_l_answers ["_law_catalogue_here", "_law_pattern_here"] (defScope s_l_answers) := ⟨rfl, rfl, rfl, by decide +kernel, rfl, by decide +kernel, by decide +kernel⟩
theorem mk_l_answers (T : Tx K mg) (len : ∀ vs H Q E, sp vs H Q E → vs.length = 2)
    (hw : ∀ (cdv : Value) (A : Around) (outer : List Env) (s : Shared) (H : Hp) (vs : List V) (Q : VK) (E : XK), Room k (A.deeper (envOfC "_law_answers" (defScope s_l_answers) s.heap.objs.size (He.fAd K ("_law_answers", none)) cdv)) → sp vs H Q E →
      WSs (cxOf CX P w K mg base n_l_answers "_law_answers" (defScope s_l_answers) (He.fAd K ("_law_answers", none)) cdv A outer s H E) (defBody s_l_answers) { nx := fun _ H' => Q .non H', rt := Q } (start n_l_answers vs) H) : OkF P w K mg base CX (k + 1) (He.fAd K ("_law_answers", none)) ["_law_catalogue_here", "_law_pattern_here"] sp :=
  mk_ok T 33 (d := ⟨("_law_answers", none), "_law_answers", "_law_answers", defArgs s_l_answers, defBody s_l_answers, defScope s_l_answers, [], []⟩) rfl rfl rfl sc_l_answers (fun _ _ _ _ _ _ us hl => match us, hl with | [_, _], _ => rfl) len hw
abbrev n_l_class : List Str := ["_law_e", "_law_told"]
theorem sc_l_class : FnScope n_l_class ["_law_e"] (defScope s_l_class) := ⟨rfl, rfl, rfl, by decide +kernel, rfl, by decide +kernel, by decide +kernel⟩
theorem mk_l_class (T : Tx K mg) (len : ∀ vs H Q E, sp vs H Q E → vs.length = 1)
    (hw : ∀ (cdv : Value) (A : Around) (outer : List Env) (s : Shared) (H : Hp) (vs : List V) (Q : VK) (E : XK), Room k (A.deeper (envOfC "_law_class" (defScope s_l_class) s.heap.objs.size (He.fAd K ("_law_class", none)) cdv)) → sp vs H Q E →
      WSs (cxOf CX P w K mg base n_l_class "_law_class" (defScope s_l_class) (He.fAd K ("_law_class", none)) cdv A outer s H E) (defBody s_l_class) { nx := fun _ H' => Q .non H', rt := Q } (start n_l_class vs) H) : OkF P w K mg base CX (k + 1) (He.fAd K ("_law_class", none)) ["_law_e"] sp :=
  mk_ok T 34 (d := ⟨("_law_class", none), "_law_class", "_law_class", defArgs s_l_class, defBody s_l_class, defScope s_l_class, [], []⟩) rfl rfl rfl sc_l_class (fun _ _ _ _ _ _ us hl => match us, hl with | [_], _ => rfl) len hw
abbrev n_l_do : List Str := ["_law_keeper", "_law_word", "_law_a", "_law_b", "_law_found", "_law_e"]
theorem sc_l_do : FnScope n_l_do ["_law_keeper", "_law_word", "_law_a", "_law_b"] (defScope s_l_do) := ⟨rfl, rfl, rfl, by decide +kernel, rfl, by decide +kernel, by decide +kernel⟩
theorem mk_l_do (T : Tx K mg) (len : ∀ vs H Q E, sp vs H Q E → vs.length = 4)
    (hw : ∀ (cdv : Value) (A : Around) (outer : List Env) (s : Shared) (H : Hp) (vs : List V) (Q : VK) (E : XK), Room k (A.deeper (envOfC "_law_do" (defScope s_l_do) s.heap.objs.size (He.fAd K ("_law_do", none)) cdv)) → sp vs H Q E →
      WSs (cxOf CX P w K mg base n_l_do "_law_do" (defScope s_l_do) (He.fAd K ("_law_do", none)) cdv A outer s H E) (defBody s_l_do) { nx := fun _ H' => Q .non H', rt := Q } (start n_l_do vs) H) : OkF P w K mg base CX (k + 1) (He.fAd K ("_law_do", none)) ["_law_keeper", "_law_word", "_law_a", "_law_b"] sp :=
  mk_ok T 35 (d := ⟨("_law_do", none), "_law_do", "_law_do", defArgs s_l_do, defBody s_l_do, defScope s_l_do, [], []⟩) rfl rfl rfl sc_l_do (fun _ _ _ _ _ _ us hl => match us, hl with | [_, _, _, _], _ => rfl) len hw
abbrev n_l_changes : List Str := ["_law_catalogue_here", "_law_fresh", "_law_standing", "_law_found", "_law_name", "_law_before", "_law_now", "_law_gained", "_law_lost", "_law_one"]
theorem sc_l_changes : FnScope n_l_changes ["_law_catalogue_here", "_law_fresh", "_law_standing"] (defScope s_l_changes) := ⟨rfl, rfl, rfl, by decide +kernel, rfl, by decide +kernel, by decide +kernel⟩
theorem mk_l_changes (T : Tx K mg) (len : ∀ vs H Q E, sp vs H Q E → vs.length = 3)
    (hw : ∀ (cdv : Value) (A : Around) (outer : List Env) (s : Shared) (H : Hp) (vs : List V) (Q : VK) (E : XK), Room k (A.deeper (envOfC "_law_changes" (defScope s_l_changes) s.heap.objs.size (He.fAd K ("_law_changes", none)) cdv)) → sp vs H Q E →
      WSs (cxOf CX P w K mg base n_l_changes "_law_changes" (defScope s_l_changes) (He.fAd K ("_law_changes", none)) cdv A outer s H E) (defBody s_l_changes) { nx := fun _ H' => Q .non H', rt := Q } (start n_l_changes vs) H) : OkF P w K mg base CX (k + 1) (He.fAd K ("_law_changes", none)) ["_law_catalogue_here", "_law_fresh", "_law_standing"] sp :=
  mk_ok T 36 (d := ⟨("_law_changes", none), "_law_changes", "_law_changes", defArgs s_l_changes, defBody s_l_changes, defScope s_l_changes, [], []⟩) rfl rfl rfl sc_l_changes (fun _ _ _ _ _ _ us hl => match us, hl with | [_, _, _], _ => rfl) len hw
abbrev n_l_step : List Str := ["_law_d", "_law_keeper", "_law_state", "_law_standing", "_law_catalogue_here", "_law_lines", "_law_menu", "_law_name", "_law_pattern_here", "_law_told", "_law_left", "_law_other", "_law_columns", "_law_rows_here", "_law_row", "_law_word", "_law_fresh", "_law_k", "_law_one", "_law_n"]
theorem sc_l_step : FnScope n_l_step ["_law_d", "_law_keeper", "_law_state"] (defScope s_l_step) := ⟨rfl, rfl, rfl, by decide +kernel, rfl, by decide +kernel, by decide +kernel⟩
theorem mk_l_step (T : Tx K mg) (len : ∀ vs H Q E, sp vs H Q E → vs.length = 3)
    (hw : ∀ (cdv : Value) (A : Around) (outer : List Env) (s : Shared) (H : Hp) (vs : List V) (Q : VK) (E : XK), Room k (A.deeper (envOfC "_law_step" (defScope s_l_step) s.heap.objs.size (He.fAd K ("_law_step", none)) cdv)) → sp vs H Q E →
      WSs (cxOf CX P w K mg base n_l_step "_law_step" (defScope s_l_step) (He.fAd K ("_law_step", none)) cdv A outer s H E) (defBody s_l_step) { nx := fun _ H' => Q .non H', rt := Q } (start n_l_step vs) H) : OkF P w K mg base CX (k + 1) (He.fAd K ("_law_step", none)) ["_law_d", "_law_keeper", "_law_state"] sp :=
  mk_ok T 37 (d := ⟨("_law_step", none), "_law_step", "_law_step", defArgs s_l_step, defBody s_l_step, defScope s_l_step, [], []⟩) rfl rfl rfl sc_l_step (fun _ _ _ _ _ _ us hl => match us, hl with | [_, _, _], _ => rfl) len hw
abbrev n_l_same : List Str := ["_law_keeper", "_law_state", "_law_standing", "_law_catalogue_here", "_law_name"]
theorem sc_l_same : FnScope n_l_same ["_law_keeper", "_law_state"] (defScope s_l_same) := ⟨rfl, rfl, rfl, by decide +kernel, rfl, by decide +kernel, by decide +kernel⟩
theorem mk_l_same (T : Tx K mg) (len : ∀ vs H Q E, sp vs H Q E → vs.length = 2)
    (hw : ∀ (cdv : Value) (A : Around) (outer : List Env) (s : Shared) (H : Hp) (vs : List V) (Q : VK) (E : XK), Room k (A.deeper (envOfC "_law_same" (defScope s_l_same) s.heap.objs.size (He.fAd K ("_law_same", none)) cdv)) → sp vs H Q E →
      WSs (cxOf CX P w K mg base n_l_same "_law_same" (defScope s_l_same) (He.fAd K ("_law_same", none)) cdv A outer s H E) (defBody s_l_same) { nx := fun _ H' => Q .non H', rt := Q } (start n_l_same vs) H) : OkF P w K mg base CX (k + 1) (He.fAd K ("_law_same", none)) ["_law_keeper", "_law_state"] sp :=
  mk_ok T 38 (d := ⟨("_law_same", none), "_law_same", "_law_same", defArgs s_l_same, defBody s_l_same, defScope s_l_same, [], []⟩) rfl rfl rfl sc_l_same (fun _ _ _ _ _ _ us hl => match us, hl with | [_, _], _ => rfl) len hw
abbrev n_law : List Str := ["_law_script", "_law_d", "_law_catalogue_here", "_law_keeper", "_law_state", "_law_turn", "_law_standing", "_law_name", "_law_counts", "_law_pattern_here", "_law_known", "_law_answer", "_law_variable"]
theorem sc_law : FnScope n_law ["_law_script"] (defScope s_law) := ⟨rfl, rfl, rfl, by decide +kernel, rfl, by decide +kernel, by decide +kernel⟩
theorem mk_law (T : Tx K mg) (len : ∀ vs H Q E, sp vs H Q E → vs.length = 1)
    (hw : ∀ (cdv : Value) (A : Around) (outer : List Env) (s : Shared) (H : Hp) (vs : List V) (Q : VK) (E : XK), Room k (A.deeper (envOfC "law" (defScope s_law) s.heap.objs.size (He.fAd K ("law", none)) cdv)) → sp vs H Q E →
      WSs (cxOf CX P w K mg base n_law "law" (defScope s_law) (He.fAd K ("law", none)) cdv A outer s H E) (defBody s_law) { nx := fun _ H' => Q .non H', rt := Q } (start n_law vs) H) : OkF P w K mg base CX (k + 1) (He.fAd K ("law", none)) ["_law_script"] sp :=
  mk_ok T 39 (d := ⟨("law", none), "law", "law", defArgs s_law, defBody s_law, defScope s_law, [], []⟩) rfl rfl rfl sc_law (fun _ _ _ _ _ _ us hl => match us, hl with | [_], _ => rfl) len hw
abbrev n_Trie_init : List Str := ["self", "rows", "positions", "good", "row", "k"]
theorem sc_Trie_init : FnScope n_Trie_init ["self", "rows", "positions"] (defScope s_Trie_init) := ⟨rfl, rfl, rfl, by decide +kernel, rfl, by decide +kernel, by decide +kernel⟩
theorem mk_Trie_init (T : Tx K mg) (len : ∀ vs H Q E, sp vs H Q E → vs.length = 3)
    (hw : ∀ (cdv : Value) (A : Around) (outer : List Env) (s : Shared) (H : Hp) (vs : List V) (Q : VK) (E : XK), Room k (A.deeper (envOfC "Trie.__init__" (defScope s_Trie_init) s.heap.objs.size (He.fAd K ("Trie", some "__init__")) cdv)) → sp vs H Q E →
      WSs (cxOf CX P w K mg base n_Trie_init "Trie.__init__" (defScope s_Trie_init) (He.fAd K ("Trie", some "__init__")) cdv A outer s H E) (defBody s_Trie_init) { nx := fun _ H' => Q .non H', rt := Q } (start n_Trie_init vs) H) : OkF P w K mg base CX (k + 1) (He.fAd K ("Trie", some "__init__")) ["self", "rows", "positions"] sp :=
  mk_ok T 40 (d := ⟨("Trie", some "__init__"), "__init__", "Trie.__init__", defArgs s_Trie_init, defBody s_Trie_init, defScope s_Trie_init, [], []⟩) rfl rfl rfl sc_Trie_init (fun _ _ _ _ _ _ us hl => match us, hl with | [_, _, _], _ => rfl) len hw
abbrev n_Trie_put : List Str := ["self", "entries", "node", "k"]
theorem sc_Trie_put : FnScope n_Trie_put ["self", "entries"] (defScope s_Trie_put) := ⟨rfl, rfl, rfl, by decide +kernel, rfl, by decide +kernel, by decide +kernel⟩
theorem mk_Trie_put (T : Tx K mg) (len : ∀ vs H Q E, sp vs H Q E → vs.length = 2)
    (hw : ∀ (cdv : Value) (A : Around) (outer : List Env) (s : Shared) (H : Hp) (vs : List V) (Q : VK) (E : XK), Room k (A.deeper (envOfC "Trie.put" (defScope s_Trie_put) s.heap.objs.size (He.fAd K ("Trie", some "put")) cdv)) → sp vs H Q E →
      WSs (cxOf CX P w K mg base n_Trie_put "Trie.put" (defScope s_Trie_put) (He.fAd K ("Trie", some "put")) cdv A outer s H E) (defBody s_Trie_put) { nx := fun _ H' => Q .non H', rt := Q } (start n_Trie_put vs) H) : OkF P w K mg base CX (k + 1) (He.fAd K ("Trie", some "put")) ["self", "entries"] sp :=
  mk_ok T 41 (d := ⟨("Trie", some "put"), "put", "Trie.put", defArgs s_Trie_put, defBody s_Trie_put, defScope s_Trie_put, [], []⟩) rfl rfl rfl sc_Trie_put (fun _ _ _ _ _ _ us hl => match us, hl with | [_, _], _ => rfl) len hw
abbrev n_Trie_node_at : List Str := ["self", "prefix", "node", "entry"]
theorem sc_Trie_node_at : FnScope n_Trie_node_at ["self", "prefix"] (defScope s_Trie_node_at) := ⟨rfl, rfl, rfl, by decide +kernel, rfl, by decide +kernel, by decide +kernel⟩
theorem mk_Trie_node_at (T : Tx K mg) (len : ∀ vs H Q E, sp vs H Q E → vs.length = 2)
    (hw : ∀ (cdv : Value) (A : Around) (outer : List Env) (s : Shared) (H : Hp) (vs : List V) (Q : VK) (E : XK), Room k (A.deeper (envOfC "Trie.node_at" (defScope s_Trie_node_at) s.heap.objs.size (He.fAd K ("Trie", some "node_at")) cdv)) → sp vs H Q E →
      WSs (cxOf CX P w K mg base n_Trie_node_at "Trie.node_at" (defScope s_Trie_node_at) (He.fAd K ("Trie", some "node_at")) cdv A outer s H E) (defBody s_Trie_node_at) { nx := fun _ H' => Q .non H', rt := Q } (start n_Trie_node_at vs) H) : OkF P w K mg base CX (k + 1) (He.fAd K ("Trie", some "node_at")) ["self", "prefix"] sp :=
  mk_ok T 42 (d := ⟨("Trie", some "node_at"), "node_at", "Trie.node_at", defArgs s_Trie_node_at, defBody s_Trie_node_at, defScope s_Trie_node_at, [], []⟩) rfl rfl rfl sc_Trie_node_at (fun _ _ _ _ _ _ us hl => match us, hl with | [_, _], _ => rfl) len hw
abbrev n_Trie_children : List Str := ["self", "prefix", "node"]
theorem sc_Trie_children : FnScope n_Trie_children ["self", "prefix"] (defScope s_Trie_children) := ⟨rfl, rfl, rfl, by decide +kernel, rfl, by decide +kernel, by decide +kernel⟩
theorem mk_Trie_children (T : Tx K mg) (len : ∀ vs H Q E, sp vs H Q E → vs.length = 2)
    (hw : ∀ (cdv : Value) (A : Around) (outer : List Env) (s : Shared) (H : Hp) (vs : List V) (Q : VK) (E : XK), Room k (A.deeper (envOfC "Trie.children" (defScope s_Trie_children) s.heap.objs.size (He.fAd K ("Trie", some "children")) cdv)) → sp vs H Q E →
      WSs (cxOf CX P w K mg base n_Trie_children "Trie.children" (defScope s_Trie_children) (He.fAd K ("Trie", some "children")) cdv A outer s H E) (defBody s_Trie_children) { nx := fun _ H' => Q .non H', rt := Q } (start n_Trie_children vs) H) : OkF P w K mg base CX (k + 1) (He.fAd K ("Trie", some "children")) ["self", "prefix"] sp :=
  mk_ok T 43 (d := ⟨("Trie", some "children"), "children", "Trie.children", defArgs s_Trie_children, defBody s_Trie_children, defScope s_Trie_children, [], []⟩) rfl rfl rfl sc_Trie_children (fun _ _ _ _ _ _ us hl => match us, hl with | [_, _], _ => rfl) len hw
abbrev n_Branch_init : List Str := ["self", "catalogue", "atom", "order", "name", "variables", "rows", "row", "k"]
theorem sc_Branch_init : FnScope n_Branch_init ["self", "catalogue", "atom", "order"] (defScope s_Branch_init) := ⟨rfl, rfl, rfl, by decide +kernel, rfl, by decide +kernel, by decide +kernel⟩
theorem mk_Branch_init (T : Tx K mg) (len : ∀ vs H Q E, sp vs H Q E → vs.length = 4)
    (hw : ∀ (cdv : Value) (A : Around) (outer : List Env) (s : Shared) (H : Hp) (vs : List V) (Q : VK) (E : XK), Room k (A.deeper (envOfC "Branch.__init__" (defScope s_Branch_init) s.heap.objs.size (He.fAd K ("Branch", some "__init__")) cdv)) → sp vs H Q E →
      WSs (cxOf CX P w K mg base n_Branch_init "Branch.__init__" (defScope s_Branch_init) (He.fAd K ("Branch", some "__init__")) cdv A outer s H E) (defBody s_Branch_init) { nx := fun _ H' => Q .non H', rt := Q } (start n_Branch_init vs) H) : OkF P w K mg base CX (k + 1) (He.fAd K ("Branch", some "__init__")) ["self", "catalogue", "atom", "order"] sp :=
  mk_ok T 44 (d := ⟨("Branch", some "__init__"), "__init__", "Branch.__init__", defArgs s_Branch_init, defBody s_Branch_init, defScope s_Branch_init, [], []⟩) rfl rfl rfl sc_Branch_init (fun _ _ _ _ _ _ us hl => match us, hl with | [_, _, _, _], _ => rfl) len hw
abbrev n_Branch_agrees : List Str := ["self", "variables", "row", "k"]
theorem sc_Branch_agrees : FnScope n_Branch_agrees ["self", "variables", "row"] (defScope s_Branch_agrees) := ⟨rfl, rfl, rfl, by decide +kernel, rfl, by decide +kernel, by decide +kernel⟩
theorem mk_Branch_agrees (T : Tx K mg) (len : ∀ vs H Q E, sp vs H Q E → vs.length = 3)
    (hw : ∀ (cdv : Value) (A : Around) (outer : List Env) (s : Shared) (H : Hp) (vs : List V) (Q : VK) (E : XK), Room k (A.deeper (envOfC "Branch.agrees" (defScope s_Branch_agrees) s.heap.objs.size (He.fAd K ("Branch", some "agrees")) cdv)) → sp vs H Q E →
      WSs (cxOf CX P w K mg base n_Branch_agrees "Branch.agrees" (defScope s_Branch_agrees) (He.fAd K ("Branch", some "agrees")) cdv A outer s H E) (defBody s_Branch_agrees) { nx := fun _ H' => Q .non H', rt := Q } (start n_Branch_agrees vs) H) : OkF P w K mg base CX (k + 1) (He.fAd K ("Branch", some "agrees")) ["self", "variables", "row"] sp :=
  mk_ok T 45 (d := ⟨("Branch", some "agrees"), "agrees", "Branch.agrees", defArgs s_Branch_agrees, defBody s_Branch_agrees, defScope s_Branch_agrees, [], []⟩) rfl rfl rfl sc_Branch_agrees (fun _ _ _ _ _ _ us hl => match us, hl with | [_, _, _], _ => rfl) len hw
abbrev n_Branch_choices : List Str := ["self", "prefix", "k"]
theorem sc_Branch_choices : FnScope n_Branch_choices ["self", "prefix"] (defScope s_Branch_choices) := ⟨rfl, rfl, rfl, by decide +kernel, rfl, by decide +kernel, by decide +kernel⟩
theorem mk_Branch_choices (T : Tx K mg) (len : ∀ vs H Q E, sp vs H Q E → vs.length = 2)
    (hw : ∀ (cdv : Value) (A : Around) (outer : List Env) (s : Shared) (H : Hp) (vs : List V) (Q : VK) (E : XK), Room k (A.deeper (envOfC "Branch.choices" (defScope s_Branch_choices) s.heap.objs.size (He.fAd K ("Branch", some "choices")) cdv)) → sp vs H Q E →
      WSs (cxOf CX P w K mg base n_Branch_choices "Branch.choices" (defScope s_Branch_choices) (He.fAd K ("Branch", some "choices")) cdv A outer s H E) (defBody s_Branch_choices) { nx := fun _ H' => Q .non H', rt := Q } (start n_Branch_choices vs) H) : OkF P w K mg base CX (k + 1) (He.fAd K ("Branch", some "choices")) ["self", "prefix"] sp :=
  mk_ok T 46 (d := ⟨("Branch", some "choices"), "choices", "Branch.choices", defArgs s_Branch_choices, defBody s_Branch_choices, defScope s_Branch_choices, [], []⟩) rfl rfl rfl sc_Branch_choices (fun _ _ _ _ _ _ us hl => match us, hl with | [_, _], _ => rfl) len hw
abbrev n_Search_init : List Str := ["self", "catalogue", "pattern", "order", "atom", "branch"]
theorem sc_Search_init : FnScope n_Search_init ["self", "catalogue", "pattern", "order"] (defScope s_Search_init) := ⟨rfl, rfl, rfl, by decide +kernel, rfl, by decide +kernel, by decide +kernel⟩
theorem mk_Search_init (T : Tx K mg) (len : ∀ vs H Q E, sp vs H Q E → vs.length = 4)
    (hw : ∀ (cdv : Value) (A : Around) (outer : List Env) (s : Shared) (H : Hp) (vs : List V) (Q : VK) (E : XK), Room k (A.deeper (envOfC "Search.__init__" (defScope s_Search_init) s.heap.objs.size (He.fAd K ("Search", some "__init__")) cdv)) → sp vs H Q E →
      WSs (cxOf CX P w K mg base n_Search_init "Search.__init__" (defScope s_Search_init) (He.fAd K ("Search", some "__init__")) cdv A outer s H E) (defBody s_Search_init) { nx := fun _ H' => Q .non H', rt := Q } (start n_Search_init vs) H) : OkF P w K mg base CX (k + 1) (He.fAd K ("Search", some "__init__")) ["self", "catalogue", "pattern", "order"] sp :=
  mk_ok T 47 (d := ⟨("Search", some "__init__"), "__init__", "Search.__init__", defArgs s_Search_init, defBody s_Search_init, defScope s_Search_init, [], []⟩) rfl rfl rfl sc_Search_init (fun _ _ _ _ _ _ us hl => match us, hl with | [_, _, _, _], _ => rfl) len hw
abbrev n_Search_next_ones : List Str := ["self", "prefix", "k", "branch"]
theorem sc_Search_next_ones : FnScope n_Search_next_ones ["self", "prefix"] (defScope s_Search_next_ones) := ⟨rfl, rfl, rfl, by decide +kernel, rfl, by decide +kernel, by decide +kernel⟩
theorem mk_Search_next_ones (T : Tx K mg) (len : ∀ vs H Q E, sp vs H Q E → vs.length = 2)
    (hw : ∀ (cdv : Value) (A : Around) (outer : List Env) (s : Shared) (H : Hp) (vs : List V) (Q : VK) (E : XK), Room k (A.deeper (envOfC "Search.next_ones" (defScope s_Search_next_ones) s.heap.objs.size (He.fAd K ("Search", some "next_ones")) cdv)) → sp vs H Q E →
      WSs (cxOf CX P w K mg base n_Search_next_ones "Search.next_ones" (defScope s_Search_next_ones) (He.fAd K ("Search", some "next_ones")) cdv A outer s H E) (defBody s_Search_next_ones) { nx := fun _ H' => Q .non H', rt := Q } (start n_Search_next_ones vs) H) : OkF P w K mg base CX (k + 1) (He.fAd K ("Search", some "next_ones")) ["self", "prefix"] sp :=
  mk_ok T 48 (d := ⟨("Search", some "next_ones"), "next_ones", "Search.next_ones", defArgs s_Search_next_ones, defBody s_Search_next_ones, defScope s_Search_next_ones, [], []⟩) rfl rfl rfl sc_Search_next_ones (fun _ _ _ _ _ _ us hl => match us, hl with | [_, _], _ => rfl) len hw
abbrev n_Search_first_level : List Str := ["self"]
theorem sc_Search_first_level : FnScope n_Search_first_level ["self"] (defScope s_Search_first_level) := ⟨rfl, rfl, rfl, by decide +kernel, rfl, by decide +kernel, by decide +kernel⟩
theorem mk_Search_first_level (T : Tx K mg) (len : ∀ vs H Q E, sp vs H Q E → vs.length = 1)
    (hw : ∀ (cdv : Value) (A : Around) (outer : List Env) (s : Shared) (H : Hp) (vs : List V) (Q : VK) (E : XK), Room k (A.deeper (envOfC "Search.first_level" (defScope s_Search_first_level) s.heap.objs.size (He.fAd K ("Search", some "first_level")) cdv)) → sp vs H Q E →
      WSs (cxOf CX P w K mg base n_Search_first_level "Search.first_level" (defScope s_Search_first_level) (He.fAd K ("Search", some "first_level")) cdv A outer s H E) (defBody s_Search_first_level) { nx := fun _ H' => Q .non H', rt := Q } (start n_Search_first_level vs) H) : OkF P w K mg base CX (k + 1) (He.fAd K ("Search", some "first_level")) ["self"] sp :=
  mk_ok T 49 (d := ⟨("Search", some "first_level"), "first_level", "Search.first_level", defArgs s_Search_first_level, defBody s_Search_first_level, defScope s_Search_first_level, [], []⟩) rfl rfl rfl sc_Search_first_level (fun _ _ _ _ _ _ us hl => match us, hl with | [_], _ => rfl) len hw
abbrev n_Search_deeper : List Str := ["self", "level", "longer", "prefix", "number"]
theorem sc_Search_deeper : FnScope n_Search_deeper ["self", "level"] (defScope s_Search_deeper) := ⟨rfl, rfl, rfl, by decide +kernel, rfl, by decide +kernel, by decide +kernel⟩
theorem mk_Search_deeper (T : Tx K mg) (len : ∀ vs H Q E, sp vs H Q E → vs.length = 2)
    (hw : ∀ (cdv : Value) (A : Around) (outer : List Env) (s : Shared) (H : Hp) (vs : List V) (Q : VK) (E : XK), Room k (A.deeper (envOfC "Search.deeper" (defScope s_Search_deeper) s.heap.objs.size (He.fAd K ("Search", some "deeper")) cdv)) → sp vs H Q E →
      WSs (cxOf CX P w K mg base n_Search_deeper "Search.deeper" (defScope s_Search_deeper) (He.fAd K ("Search", some "deeper")) cdv A outer s H E) (defBody s_Search_deeper) { nx := fun _ H' => Q .non H', rt := Q } (start n_Search_deeper vs) H) : OkF P w K mg base CX (k + 1) (He.fAd K ("Search", some "deeper")) ["self", "level"] sp :=
  mk_ok T 50 (d := ⟨("Search", some "deeper"), "deeper", "Search.deeper", defArgs s_Search_deeper, defBody s_Search_deeper, defScope s_Search_deeper, [], []⟩) rfl rfl rfl sc_Search_deeper (fun _ _ _ _ _ _ us hl => match us, hl with | [_, _], _ => rfl) len hw
abbrev n_Keeper_init : List Str := ["self", "catalogue"]
theorem sc_Keeper_init : FnScope n_Keeper_init ["self", "catalogue"] (defScope s_Keeper_init) := ⟨rfl, rfl, rfl, by decide +kernel, rfl, by decide +kernel, by decide +kernel⟩
theorem mk_Keeper_init (T : Tx K mg) (len : ∀ vs H Q E, sp vs H Q E → vs.length = 2)
    (hw : ∀ (cdv : Value) (A : Around) (outer : List Env) (s : Shared) (H : Hp) (vs : List V) (Q : VK) (E : XK), Room k (A.deeper (envOfC "Keeper.__init__" (defScope s_Keeper_init) s.heap.objs.size (He.fAd K ("Keeper", some "__init__")) cdv)) → sp vs H Q E →
      WSs (cxOf CX P w K mg base n_Keeper_init "Keeper.__init__" (defScope s_Keeper_init) (He.fAd K ("Keeper", some "__init__")) cdv A outer s H E) (defBody s_Keeper_init) { nx := fun _ H' => Q .non H', rt := Q } (start n_Keeper_init vs) H) : OkF P w K mg base CX (k + 1) (He.fAd K ("Keeper", some "__init__")) ["self", "catalogue"] sp :=
  mk_ok T 51 (d := ⟨("Keeper", some "__init__"), "__init__", "Keeper.__init__", defArgs s_Keeper_init, defBody s_Keeper_init, defScope s_Keeper_init, [], []⟩) rfl rfl rfl sc_Keeper_init (fun _ _ _ _ _ _ us hl => match us, hl with | [_, _], _ => rfl) len hw
abbrev n_Keeper_catalogue : List Str := ["self"]
theorem sc_Keeper_catalogue : FnScope n_Keeper_catalogue ["self"] (defScope s_Keeper_catalogue) := ⟨rfl, rfl, rfl, by decide +kernel, rfl, by decide +kernel, by decide +kernel⟩
abbrev n_Keeper_names : List Str := ["self"]
theorem sc_Keeper_names : FnScope n_Keeper_names ["self"] (defScope s_Keeper_names) := ⟨rfl, rfl, rfl, by decide +kernel, rfl, by decide +kernel, by decide +kernel⟩
abbrev n_Keeper_note : List Str := ["self", "words"]
theorem sc_Keeper_note : FnScope n_Keeper_note ["self", "words"] (defScope s_Keeper_note) := ⟨rfl, rfl, rfl, by decide +kernel, rfl, by decide +kernel, by decide +kernel⟩
theorem mk_Keeper_note (T : Tx K mg) (len : ∀ vs H Q E, sp vs H Q E → vs.length = 2)
    (hw : ∀ (cdv : Value) (A : Around) (outer : List Env) (s : Shared) (H : Hp) (vs : List V) (Q : VK) (E : XK), Room k (A.deeper (envOfC "Keeper.note" (defScope s_Keeper_note) s.heap.objs.size (He.fAd K ("Keeper", some "note")) cdv)) → sp vs H Q E →
      WSs (cxOf CX P w K mg base n_Keeper_note "Keeper.note" (defScope s_Keeper_note) (He.fAd K ("Keeper", some "note")) cdv A outer s H E) (defBody s_Keeper_note) { nx := fun _ H' => Q .non H', rt := Q } (start n_Keeper_note vs) H) : OkF P w K mg base CX (k + 1) (He.fAd K ("Keeper", some "note")) ["self", "words"] sp :=
  mk_ok T 52 (d := ⟨("Keeper", some "note"), "note", "Keeper.note", defArgs s_Keeper_note, defBody s_Keeper_note, defScope s_Keeper_note, [], []⟩) rfl rfl rfl sc_Keeper_note (fun _ _ _ _ _ _ us hl => match us, hl with | [_, _], _ => rfl) len hw
abbrev n_Keeper_known : List Str := ["self", "name"]
theorem sc_Keeper_known : FnScope n_Keeper_known ["self", "name"] (defScope s_Keeper_known) := ⟨rfl, rfl, rfl, by decide +kernel, rfl, by decide +kernel, by decide +kernel⟩
theorem mk_Keeper_known (T : Tx K mg) (len : ∀ vs H Q E, sp vs H Q E → vs.length = 2)
    (hw : ∀ (cdv : Value) (A : Around) (outer : List Env) (s : Shared) (H : Hp) (vs : List V) (Q : VK) (E : XK), Room k (A.deeper (envOfC "Keeper.known" (defScope s_Keeper_known) s.heap.objs.size (He.fAd K ("Keeper", some "known")) cdv)) → sp vs H Q E →
      WSs (cxOf CX P w K mg base n_Keeper_known "Keeper.known" (defScope s_Keeper_known) (He.fAd K ("Keeper", some "known")) cdv A outer s H E) (defBody s_Keeper_known) { nx := fun _ H' => Q .non H', rt := Q } (start n_Keeper_known vs) H) : OkF P w K mg base CX (k + 1) (He.fAd K ("Keeper", some "known")) ["self", "name"] sp :=
  mk_ok T 53 (d := ⟨("Keeper", some "known"), "known", "Keeper.known", defArgs s_Keeper_known, defBody s_Keeper_known, defScope s_Keeper_known, [], []⟩) rfl rfl rfl sc_Keeper_known (fun _ _ _ _ _ _ us hl => match us, hl with | [_, _], _ => rfl) len hw
abbrev n_Keeper_stand : List Str := ["self", "name", "pattern", "rows"]
theorem sc_Keeper_stand : FnScope n_Keeper_stand ["self", "name", "pattern"] (defScope s_Keeper_stand) := ⟨rfl, rfl, rfl, by decide +kernel, rfl, by decide +kernel, by decide +kernel⟩
theorem mk_Keeper_stand (T : Tx K mg) (len : ∀ vs H Q E, sp vs H Q E → vs.length = 3)
    (hw : ∀ (cdv : Value) (A : Around) (outer : List Env) (s : Shared) (H : Hp) (vs : List V) (Q : VK) (E : XK), Room k (A.deeper (envOfC "Keeper.stand" (defScope s_Keeper_stand) s.heap.objs.size (He.fAd K ("Keeper", some "stand")) cdv)) → sp vs H Q E →
      WSs (cxOf CX P w K mg base n_Keeper_stand "Keeper.stand" (defScope s_Keeper_stand) (He.fAd K ("Keeper", some "stand")) cdv A outer s H E) (defBody s_Keeper_stand) { nx := fun _ H' => Q .non H', rt := Q } (start n_Keeper_stand vs) H) : OkF P w K mg base CX (k + 1) (He.fAd K ("Keeper", some "stand")) ["self", "name", "pattern"] sp :=
  mk_ok T 54 (d := ⟨("Keeper", some "stand"), "stand", "Keeper.stand", defArgs s_Keeper_stand, defBody s_Keeper_stand, defScope s_Keeper_stand, [], []⟩) rfl rfl rfl sc_Keeper_stand (fun _ _ _ _ _ _ us hl => match us, hl with | [_, _, _], _ => rfl) len hw
abbrev n_Keeper_fall : List Str := ["self", "name"]
theorem sc_Keeper_fall : FnScope n_Keeper_fall ["self", "name"] (defScope s_Keeper_fall) := ⟨rfl, rfl, rfl, by decide +kernel, rfl, by decide +kernel, by decide +kernel⟩
theorem mk_Keeper_fall (T : Tx K mg) (len : ∀ vs H Q E, sp vs H Q E → vs.length = 2)
    (hw : ∀ (cdv : Value) (A : Around) (outer : List Env) (s : Shared) (H : Hp) (vs : List V) (Q : VK) (E : XK), Room k (A.deeper (envOfC "Keeper.fall" (defScope s_Keeper_fall) s.heap.objs.size (He.fAd K ("Keeper", some "fall")) cdv)) → sp vs H Q E →
      WSs (cxOf CX P w K mg base n_Keeper_fall "Keeper.fall" (defScope s_Keeper_fall) (He.fAd K ("Keeper", some "fall")) cdv A outer s H E) (defBody s_Keeper_fall) { nx := fun _ H' => Q .non H', rt := Q } (start n_Keeper_fall vs) H) : OkF P w K mg base CX (k + 1) (He.fAd K ("Keeper", some "fall")) ["self", "name"] sp :=
  mk_ok T 55 (d := ⟨("Keeper", some "fall"), "fall", "Keeper.fall", defArgs s_Keeper_fall, defBody s_Keeper_fall, defScope s_Keeper_fall, [], []⟩) rfl rfl rfl sc_Keeper_fall (fun _ _ _ _ _ _ us hl => match us, hl with | [_, _], _ => rfl) len hw
abbrev n_Keeper_answers : List Str := ["self", "name"]
theorem sc_Keeper_answers : FnScope n_Keeper_answers ["self", "name"] (defScope s_Keeper_answers) := ⟨rfl, rfl, rfl, by decide +kernel, rfl, by decide +kernel, by decide +kernel⟩
theorem mk_Keeper_answers (T : Tx K mg) (len : ∀ vs H Q E, sp vs H Q E → vs.length = 2)
    (hw : ∀ (cdv : Value) (A : Around) (outer : List Env) (s : Shared) (H : Hp) (vs : List V) (Q : VK) (E : XK), Room k (A.deeper (envOfC "Keeper.answers" (defScope s_Keeper_answers) s.heap.objs.size (He.fAd K ("Keeper", some "answers")) cdv)) → sp vs H Q E →
      WSs (cxOf CX P w K mg base n_Keeper_answers "Keeper.answers" (defScope s_Keeper_answers) (He.fAd K ("Keeper", some "answers")) cdv A outer s H E) (defBody s_Keeper_answers) { nx := fun _ H' => Q .non H', rt := Q } (start n_Keeper_answers vs) H) : OkF P w K mg base CX (k + 1) (He.fAd K ("Keeper", some "answers")) ["self", "name"] sp :=
  mk_ok T 56 (d := ⟨("Keeper", some "answers"), "answers", "Keeper.answers", defArgs s_Keeper_answers, defBody s_Keeper_answers, defScope s_Keeper_answers, [], []⟩) rfl rfl rfl sc_Keeper_answers (fun _ _ _ _ _ _ us hl => match us, hl with | [_, _], _ => rfl) len hw
abbrev n_Keeper_ways : List Str := ["self", "name", "answer"]
theorem sc_Keeper_ways : FnScope n_Keeper_ways ["self", "name", "answer"] (defScope s_Keeper_ways) := ⟨rfl, rfl, rfl, by decide +kernel, rfl, by decide +kernel, by decide +kernel⟩
theorem mk_Keeper_ways (T : Tx K mg) (len : ∀ vs H Q E, sp vs H Q E → vs.length = 3)
    (hw : ∀ (cdv : Value) (A : Around) (outer : List Env) (s : Shared) (H : Hp) (vs : List V) (Q : VK) (E : XK), Room k (A.deeper (envOfC "Keeper.ways" (defScope s_Keeper_ways) s.heap.objs.size (He.fAd K ("Keeper", some "ways")) cdv)) → sp vs H Q E →
      WSs (cxOf CX P w K mg base n_Keeper_ways "Keeper.ways" (defScope s_Keeper_ways) (He.fAd K ("Keeper", some "ways")) cdv A outer s H E) (defBody s_Keeper_ways) { nx := fun _ H' => Q .non H', rt := Q } (start n_Keeper_ways vs) H) : OkF P w K mg base CX (k + 1) (He.fAd K ("Keeper", some "ways")) ["self", "name", "answer"] sp :=
  mk_ok T 57 (d := ⟨("Keeper", some "ways"), "ways", "Keeper.ways", defArgs s_Keeper_ways, defBody s_Keeper_ways, defScope s_Keeper_ways, [], []⟩) rfl rfl rfl sc_Keeper_ways (fun _ _ _ _ _ _ us hl => match us, hl with | [_, _, _], _ => rfl) len hw
abbrev n_Keeper_changes : List Str := ["self", "catalogue", "table", "row", "found", "name", "counts", "copies", "other", "part", "answer"]
theorem sc_Keeper_changes : FnScope n_Keeper_changes ["self", "catalogue", "table", "row"] (defScope s_Keeper_changes) := ⟨rfl, rfl, rfl, by decide +kernel, rfl, by decide +kernel, by decide +kernel⟩
theorem mk_Keeper_changes (T : Tx K mg) (len : ∀ vs H Q E, sp vs H Q E → vs.length = 4)
    (hw : ∀ (cdv : Value) (A : Around) (outer : List Env) (s : Shared) (H : Hp) (vs : List V) (Q : VK) (E : XK), Room k (A.deeper (envOfC "Keeper.changes" (defScope s_Keeper_changes) s.heap.objs.size (He.fAd K ("Keeper", some "changes")) cdv)) → sp vs H Q E →
      WSs (cxOf CX P w K mg base n_Keeper_changes "Keeper.changes" (defScope s_Keeper_changes) (He.fAd K ("Keeper", some "changes")) cdv A outer s H E) (defBody s_Keeper_changes) { nx := fun _ H' => Q .non H', rt := Q } (start n_Keeper_changes vs) H) : OkF P w K mg base CX (k + 1) (He.fAd K ("Keeper", some "changes")) ["self", "catalogue", "table", "row"] sp :=
  mk_ok T 58 (d := ⟨("Keeper", some "changes"), "changes", "Keeper.changes", defArgs s_Keeper_changes, defBody s_Keeper_changes, defScope s_Keeper_changes, [], []⟩) rfl rfl rfl sc_Keeper_changes (fun _ _ _ _ _ _ us hl => match us, hl with | [_, _, _, _], _ => rfl) len hw
abbrev n_Keeper_turn : List Str := ["self", "name", "counts", "sign", "table", "gained", "lost", "answer", "many"]
theorem sc_Keeper_turn : FnScope n_Keeper_turn ["self", "name", "counts", "sign"] (defScope s_Keeper_turn) := ⟨rfl, rfl, rfl, by decide +kernel, rfl, by decide +kernel, by decide +kernel⟩
theorem mk_Keeper_turn (T : Tx K mg) (len : ∀ vs H Q E, sp vs H Q E → vs.length = 4)
    (hw : ∀ (cdv : Value) (A : Around) (outer : List Env) (s : Shared) (H : Hp) (vs : List V) (Q : VK) (E : XK), Room k (A.deeper (envOfC "Keeper.turn" (defScope s_Keeper_turn) s.heap.objs.size (He.fAd K ("Keeper", some "turn")) cdv)) → sp vs H Q E →
      WSs (cxOf CX P w K mg base n_Keeper_turn "Keeper.turn" (defScope s_Keeper_turn) (He.fAd K ("Keeper", some "turn")) cdv A outer s H E) (defBody s_Keeper_turn) { nx := fun _ H' => Q .non H', rt := Q } (start n_Keeper_turn vs) H) : OkF P w K mg base CX (k + 1) (He.fAd K ("Keeper", some "turn")) ["self", "name", "counts", "sign"] sp :=
  mk_ok T 59 (d := ⟨("Keeper", some "turn"), "turn", "Keeper.turn", defArgs s_Keeper_turn, defBody s_Keeper_turn, defScope s_Keeper_turn, [], []⟩) rfl rfl rfl sc_Keeper_turn (fun _ _ _ _ _ _ us hl => match us, hl with | [_, _, _, _], _ => rfl) len hw
abbrev n_Keeper_turn_all : List Str := ["self", "changes", "sign", "told", "name", "gained", "lost"]
theorem sc_Keeper_turn_all : FnScope n_Keeper_turn_all ["self", "changes", "sign"] (defScope s_Keeper_turn_all) := ⟨rfl, rfl, rfl, by decide +kernel, rfl, by decide +kernel, by decide +kernel⟩
theorem mk_Keeper_turn_all (T : Tx K mg) (len : ∀ vs H Q E, sp vs H Q E → vs.length = 3)
    (hw : ∀ (cdv : Value) (A : Around) (outer : List Env) (s : Shared) (H : Hp) (vs : List V) (Q : VK) (E : XK), Room k (A.deeper (envOfC "Keeper.turn_all" (defScope s_Keeper_turn_all) s.heap.objs.size (He.fAd K ("Keeper", some "turn_all")) cdv)) → sp vs H Q E →
      WSs (cxOf CX P w K mg base n_Keeper_turn_all "Keeper.turn_all" (defScope s_Keeper_turn_all) (He.fAd K ("Keeper", some "turn_all")) cdv A outer s H E) (defBody s_Keeper_turn_all) { nx := fun _ H' => Q .non H', rt := Q } (start n_Keeper_turn_all vs) H) : OkF P w K mg base CX (k + 1) (He.fAd K ("Keeper", some "turn_all")) ["self", "changes", "sign"] sp :=
  mk_ok T 60 (d := ⟨("Keeper", some "turn_all"), "turn_all", "Keeper.turn_all", defArgs s_Keeper_turn_all, defBody s_Keeper_turn_all, defScope s_Keeper_turn_all, [], []⟩) rfl rfl rfl sc_Keeper_turn_all (fun _ _ _ _ _ _ us hl => match us, hl with | [_, _, _], _ => rfl) len hw
abbrev n_Keeper_add : List Str := ["self", "table", "row", "fresh", "changes", "name", "answer", "number"]
theorem sc_Keeper_add : FnScope n_Keeper_add ["self", "table", "row"] (defScope s_Keeper_add) := ⟨rfl, rfl, rfl, by decide +kernel, rfl, by decide +kernel, by decide +kernel⟩
theorem mk_Keeper_add (T : Tx K mg) (len : ∀ vs H Q E, sp vs H Q E → vs.length = 3)
    (hw : ∀ (cdv : Value) (A : Around) (outer : List Env) (s : Shared) (H : Hp) (vs : List V) (Q : VK) (E : XK), Room k (A.deeper (envOfC "Keeper.add" (defScope s_Keeper_add) s.heap.objs.size (He.fAd K ("Keeper", some "add")) cdv)) → sp vs H Q E →
      WSs (cxOf CX P w K mg base n_Keeper_add "Keeper.add" (defScope s_Keeper_add) (He.fAd K ("Keeper", some "add")) cdv A outer s H E) (defBody s_Keeper_add) { nx := fun _ H' => Q .non H', rt := Q } (start n_Keeper_add vs) H) : OkF P w K mg base CX (k + 1) (He.fAd K ("Keeper", some "add")) ["self", "table", "row"] sp :=
  mk_ok T 61 (d := ⟨("Keeper", some "add"), "add", "Keeper.add", defArgs s_Keeper_add, defBody s_Keeper_add, defScope s_Keeper_add, [], []⟩) rfl rfl rfl sc_Keeper_add (fun _ _ _ _ _ _ us hl => match us, hl with | [_, _, _], _ => rfl) len hw
abbrev n_Keeper_drop : List Str := ["self", "table", "row", "fresh", "changes", "number"]
theorem sc_Keeper_drop : FnScope n_Keeper_drop ["self", "table", "row"] (defScope s_Keeper_drop) := ⟨rfl, rfl, rfl, by decide +kernel, rfl, by decide +kernel, by decide +kernel⟩
theorem mk_Keeper_drop (T : Tx K mg) (len : ∀ vs H Q E, sp vs H Q E → vs.length = 3)
    (hw : ∀ (cdv : Value) (A : Around) (outer : List Env) (s : Shared) (H : Hp) (vs : List V) (Q : VK) (E : XK), Room k (A.deeper (envOfC "Keeper.drop" (defScope s_Keeper_drop) s.heap.objs.size (He.fAd K ("Keeper", some "drop")) cdv)) → sp vs H Q E →
      WSs (cxOf CX P w K mg base n_Keeper_drop "Keeper.drop" (defScope s_Keeper_drop) (He.fAd K ("Keeper", some "drop")) cdv A outer s H E) (defBody s_Keeper_drop) { nx := fun _ H' => Q .non H', rt := Q } (start n_Keeper_drop vs) H) : OkF P w K mg base CX (k + 1) (He.fAd K ("Keeper", some "drop")) ["self", "table", "row"] sp :=
  mk_ok T 62 (d := ⟨("Keeper", some "drop"), "drop", "Keeper.drop", defArgs s_Keeper_drop, defBody s_Keeper_drop, defScope s_Keeper_drop, [], []⟩) rfl rfl rfl sc_Keeper_drop (fun _ _ _ _ _ _ us hl => match us, hl with | [_, _, _], _ => rfl) len hw
end
end J
/-! The top's run, in the kernel. Printed by genhead.py. -/
namespace J
open PySem PySem.Spec PyProof.Rows L2
def asL0 : List Nat := [3, 6, 4, 21, 31, 44, 56, 68, 80, 92, 104, 111, 116, 121, 126, 131, 138, 145, 152, 159, 164, 171, 176, 181, 188, 238, 249, 254, 279, 317, 328, 333, 338, 343, 348, 460, 471, 478, 483, 490]
def asL1 : List Nat := [497, 502, 507, 512, 519, 524, 529, 536, 541, 548, 555, 560, 565, 572, 577, 0, 20, 30, 43, 55, 67, 79, 91, 103, 110, 115, 120, 125, 130, 137, 144, 151, 158, 163, 170, 175, 180, 187, 237, 248]
def asL2 : List Nat := [253, 278, 316, 327, 332, 337, 342, 347, 459, 470, 477, 482, 489, 496, 501, 506, 511, 518, 523, 528, 535, 540, 547, 554, 559, 564, 571, 576, 15, 16, 17, 18, 19, 29, 32, 42, 54, 66, 78, 90]
def asL3 : List Nat := [102, 107, 108, 109, 112, 113, 114, 117, 118, 119, 122, 123, 124, 127, 128, 129, 132, 133, 134, 135, 136, 139, 140, 141, 142, 143, 146, 147, 148, 149, 150, 153, 154, 155, 156, 157, 160, 161, 162, 165]
def asL4 : List Nat := [166, 167, 168, 169, 172, 173, 174, 177, 178, 179, 182, 183, 184, 185, 186, 200, 207, 214, 221, 228, 235, 236, 239, 240, 243, 244, 245, 246, 247, 250, 251, 252, 266, 271, 276, 277, 280, 281, 295, 300]
def asL5 : List Nat := [307, 314, 315, 318, 319, 322, 323, 324, 325, 326, 329, 330, 331, 334, 335, 336, 339, 340, 341, 344, 345, 346, 362, 370, 378, 386, 393, 400, 407, 414, 421, 428, 435, 440, 447, 452, 457, 458, 461, 462]
def asL6 : List Nat := [465, 466, 467, 468, 469, 472, 473, 474, 475, 476, 479, 480, 481, 484, 485, 486, 487, 488, 491, 492, 493, 494, 495, 498, 499, 500, 503, 504, 505, 508, 509, 510, 513, 514, 515, 516, 517, 520, 521, 522]
def asL7 : List Nat := [525, 526, 527, 530, 531, 532, 533, 534, 537, 538, 539, 542, 543, 544, 545, 546, 549, 550, 551, 552, 553, 556, 557, 558, 561, 562, 563, 566, 567, 568, 569, 570, 573, 574, 575, 199, 206, 213, 220, 227]
def asL8 : List Nat := [234, 265, 270, 275, 294, 299, 306, 313, 361, 369, 377, 385, 392, 399, 406, 413, 420, 427, 434, 439, 446, 451, 456, 196, 197, 198, 201, 202, 203, 204, 205, 208, 209, 210, 211, 212, 215, 216, 217, 218]
def asL9 : List Nat := [219, 222, 223, 224, 225, 226, 229, 230, 231, 232, 233, 262, 263, 264, 267, 268, 269, 272, 273, 274, 291, 292, 293, 296, 297, 298, 301, 302, 303, 304, 305, 308, 309, 310, 311, 312, 356, 357, 358, 359]
def asL10 : List Nat := [360, 368, 376, 384, 387, 388, 389, 390, 391, 394, 395, 396, 397, 398, 401, 402, 403, 404, 405, 408, 409, 410, 411, 412, 415, 416, 417, 418, 419, 422, 423, 424, 425, 426, 429, 430, 431, 432, 433, 436]
def asL11 : List Nat := [437, 438, 441, 442, 443, 444, 445, 448, 449, 450, 453, 454, 455]
def asL : List Nat := asL0 ++ asL1 ++ asL2 ++ asL3 ++ asL4 ++ asL5 ++ asL6 ++ asL7 ++ asL8 ++ asL9 ++ asL10 ++ asL11
def obsXG (g : Addr → Option Obj) : AlX := obsX (He.frG g asL)
def hk : PySem.W.Hook where
  α := AlX
  obs := fun s => obsXG s.heap.get?
  val := fun _ => valX
  says := fun _ h => ∃ K : PySem.W.Frag, K.In h ∧ SaysX K
  of := fun _ _ e => ⟨_, He.frG_in, e⟩
  keeps := fun _ _ _ ⟨K, hK, c⟩ k => ⟨K, PySem.W.Frag.In.keeps hK k, c⟩
theorem obsXG_eq {g : Addr → Option Obj} {s : Shared} (h : ∀ a, g a = s.heap.get? a) : obsXG g = hk.obs s := by
  have e : g = s.heap.get? := funext h
  rw [e] <;> rfl
abbrev R : PySem.W.OpenRow := PySem.W.OpenLaw.row PySem.Challenge.rw_joinhall_k32_whole_standing_answers_are
def ob (s : PySem.W.SharedT) : AlX := obsXG (HandSHeadRun.getT s)
theorem ob_eq (s : PySem.W.SharedT) : ob s = hk.obs s.abs := obsXG_eq (HandSHeadRun.getT_eq s)
def looseN0 : List (Str) := ["_wall", "HallError", "CatalogueError", "TooLarge", "UnknownTable", "RowError", "PatternError", "StandingError", "TABLE_LIMIT", "ROW_LIMIT", "COLUMN_LIMIT", "NUMBER_LIMIT", "NAME_LIMIT", "LETTERS", "NAME_SIGNS", "is_name", "right_row", "ascend", "right_table", "check_catalogue", "place_of", "table_at", "with_rows", "with_row", "without_row", "ATOM_LIMIT", "VARIABLE_LIMIT", "PLACE_LIMIT", "all_variables", "right_atoms"]
def looseN1 : List (Str) := ["check_pattern", "check_fit", "Trie", "place_from", "common", "VISIT_LIMIT", "Branch", "Search", "joined", "write_catalogue", "write_pattern", "STANDING_LIMIT", "counted", "with_copies", "Keeper", "_law_begin", "_law_take", "_law_rows", "_law_catalogue", "_law_table", "_law_with", "_law_variables", "_law_pattern", "_law_agrees", "_law_partials", "_law_assignments", "_law_named", "_law_answers", "_law_class", "_law_do"]
def looseN2 : List (Str) := ["_law_changes", "_law_step", "_law_same"]
def looseN : List (Str) := looseN0 ++ looseN1 ++ looseN2
theorem run (w : World) : HandSHeadRun.RunEq R (PySem.W.view R.prog [72]) hk ob 6000 looseN w := by
  intro os
  kernel_rfl
end J
/-! Rules of the machine that the hand layer has no row for: sorted of tuples, of dicts with tuple keys; del of such a key; in of tuples; a tuple's index; a tuple once. -/
namespace J
open PySem PySem.Spec PyProof.Rows L2

/-! ### in a tuple of tuples -/
section
variable {X : Cx}
def rInTp (K : PySem.W.Frag) (n : Bool) : R2 := fun x y H Q => ∃ d ds, Dp K H x d ∧ Dp K H y (.tuple ds) ∧ SeqAt.shaped d = true ∧ SeqAt.shaped (.tuple ds) = true ∧ Q (.bl (if n = true then !ds.any (fun z => PyData.eqv z d) else ds.any fun z => PyData.eqv z d)) H
theorem roomTp {A : Around} {d : PyData} (x : PyData) (h : SeqAt.shaped d = true) (hu : A.units + 65 < cLine) : A.units + 1 + min x.depth d.depth < cLine := by
  have h1 := SeqAt.depth_of_shaped h
  omega
theorem roomTp2 {A : Around} {d : PyData} (n : Nat) (h : SeqAt.shaped d = true) (hu : A.units + 65 < cLine) : A.units + 1 + min n d.depth < cLine := by
  have h1 := SeqAt.depth_of_shaped h
  omega
theorem op_inTp (hu : X.A.units + 65 < cLine) : OpR X (compareOp .In) (rInTp X.K false) := fun pins s σ H x y v u Q I rx ry ⟨d, ds, hd, he, sd, se, q⟩ => by
  obtain ⟨as, r1⟩ := hd.reads I d x v rx
  obtain ⟨bs, r2⟩ := he.reads I (.tuple ds) y u ry
  exact SeqAt.in_tuple_reads r2 r1 (SeqAt.canLay_of_shaped se) (SeqAt.canLay_of_shaped sd) (roomTp2 _ sd hu) ⟨.bl _, H, I, rfl, q⟩
theorem op_ninTp (hu : X.A.units + 65 < cLine) : OpR X (compareOp .NotIn) (rInTp X.K true) := fun pins s σ H x y v u Q I rx ry ⟨d, ds, hd, he, sd, se, q⟩ => by
  obtain ⟨as, r1⟩ := hd.reads I d x v rx
  obtain ⟨bs, r2⟩ := he.reads I (.tuple ds) y u ry
  exact SeqAt.notIn_tuple_reads r2 r1 (SeqAt.canLay_of_shaped se) (SeqAt.canLay_of_shaped sd) (roomTp2 _ sd hu) ⟨.bl _, H, I, rfl, q⟩

/-! ### t * 1 -/
theorem tuple_mul1 (l : Addr) (items : Array Value) (n : Nat) (dd : Option Addr) (sl : Array (Option Value)) (u : Tok) :
    Meets (Builtin.«tuple.__mul__» ⟨[.ref l, .int 1 u], []⟩) (fun _ R s => s.heap.get? l = some { cls := .type "tuple", dict := dd, data := .seq items n, slots := sl } ∧ R (.ok (.ret (.ref l))) s) :=
  .of_wp fun prog w A R s h => by
    obtain ⟨hp, g, d, tk, os⟩ := s
    obtain ⟨hl, h⟩ := h
    have f1 := AutoSeq1.idx_int
    have c1 : (items.isEmpty || (1 : Int) == 1) = true := by rw [show ((1 : Int) == 1) = true from rfl, Bool.or_true]
    wp_walk using wpAny_loadPart' hl
    repeat (first
      | (refine wpAny_ite_true c1 ?_; wp_walk using wpAny_loadPart' hl)
      | (refine wpAny_ite_false (by decide) ?_; wp_walk using wpAny_loadPart' hl))
    exact ⟨_, rfl, h⟩
theorem op_rep1 : OpR X (binaryOp .Mult) (fun x y H Q => ∃ l xs, x = .ref l ∧ y = .int 1 ∧ SqT X.K H l xs ∧ Q (.ref l) H) := fun pins s σ H x y v u Q I rx ry ⟨l, xs, e1, e2, hT, q⟩ => by
  subst e1 e2
  cases rx
  obtain ⟨t, rfl⟩ := ry
  obtain ⟨its, r, ⟨⟨cls, dd, data, sl⟩, ho, hc, n, hd⟩, hs⟩ := I.tuple hT
  simp only at hc hd
  subst hc hd
  exact wpAny_binaryOp_repeat_ref (T := "tuple") (U := "int") (by decide) ⟨_, ho, rfl⟩ (fun s' => typeIs_int s' 1 t) noFill_tuple_mul F.fills_int_mul F.slot_int_rmul repeat_tuple F.slot_int_index.lookup
    (call_meets F.slot_int_rmul (typeIs_int s 1 t) F.entry_int_rmul (F.args_int_rmul_2 _ _) (int_rmul_tuple 1 t l its.toArray n dd sl)
      ⟨ho, rfl, ⟨_, ho, rfl⟩, call_meets F.slot_tuple_mul ⟨_, ho, rfl⟩ F.entry_tuple_mul (F.args_tuple_mul_2 _ _) (tuple_mul1 l its.toArray n dd sl t) ⟨ho, ⟨.ref l, H, I, rfl, q⟩⟩⟩)

/-! ### del d[k], k a tuple -/
theorem meets_delT {prog : Program} {w : World} {K : Type} [DecidableEq K] {knd : HeapKind prog w K} {d b : Addr} {k : K} :
    MeetsIn prog w (Builtin.«dict.__delitem__» ⟨[.ref d, .ref b], []⟩) (fun A R s => ∃ xs, knd.room A.in1 ∧ knd.is s.heap k b ∧ s.heap.DictOfH knd d xs ∧ xs.length ≤ sizeLine ∧ atKey xs k ≠ none ∧
      ∀ h' tk, h'.DictOfH knd d (DT.dropH xs k) → Heap.SameBut d s.heap h' → R (.ok (.ret .none)) { s with heap := h', toks := tk }) :=
  .of_wp fun A R s ⟨xs, hu, hkey, hm, hsz, hne, hok⟩ => by
    obtain ⟨o, es, ep, ho, hc, hdat, he, his, hn⟩ := id hm
    unfold Builtin.«dict.__delitem__»
    refine wpAny_bind ?_
    unfold Builtin.Dict.dictSlotArgs
    refine wpAny_bind (wpAny_notOrdered_dict hm.typeIs (wpAny_pure ?_))
    show wpAny _ _ (Builtin.Dict.takeOut d (.ref b) >>= _) _ _ s
    refine wpAny_bind (DT.takeH hu hkey hm hsz (fun hno => absurd hno hne) fun p e hp hev h' hm' hs' => ?_)
    exact wpAny_bind (wpAny_letGo (wpAny_pure ⟨.none, rfl, hok h' _ hm' hs'⟩))
theorem d_delT {pins : List (Addr × Obj)} {s : Shared} {σ : L2.St} {H : Hp} {a b : Addr} {kvs : List (List Key × V)} {k : List Key} {A : Around} {E : Value → Shared → Prop} {Q : Unit → Shared → Prop} (hu : A.units + 1 < cLine) (I : Inv X pins σ H s) (ea : H a = some (.dT kvs)) (eb : H b = some (.tup (k.map kV)))
    (l : (valV kvs k).isSome = true) (h : ∀ s', Inv X pins σ (upd H a (.dT (dropK kvs k))) s' → Q () s') : wpAny (model X.prog X.w) A (delItem (.ref a) (.ref b)) Q E s := by
  obtain ⟨z, hd, xs, rel, dd⟩ := dt_of I.hok ea
  have hz : xs.length ≤ sizeLine := by rw [← Paired.length rel]; exact z
  have r := rel.val k
  have hne : atKey xs k ≠ none := fun e => by
    cases ev : valV kvs k with
    | none => rw [ev] at l; cases l
    | some v0 =>
      rw [ev, e] at r
      exact r
  refine wpAny_delItem_slot dd.typeIs (by decide) PySem.F.slot_dict_delitem
    (call_meetsIn PySem.F.slot_dict_delitem dd.typeIs PySem.F.entry_dict_delitem (PySem.F.args_dict_delitem_2 _ _) (meets_delT (knd := tupleKind (mixKind X.prog X.w)) (k := k)) ⟨xs, tupleKind_room_in1 hu, key_of I.hok eb, dd, hz, hne, fun h' tk dd' hs => h _ ?_⟩)
  obtain ⟨o, es, ep, hq, h2, h3, h4, _, h5⟩ := dd'
  exact d_write I (by rw [ea]; exact True.intro) hs ⟨o, hq⟩ ⟨Nat.le_trans (dropK_le kvs k) z, hd, _, (L2.DX.KT_drop k rel).keeps (fun c ys ec => (by rw [upd_ne (ne_of ec ea (fun q => nomatch q))]; exact ec)), o, es, ep, hq, h2, h3, h4, h5⟩
/-- del d[k] -/
theorem ws_delT {o i : Expr} {tpos pos : Pos} {σ : L2.St} {H : Hp} {D : Ends} (hu : X.A.units + 1 < cLine)
    (q : WE X o σ H fun x H1 => WE X i σ H1 fun y H2 => ∃ a b kvs k, x = .ref a ∧ y = .ref b ∧ H2 a = some (.dT kvs) ∧ H2 b = some (.tup (k.map kV)) ∧ (valV kvs k).isSome = true ∧ D.nx σ (upd H2 a (.dT (dropK kvs k)))) : WS X (.Delete [.Subscript o i tpos] pos) D σ H := ⟨fun pins s I => by
  refine wpAny_Delete (wpAny_deleteEach_cons (wpAny_delete_Subscript (thn (q.run pins s I) fun u s1 ⟨x, H1, I1, rx, q1⟩ => thn (q1.run pins s1 I1) fun iv s2 ⟨y, H2, I2, ry, a, b, kvs, k, ex, ey, ha, hb, l, q2⟩ => ?_)))
  subst ex ey
  obtain rfl : u = Value.ref a := rx
  obtain rfl : iv = Value.ref b := ry
  exact d_delT hu I2 ha hb l fun s3 I3 => wpAny_deleteEach_nil ⟨σ, _, I3, q2⟩⟩

/-! ### t.index(x) of a tuple that is told with its object -/
theorem we_tidx {o e : Expr} {apos cpos : Pos} {σ : L2.St} {H : Hp} {Q : VK}
    (q : WE X o σ H fun x H1 => ∃ (p : Addr) (ob : Obj) (ys : List Str), x = .ref p ∧ ob.dict = none ∧ H1 p = some (.frz ob (.tup (ys.map V.str))) ∧ WE X e σ H1 fun y H2 => H2 p = some (.frz ob (.tup (ys.map V.str))) ∧ ∃ z j, y = .str z ∧ ys[j]? = some z ∧ (∀ m, m < j → ys[m]? ≠ some z) ∧ Q (.int (j : Nat)) H2)
    (hbase : attributeBase o "index" X.env (eval o X.env) = eval o X.env := by rfl)
    (hfew : ((backTo cpos (starEach [e] X.env)).all (fun x => !x.1) && (backToKw cpos (keywordEach [] X.env)).all (fun x => x.1.isSome) && decide ([e].length + ([] : List Keyword).length + (if ([] : List Keyword).isEmpty then 0 else 1) < 30)) = true := by rfl)
    (hline : (apos.endLine == cpos.line) = true := by rfl) (hs : starEach [e] X.env = (false, eval e X.env) :: starEach [] X.env := by rfl) (hplain : (backTo cpos (starEach [] X.env)).any (·.1) = false := by rfl) :
    WE X (.Call (.Attribute o "index" apos) [e] [] cpos) σ H Q := ⟨fun pins s I => by
  refine wpAny_Call_method_late hbase hfew hline rfl (thn (q.run pins s I) fun v s1 ⟨x, H1, I1, r1, p, ob, ys, ex, hdn, hp, q1⟩ => ?_)
  subst ex
  cases r1
  obtain ⟨hget, hzz, its0, r0, hT⟩ := I1.hok p _ hp
  obtain ⟨o2, ho2, hc2, _⟩ := id hT
  have e2 : o2 = ob := Option.some.inj (ho2.symm.trans hget)
  subst e2
  refine ⟨"tuple", _, PySem.F.plainAttrs_tuple, PySem.F.slot_tuple_index, PySem.F.type_tuple_index, ⟨o2, ho2, hc2⟩, fun a ea => by cases ea; exact ⟨o2, ho2, hdn⟩, ?_⟩
  have hA := (pa_cons (pe_we (X := X) (e := e)) pa_nil hs).run cpos pins s1 σ H1 (fun vs H2 => ∃ y, vs = [y] ∧ H2 p = some (.frz o2 (.tup (ys.map V.str))) ∧ ∃ z j, y = .str z ∧ ys[j]? = some z ∧ (∀ m, m < j → ys[m]? ≠ some z) ∧ Q (.int (j : Nat)) H2) I1
    (q1.mono fun y H2 ⟨h1, h2⟩ => ⟨y, rfl, h1, h2⟩)
  rw [hs] at hA ⊢
  refine Calls.callWith_builtin (by show (false || (backTo cpos (starEach [] X.env)).any (·.1)) = false; rw [hplain]; rfl) (Calls.evalArgs_plain ?_)
  exact thn hA fun us s2 ⟨vs, H2, I2, r2, y, e1, hp2, z, j, e3, h3, h4, q2⟩ => mt_tup_index pins s2 σ H2 (.ref p) vs (.ref p) us Q I2 rfl r2 ⟨p, ys, z, j, rfl, by rw [e1, e3], .inl (.inr ⟨o2, hp2⟩), h3, h4, q2⟩⟩
end

/-! ### sorted of tuples of ints -/
section
variable {prog : Program} {w : World} {A : Around} {E : Value → Shared → Prop} {s : Shared}
theorem sort_tupsX {a : Addr} {vs : List Value} {n d : Nat} {B : Int} {R : PySem.Fin → Shared → Prop} (ho : s.heap.get? a = some (seqObj "list" vs.toArray n)) (h64 : vs.length < 64) (hd : 2 ≤ vs.length → 1 ≤ d) (x : TS.TupsOk s.heap d B vs)
    (h : ∀ out : Array Value, out.toList.Perm vs → out.toList.Pairwise (fun u v => TS.code B (TS.intsOf s.heap u) ≤ TS.code B (TS.intsOf s.heap v)) → R (.done (.ret .none)) { s with heap := sortedHeap s.heap a vs out }) :
    wpAny (model prog w) A (Builtin.«list.sort» ⟨[.ref a], []⟩) R E s := by
  have kt : ∀ b o, s.heap.get? b = some o → o.cls = .type "tuple" → (TS.midHeap s.heap a vs).get? b = some o := fun b o e hc => TS.midHeap_old (fun z => by
    rw [z, ho] at e
    rw [← Option.some.inj e] at hc
    exact absurd (show Value.type "list" = Value.type "tuple" from hc) (by decide)) e
  refine SK.plain_sort (r := fun v => TS.code B (TS.intsOf s.heap v)) ho h64 (fun h2 Q hQ => ?_) fun ps out h1 h2 h3 => ?_
  · refine TS.kind_tups (s := { s with heap := TS.midHeap s.heap a vs }) (hd h2) h2 (x.keeps kt) _ (fun v hv ns t => ?_) Q hQ
    obtain ⟨ms, t0, _⟩ := x v hv
    show TS.code B (TS.intsOf s.heap v) = TS.code B ns
    rw [t0.ints, ← (t0.keeps kt).ints, t.ints]
  · obtain ⟨p, o⟩ := TS.out_rank (r := fun v => TS.code B (TS.intsOf s.heap v)) h1 h2 h3
    exact h out p o
/-- sorted of what is collected to these -/
theorem sorted_after {x : Value} {d : Nat} {B : Int} {L : List (Addr × List Int)} {Q : Value → Shared → Prop} (h64 : L.length < 64) (hd : 2 ≤ L.length → 1 ≤ d) (hL : ∀ p ∈ L, p.2.length = d ∧ TS.Bd B p.2) (hT : ∀ p ∈ L, TS.TupInts s.heap (.ref p.1) p.2)
    (hcol : ∀ (E : Value → Shared → Prop) (R : List Value → Shared → Prop), (∀ (s1 : Shared) (vs : List Value), (∀ b o, s.heap.get? b = some o → s1.heap.get? b = some o) → s1.gens = s.gens → s1.os = s.os → vs.Perm (L.map fun p => Value.ref p.1) → R vs s1) → wpAny (model prog w) A.in1 (collect x) R E s)
    (hQ : ∀ (s1 : Shared) (h2 : Heap) (p : Addr) (out : List Value) (c : Nat), (∀ b o, s.heap.get? b = some o → s1.heap.get? b = some o) → s1.gens = s.gens → s1.os = s.os → (∀ b o, s1.heap.get? b = some o → h2.get? b = some o) → s1.heap.objs.size ≤ p → h2.get? p = some (seqObj "list" out.toArray c) → out.Perm (L.map fun p => Value.ref p.1) →
      out.Pairwise (fun u v => TS.code B (TS.intsOf s.heap u) ≤ TS.code B (TS.intsOf s.heap v)) → Q (.ref p) { s1 with heap := h2 }) :
    wpAny (model prog w) A (call (.builtin "sorted") [x]) Q E s := by
  refine Calls.call_function_entry kind_sorted plain_sorted entry_sorted (args_sorted1 _) ?_
  unfold Builtin.«sorted»
  refine wpAny_bind (m := checkCount "sorted" 1 1 _) (wpAny_pure ?_)
  refine wpAny_bind (hcol _ _ fun s1 vs k1 g1 o1 pm => ?_)
  have hvl : vs.length = L.length := by rw [pm.length_eq, List.length_map]
  refine wpAny_bind (wpAny_newList ?_ (by rw [sizeLine_eq]; omega))
  have hoL : (s1.heap.push (seqObj "list" vs.toArray 0)).get? s1.heap.objs.size = some (seqObj "list" vs.toArray 0) := Heap.get?_push_size _ rfl
  have kk : ∀ b o, s.heap.get? b = some o → (s1.heap.push (seqObj "list" vs.toArray 0)).get? b = some o := fun b o e => Heap.get?_push_of_some _ (k1 b o e)
  have same : ∀ v ∈ vs, TS.intsOf (s1.heap.push (seqObj "list" vs.toArray 0)) v = TS.intsOf s.heap v := fun v hv => by
    obtain ⟨p, hp, e⟩ := List.mem_map.mp (pm.mem_iff.mp hv)
    rw [← e, (hT p hp).ints, ((hT p hp).keeps fun b o q _ => kk b o q).ints]
  have xx : TS.TupsOk (s1.heap.push (seqObj "list" vs.toArray 0)) d B vs := fun v hv => by
    obtain ⟨p, hp, e⟩ := List.mem_map.mp (pm.mem_iff.mp hv)
    rw [← e]
    exact ⟨p.2, (hT p hp).keeps fun b o q _ => kk b o q, hL p hp⟩
  refine wpAny_bind (wpAny_holding (wpAny_call_entry slot_list_sort ⟨_, hoL, rfl⟩ entry_list_sort (sort_tupsX (s := { s1 with heap := s1.heap.push (seqObj "list" vs.toArray 0) }) hoL (by omega) (fun h => hd (by omega)) xx fun out a1 a2 => ⟨_, rfl, ?_⟩) (args_list_sort _)))
  obtain ⟨c, hc⟩ := PyProof.Rows.sortedHeap_at (vs := vs) (out := out) hoL
  refine wpAny_pure ⟨_, rfl, hQ s1 _ s1.heap.objs.size out.toList c k1 g1 o1 (fun b o e => ?_) (Nat.le_refl _) (by rw [Array.toArray_toList]; exact hc) (a1.trans pm) ?_⟩
  · have hb : b < s1.heap.objs.size := Heap.lt_size e
    rw [PyProof.Rows.sortedHeap_old (Nat.ne_of_lt hb) (by rw [size_push']; exact Nat.lt_succ_of_lt hb)]
    exact Heap.get?_push_of_some _ e
  · refine List.Pairwise.imp_of_mem (fun {u v} hu hv z => ?_) a2
    rw [same u (a1.mem_iff.mp hu), same v (a1.mem_iff.mp hv)] at z
    exact z
end

/-! ### what is collected -/
section
variable {prog : Program} {w : World} {A : Around} {E : Value → Shared → Prop} {s : Shared}
theorem sizes_upd {h : Heap} {a : Addr} {f : Obj → Obj} : (h.update a f).objs.size = h.objs.size := Heap.size_update ..
/-- a list, a tuple -/
theorem collect_seq {l : Addr} {o : Obj} {vs : List Value} {n : Nat} {Q : List Value → Shared → Prop} (ho : s.heap.get? l = some o) (hc : o.cls = .type "list" ∨ o.cls = .type "tuple") (hd : o.data = .seq vs.toArray n) (hsz : vs.length ≤ sizeLine)
    (h : ∀ h', (∀ b o, s.heap.get? b = some o → h'.get? b = some o) → Q vs { s with heap := h' }) : wpAny (model prog w) A (collect (.ref l)) Q E s := by
  unfold collect
  refine wpAny_bind (wpAny_runValue (codeAny_builtin PyProof.Rows.entry_proto_collect' ?_))
  show wpAny _ _ (do again (.builtin "list.__iadd__" ⟨[← newList [], .ref l], []⟩)) _ _ s
  refine wpAny_bind (wpAny_newList (wpAny_pure ⟨Code.quiet_builtin _ (by decide +kernel), codeAny_builtin PyProof.Rows.entry_list_iadd' ?_⟩))
  show wpAny _ _ (Builtin.List.listExtendWith (.ref s.heap.objs.size) (.ref l) (.ref s.heap.objs.size)) _ _ { s with heap := s.heap.push (seqObj "list" #[] 0) }
  unfold Builtin.List.listExtendWith
  have g1 : (s.heap.push (seqObj "list" #[] 0)).get? l = some o := Heap.get?_push_of_some _ ho
  have g2 : (s.heap.push (seqObj "list" #[] 0)).get? s.heap.objs.size = some (seqObj "list" #[] 0) := Heap.get?_push_size _ rfl
  have fin : wpAny (model prog w) A (do
      let o ← load s.heap.objs.size
      match o.data with
      | .seq xs _ => pure xs.toList
      | _ => unsupported "internal:collect") Q E { s with heap := (s.heap.push (seqObj "list" #[] 0)).update s.heap.objs.size (Obj.mapSeq (· ++ vs.toArray)) } := by
    refine wpAny_bind (wpAny_load (get?_update_seq g2 _) ?_)
    show wpAny _ _ (pure ((#[] : Array Value) ++ vs.toArray).toList) Q E _
    rw [show ((#[] : Array Value) ++ vs.toArray).toList = vs by simp]
    refine wpAny_pure (h _ fun b ob e => ?_)
    rw [Heap.get?_update_ne _ _ _ _ (Nat.ne_of_lt (Heap.lt_size e))]
    exact Heap.get?_push_of_some _ e
  obtain ⟨T, hT, ho2⟩ : ∃ T, (T = "list" ∨ T = "tuple") ∧ o.cls = .type T := hc.elim (fun e => ⟨_, .inl rfl, e⟩) fun e => ⟨_, .inr rfl, e⟩
  refine wpAny_bind (wpAny_typeOf (T := T) ⟨o, g1, ho2⟩ ?_)
  have ht : (Builtin.List.listSameRef (.ref s.heap.objs.size) (.ref l) || Value.type T == Value.type "list" || Value.type T == Value.type "tuple") = true := by
    rcases hT with e | e
    · rw [e]; simp
    · rw [e]; simp
  rw [if_pos ht]
  refine wpAny_bind (listItems_at g1 hd ?_)
  refine wpAny_bind (listItems_at (xs := #[]) (n := 0) g2 rfl ?_)
  rw [if_neg (by simp)]
  refine wpAny_bind (listUpdate_at (xs := #[]) (n := 0) g2 rfl ?_ (Nat.zero_le _) (by show (#[] ++ vs.toArray).size ≤ sizeLine + 1; simp only [Array.size_append, List.size_toArray, List.length_nil]; omega))
  exact wpAny_pure fin
/-- a dict's keys -/
theorem raw_src {d ep : Nat} {es : Array DictEntry} (lo : (d == sysModules) = false) : PySem.W.KdlSrc prog w "dict" d d es.size (fun i v => ∃ en, es[i]? = some en ∧ en.key = v) (fun h => DT.Raw h d es ep) where
  type := fun _ hm => hm.typeIs
  there := fun _ hm => ⟨hm.lt, hm.lt⟩
  keep := fun _ _ hm hk => hm.at' fun o e => hk d (.inl rfl) o e
  notList := by decide
  notTuple := by decide
  hint := fun _ _ _ _ hm hq => PySem.W.kdl_hint_dict hm.typeIs hq
  iter := fun A s hh hm => by
    obtain ⟨o, ho, hc, hdat⟩ := id hm
    have hne : d ≠ s.heap.objs.size := Nat.ne_of_lt hm.lt
    refine ⟨_, fun i h => h.IsKeyIter s.heap.objs.size d i es.size ep ∧ DT.Raw h d es ep, fun _ _ hq => iter_keys lo ho hc hdat hq, ⟨fun b hb => by rw [List.mem_singleton.mp hb]; exact List.mem_cons_self, fun i h h' st hk => ⟨st.1.at fun o e => hk _ List.mem_cons_self o e, st.2.at' fun o e => hk d (List.mem_cons_of_mem _ List.mem_cons_self) o e⟩, fun i s1 Q E hi st hQ => ?_, fun s1 Q E st hQ => ?_, fun _ _ _ _ st hQ => wpAny_pyIter_keyiter st.1 hQ⟩,
      ⟨_, Heap.get?_push_size _ rfl, rfl, rfl⟩, hm.push _⟩
    · obtain ⟨ob, hob, _, hdb⟩ := id st.2
      have hx : es[i]? = some es[i] := by simp [hi]
      refine next_key_item st.1 hob hdb rfl hx fun h' it' sb => hQ _ h' s1.toks ⟨_, hx, rfl⟩ ⟨it', st.2.at' fun o e => (sb.2 d hne).trans e⟩ fun b o hb e => (sb.2 b fun z => hb (by rw [z]; exact List.mem_singleton.mpr rfl)).trans e
    · obtain ⟨ob, hob, _, hdb⟩ := id st.2
      exact next_key_end hh st.1 hob hdb rfl (Nat.le_refl _) fun h' eb => hQ h' s1.toks fun b o hb e => eb b o (fun z => hb (by rw [z]; exact List.mem_singleton.mpr rfl)) e
end

/-! ### the rules -/
theorem pw_codes {B : Int} {f : Value → List Int} {out : List Value} (h : out.Pairwise fun u v => TS.code B (f u) ≤ TS.code B (f v)) : (out.map f).Pairwise fun a b => TS.code B a ≤ TS.code B b := by
  rw [List.pairwise_map]
  exact h
theorem vals_refsB : ∀ {out : List Value}, (∀ u ∈ out, ∃ a, u = Value.ref a) → Vals (out.map bkV) out := fun h => bkV_vals h
def eRow (r : List Int) : PyData := .tuple (r.map .int)
section
variable {X : Cx}
theorem run_sortX {pins : List (Addr × Obj)} {s : Shared} {σ : L2.St} {H : Hp} {Q : VK} {a : Addr} {L : List (Addr × List Int)} {d : Nat} {B : Int} (I : Inv X pins σ H s) (h64 : L.length < 64) (hd : 2 ≤ L.length → 1 ≤ d) (hL : ∀ p ∈ L, H p.1 = some (.tup (p.2.map V.int)) ∧ p.2.length = d ∧ TS.Bd B p.2)
    (hcol : ∀ (E : Value → Shared → Prop) (R : List Value → Shared → Prop), (∀ (s1 : Shared) (vs : List Value), (∀ b o, s.heap.get? b = some o → s1.heap.get? b = some o) → s1.gens = s.gens → s1.os = s.os → vs.Perm (L.map fun p => Value.ref p.1) → R vs s1) → wpAny (model X.prog X.w) X.A.in1 (collect (.ref a)) R E s)
    (q : ∀ (rs : List (List Int)) (zs : List V) (p : Addr), rs.Perm (L.map (·.2)) → rs.Pairwise (fun x y => TS.code B x ≤ TS.code B y) → H p = none → RepL (upd H p (.lst zs)) (rs.map eRow) zs → Q (.ref p) (upd H p (.lst zs))) :
    wpAny (model X.prog X.w) X.A (call (.builtin "sorted") [.ref a]) (EP X pins σ Q) X.xe s := by
  have hT : ∀ p ∈ L, TS.TupInts s.heap (.ref p.1) p.2 := fun p hp => tupI_raw I (SqT.of (hL p hp).1)
  refine sorted_after h64 hd (fun p hp => (hL p hp).2) hT hcol fun s1 h2 p out c k1 g1 o1 k2 hp hg pm pw => ?_
  have hr : ∀ u ∈ out, ∃ b, u = Value.ref b := fun u hu => by
    obtain ⟨z, _, e⟩ := List.mem_map.mp (pm.mem_iff.mp hu)
    exact ⟨z.1, e.symm⟩
  have e : s1 = { s with heap := s1.heap, gens := s1.gens, drawn := s1.drawn, toks := s1.toks } := by
    cases s1
    cases s
    cases o1
    rfl
  have I1 : Inv X pins σ H s1 := by
    rw [e]
    exact I.call (ch := []) (Un.kept k1) (I.hok.kept k1) (by rw [g1]; exact I.bare) fun _ z => nomatch z
  have hn : H p = none := I1.hok.fresh hp
  have hlen : (out.map bkV).length ≤ sizeLine := by
    rw [List.length_map, pm.length_eq, List.length_map, sizeLine_eq]
    omega
  have J : Inv X pins σ (upd H p (.lst (out.map bkV))) { s1 with heap := h2 } := I1.laid (t' := s1.toks) k2 hp ⟨hlen, out, c, bkV_vals hr, hg⟩
  have pm2 : (out.map (TS.intsOf s.heap)).Perm (L.map (·.2)) := by
    have z := pm.map (TS.intsOf s.heap)
    rw [List.map_map] at z
    have e2 : L.map (TS.intsOf s.heap ∘ fun p => Value.ref p.1) = L.map (·.2) := List.map_congr_left fun p hp => (hT p hp).ints
    rw [e2] at z
    exact z
  have rl : ∀ out2 : List Value, (∀ u ∈ out2, u ∈ out) → RepL (upd H p (.lst (out.map bkV))) ((out2.map (TS.intsOf s.heap)).map eRow) (out2.map bkV) := fun out2 => by
    induction out2 with
    | nil => exact fun _ => rfl
    | cons u t ih =>
      intro hs
      obtain ⟨z, hz, e⟩ := List.mem_map.mp (pm.mem_iff.mp (hs u List.mem_cons_self))
      refine ⟨_, _, rfl, ?_, ih fun v hv => hs v (List.mem_cons_of_mem _ hv)⟩
      subst e
      rw [(hT z hz).ints]
      exact Rep.ofTupI (by rw [upd_ne (ne_of_none (hL z hz).1 hn)]; exact (hL z hz).1)
  exact ⟨.ref p, _, J, rfl, q _ _ p pm2 (pw_codes pw) hn (rl out fun _ h => h)⟩
/-- the tuples of a list or tuple -/
def rSortQ (K : PySem.W.Frag) : List V → Hp → VK → Prop := fun xs H Q => ∃ (a : Addr) (ys : List V) (rs : List (List Int)) (d : Nat) (B : Int), xs = [.ref a] ∧ (SqL K H a ys ∨ SqT K H a ys) ∧ RepL H (rs.map eRow) ys ∧ rs.length < 64 ∧ (2 ≤ rs.length → 1 ≤ d) ∧ (∀ r ∈ rs, r.length = d ∧ TS.Bd B r) ∧
  ∀ (ss : List (List Int)) (zs : List V) (p : Addr), ss.Perm rs → ss.Pairwise (fun x y => TS.code B x ≤ TS.code B y) → H p = none → RepL (upd H p (.lst zs)) (ss.map eRow) zs → Q (.ref p) (upd H p (.lst zs))
theorem places {H : Hp} : ∀ {rs : List (List Int)} {ys : List V}, RepL H (rs.map eRow) ys → ∃ L : List (Addr × List Int), L.map (·.2) = rs ∧ ys = L.map (fun p => V.ref p.1) ∧ ∀ p ∈ L, H p.1 = some (.tup (p.2.map V.int))
  | [], _, h => ⟨[], rfl, h, fun _ hp => by cases hp⟩
  | r :: rs, _, ⟨x, t, h1, h2, h3⟩ => by
    obtain ⟨L, e1, e2, e3⟩ := places h3
    obtain ⟨a, ea, ha⟩ := h2.tupI
    refine ⟨(a, r) :: L, by rw [List.map_cons, e1], by rw [h1, ea, e2]; rfl, fun p hp => ?_⟩
    rcases List.mem_cons.mp hp with e | hp
    · rw [e]; exact ha
    · exact e3 p hp
theorem cr_sortQ : CallR X (.builtin "sorted") (rSortQ X.K) := fun pins s σ H xs us Q I r ⟨a, ys, rs, d, B, e1, hS, hR, h64, hd, hB, q⟩ => by
  subst e1
  rw [Vals.ref1 r]
  obtain ⟨L, l1, l2, l3⟩ := places hR
  have hl : L.length = rs.length := by rw [← l1, List.length_map]
  refine run_sortX (L := L) (d := d) (B := B) I (by omega) (fun h => hd (by omega)) (fun p hp => ⟨l3 p hp, hB p.2 (by rw [← l1]; exact List.mem_map.mpr ⟨p, hp, rfl⟩)⟩) (fun E R h => ?_) fun ss zs p h1 h2 h3 h4 => q ss zs p (by rw [← l1]; exact h1) h2 h3 h4
  rw [l2] at hS
  rcases hS with hS | hS
  · obtain ⟨its, rv, ⟨o, n, ho, hc, _, hd⟩, hz⟩ := I.list hS
    exact collect_seq ho (.inl hc) hd (by rw [← rv.length]; exact hz) fun h' k1 => h _ _ k1 rfl rfl (by rw [refs_of_vals rv])
  · obtain ⟨its, rv, ⟨o, ho, hc, n, hd⟩, hz⟩ := I.tuple hS
    exact collect_seq ho (.inr hc) hd (by rw [← rv.length]; exact hz) fun h' k1 => h _ _ k1 rfl rfl (by rw [refs_of_vals rv])
/-- the keys of a dict with tuple keys -/
def rSortD : List V → Hp → VK → Prop := fun xs H Q => ∃ (a : Addr) (kvs : List (List Key × V)) (rs : List (List Int)) (d : Nat) (B : Int), xs = [.ref a] ∧ Rd H a (.dT kvs) ∧ kvs.map (·.1) = rs.map (fun r => r.map Sum.inl) ∧ rs.length < 64 ∧ (2 ≤ rs.length → 1 ≤ d) ∧ (∀ r ∈ rs, r.length = d ∧ TS.Bd B r) ∧
  ∀ (ss : List (List Int)) (zs : List V) (p : Addr), ss.Perm rs → ss.Pairwise (fun x y => TS.code B x ≤ TS.code B y) → H p = none → RepL (upd H p (.lst zs)) (ss.map eRow) zs → Q (.ref p) (upd H p (.lst zs))
theorem inl_kV (r : List Int) : (r.map (Sum.inl (β := Str))).map kV = r.map V.int := by
  rw [List.map_map]
  rfl
theorem placesD {H : Hp} : ∀ {kvs : List (List Key × V)} {xs : List (List Key × Addr × Value)} {rs : List (List Int)}, KT H kvs xs → kvs.map (·.1) = rs.map (fun r => r.map Sum.inl) →
    ∃ L : List (Addr × List Int), L.map (·.2) = rs ∧ xs.map (fun q => q.2.1) = L.map (·.1) ∧ ∀ p ∈ L, H p.1 = some (.tup (p.2.map V.int))
  | _, _, [], .nil, _ => ⟨[], rfl, rfl, fun _ hp => by cases hp⟩
  | _, _, _ :: _, .nil, h => by cases h
  | _, _, [], .cons _ _, h => by cases h
  | _, _, r :: rs, .cons (a := kv) (b := q) ⟨h1, h2, _⟩ t, h => by
    rw [List.map_cons, List.map_cons] at h
    injection h with e1 e2
    obtain ⟨L, l1, l2, l3⟩ := placesD t e2
    refine ⟨(q.2.1, r) :: L, by rw [List.map_cons, l1], by rw [List.map_cons, List.map_cons, l2], fun p hp => ?_⟩
    rcases List.mem_cons.mp hp with e | hp
    · rw [e, ← inl_kV, ← e1]
      exact h2
    · exact l3 p hp
theorem cr_sortD (hcalm : X.calm = true) : CallR X (.builtin "sorted") rSortD := fun pins s σ H xs us Q I r ⟨a, kvs, rs, d, B, e1, hS, hk, h64, hd, hB, q⟩ => by
  subst e1
  rw [Vals.ref1 r]
  obtain ⟨z, lo, xs, rel, o, es, ep, ho, hc, hdat, hes, _, hn⟩ := dt_rd I.hok hS
  obtain ⟨L, l1, l2, l3⟩ := placesD rel hk
  have hl : L.length = rs.length := by rw [← l1, List.length_map]
  have hxl : xs.length = L.length := by
    have e := congrArg List.length l2
    rw [List.length_map, List.length_map] at e
    exact e
  have hsz : es.size = L.length := by
    have e := congrArg List.length hes
    rw [List.length_map] at e
    simp only [Array.length_toList] at e
    omega
  refine run_sortX (L := L) (d := d) (B := B) I (by omega) (fun h => hd (by omega)) (fun p hp => ⟨l3 p hp, hB p.2 (by rw [← l1]; exact List.mem_map.mpr ⟨p, hp, rfl⟩)⟩) (fun E R h => ?_) fun ss zs p h1 h2 h3 h4 => q ss zs p (by rw [← l1]; exact h1) h2 h3 h4
  refine PySem.W.kdu_collect (raw_src (es := es) (ep := ep) lo) (by exact I.ok.hd hcalm) ⟨o, ho, hc, hdat⟩ (by rw [hsz, sizeLine_eq]; omega) fun h' tk acc k1 hacc => h _ _ k1 rfl rfl ?_
  have e3 : acc.toList = es.toList.map (·.key) := by
    refine List.ext_getElem? fun j => ?_
    rw [List.getElem?_map]
    cases q1 : es.toList[j]? with
    | none =>
      have hj : es.size ≤ j := by simpa using q1
      rw [List.getElem?_eq_none (by rw [Array.length_toList, hacc.1]; exact hj)]
      rfl
    | some en =>
      have hj : j < es.size := by
        have := (List.getElem?_eq_some_iff.mp q1).1
        simpa using this
      have ha : j < acc.size := by rw [hacc.1]; exact hj
      obtain ⟨en2, h1, h2⟩ := hacc.2 j acc[j] (by simp [ha])
      have h3 : en2 = en := by
        rw [Array.getElem?_toList] at q1
        exact Option.some.inj (h1.symm.trans q1)
      rw [← h3, List.getElem?_eq_getElem (by rw [Array.length_toList]; exact ha), Array.getElem_toList]
      exact congrArg some h2.symm
  rw [e3, hes, List.map_map]
  have e4 : L.map (fun p => Value.ref p.1) = (xs.map fun q => q.2.1).map Value.ref := by
    rw [l2, List.map_map]
    rfl
  rw [e4, List.map_map]
  exact List.Perm.refl _
/-- a set of tuples -/
def rSortS (P : Program) (w : World) : List V → Hp → VK → Prop := fun xs H Q => ∃ (a : Addr) (L : List (Addr × List Int)) (d : Nat) (B : Int), xs = [.ref a] ∧ H a = some (SetTO P w a L) ∧ ((L.map (·.2)).Nodup → 2 ≤ L.length → 1 ≤ d) ∧ (∀ p ∈ L, H p.1 = some (.tup (p.2.map V.int)) ∧ p.2.length = d ∧ TS.Bd B p.2) ∧
  ((L.map (·.2)).Nodup → ∀ (ss : List (List Int)) (zs : List V) (p : Addr), ss.Perm (L.map (·.2)) → ss.Pairwise (fun x y => TS.code B x ≤ TS.code B y) → H p = none → RepL (upd H p (.lst zs)) (ss.map eRow) zs → Q (.ref p) (upd H p (.lst zs)))
theorem cr_sortS (hc : X.calm = true) : CallR X (.builtin "sorted") (rSortS X.prog X.w) := fun pins s σ H xs us Q I r ⟨a, L, d, B, e1, hS, hd, hL, q⟩ => by
  subst e1
  rw [Vals.ref1 r]
  have R0 : SetT0 X.prog X.w s.heap a L := (I.hok a _ hS).1
  obtain ⟨es, ep, t, R⟩ := R0.full fun p hp => I.isT (SqT.of (hL p hp).1)
  obtain ⟨o, ho, hex, hdat⟩ := R.ob
  have hsz := R.size
  have hfew := R.few
  refine run_sortX (L := L) (d := d) (B := B) I hfew (hd R.nd) hL (fun E R' h => ?_) fun ss zs p h1 h2 h3 h4 => q R.nd ss zs p h1 h2 h3 h4
  refine collect_set (by exact I.ok.hd hc) ⟨o, ho, hex.1, hdat⟩ R.fits (by unfold scanBound; omega) R.tab.ris R.led fun s1 vs k1 _ g1 o1 pm => h s1 vs k1 g1 o1 ?_
  have e5 : es.toList.map (·.2) = L.map fun p => Value.ref p.1 := by
    rw [R.rows]
    unfold rowsOf
    rw [List.map_map]
    rfl
  rw [e5] at pm
  exact pm
end
end J
/-! The data of the program, as plain data; the order of rows; sorting. -/
namespace J
open PySem PySem.Spec PyProof.Rows L2

abbrev Row := List Int
structure Tab where
  name : Str
  cols : Nat
  rows : List Row
abbrev Cat := List Tab
structure Atm where
  tab : Str
  vars : List Str
structure Pat where
  head : List Str
  atoms : List Atm
def eRows (rs : List Row) : PyData := .tuple (rs.map eRow)
def eTab (t : Tab) : PyData := .tuple [.str t.name, .int (t.cols : Int), eRows t.rows]
def eCat (c : Cat) : PyData := .tuple (c.map eTab)
def eStrs (vs : List Str) : PyData := .tuple (vs.map .str)
def eAtm (a : Atm) : PyData := .tuple [.str a.tab, eStrs a.vars]
def eAtms (as : List Atm) : PyData := .tuple (as.map eAtm)
def ePat (p : Pat) : PyData := .tuple [eStrs p.head, eAtms p.atoms]

/-! ### the order of rows -/
theorem lt_irr : ∀ x : Row, HT.lexLt x x = false
  | [] => rfl
  | a :: x => by rw [HT.lexLt_cons, if_pos rfl]; exact lt_irr x
theorem lt_tr : ∀ {x y z : Row}, HT.lexLt x y = true → HT.lexLt y z = true → HT.lexLt x z = true
  | [], [], _, h, _ => by cases h
  | [], _ :: _, [], _, h => by cases h
  | [], _ :: _, _ :: _, _, _ => rfl
  | _ :: _, [], _, h, _ => by cases h
  | _ :: _, _ :: _, [], _, h => by cases h
  | a :: x, b :: y, c :: z, h1, h2 => by
    rw [HT.lexLt_cons] at h1 h2 ⊢
    by_cases e1 : a = b
    · subst e1
      rw [if_pos rfl] at h1
      by_cases e2 : a = c
      · subst e2
        rw [if_pos rfl] at h2 ⊢
        exact lt_tr h1 h2
      · rw [if_neg e2] at h2 ⊢
        exact h2
    · rw [if_neg e1] at h1
      have h1 := of_decide_eq_true h1
      by_cases e2 : b = c
      · subst e2
        rw [if_neg e1]
        exact decide_eq_true h1
      · rw [if_neg e2] at h2
        have h2 := of_decide_eq_true h2
        rw [if_neg (by omega)]
        exact decide_eq_true (by omega)
theorem lt_as {x y : Row} (h1 : HT.lexLt x y = true) (h2 : HT.lexLt y x = true) : False := by
  have h := lt_tr h1 h2
  rw [lt_irr] at h
  cases h
theorem lt_tot : ∀ {x y : Row}, HT.lexLt x y = false → HT.lexLt y x = false → x = y
  | [], [], _, _ => rfl
  | [], _ :: _, h, _ => by cases h
  | _ :: _, [], _, h => by cases h
  | a :: x, b :: y, h1, h2 => by
    rw [HT.lexLt_cons] at h1 h2
    by_cases e : a = b
    · subst e
      rw [if_pos rfl] at h1 h2
      rw [lt_tot h1 h2]
    · rw [if_neg e] at h1
      rw [if_neg (fun q => e q.symm)] at h2
      have h1 := of_decide_eq_false h1
      have h2 := of_decide_eq_false h2
      omega
/-- not greater -/
def rle (x y : Row) : Bool := !HT.lexLt y x
theorem rle_refl (x : Row) : rle x x = true := by unfold rle; rw [lt_irr]; rfl
theorem rle_tr {x y z : Row} (h1 : rle x y = true) (h2 : rle y z = true) : rle x z = true := by
  unfold rle at *
  cases e : HT.lexLt z x with
  | false => rfl
  | true =>
    exfalso
    have a1 : HT.lexLt y x = false := by simpa using h1
    have a2 : HT.lexLt z y = false := by simpa using h2
    cases q : HT.lexLt x y with
    | true =>
      have := lt_tr e q
      rw [a2] at this
      cases this
    | false =>
      have e2 := lt_tot q a1
      subst e2
      rw [a2] at e
      cases e
theorem rle_anti {x y : Row} (h1 : rle x y = true) (h2 : rle y x = true) : x = y := lt_tot (by simpa [rle] using h2) (by simpa [rle] using h1)
theorem rle_tot (x y : Row) : rle x y = true ∨ rle y x = true := by
  unfold rle
  cases e : HT.lexLt y x with
  | false => exact .inl rfl
  | true =>
    refine .inr ?_
    cases q : HT.lexLt x y with
    | false => rfl
    | true => exact (lt_as e q).elim
theorem rle_of_lt {x y : Row} (h : HT.lexLt x y = true) : rle x y = true := by
  unfold rle
  cases q : HT.lexLt y x with
  | false => rfl
  | true => exact (lt_as h q).elim
theorem lt_of_rle {x y : Row} (h : rle x y = true) (hne : x ≠ y) : HT.lexLt x y = true := by
  cases q : HT.lexLt x y with
  | true => rfl
  | false => exact absurd (lt_tot q (by simpa [rle] using h)) hne
/-- sorting by insertion -/
def ins (x : Row) : List Row → List Row
  | [] => [x]
  | y :: ys => if rle x y then x :: y :: ys else y :: ins x ys
def srt : List Row → List Row
  | [] => []
  | x :: xs => ins x (srt xs)
theorem ins_perm (x : Row) : ∀ ys : List Row, (ins x ys).Perm (x :: ys)
  | [] => List.Perm.refl _
  | y :: ys => by
    unfold ins
    split
    · exact List.Perm.refl _
    · exact ((ins_perm x ys).cons y).trans (List.Perm.swap x y ys)
theorem srt_perm : ∀ xs : List Row, (srt xs).Perm xs
  | [] => List.Perm.refl _
  | x :: xs => (ins_perm x (srt xs)).trans ((srt_perm xs).cons x)
abbrev Asc (xs : List Row) : Prop := xs.Pairwise fun x y => rle x y = true
abbrev SAsc (xs : List Row) : Prop := xs.Pairwise fun x y => HT.lexLt x y = true
theorem ins_asc (x : Row) : ∀ {ys : List Row}, Asc ys → Asc (ins x ys)
  | [], _ => List.pairwise_singleton _ _
  | y :: ys, h => by
    unfold ins
    have h2 := List.pairwise_cons.mp h
    split
    · rename_i hx
      refine List.pairwise_cons.mpr ⟨fun z hz => ?_, h⟩
      rcases List.mem_cons.mp hz with e | hz
      · rw [e]; exact hx
      · exact rle_tr hx (h2.1 z hz)
    · rename_i hx
      have hy : rle y x = true := (rle_tot x y).resolve_left hx
      refine List.pairwise_cons.mpr ⟨fun z hz => ?_, ins_asc x h2.2⟩
      rcases List.mem_cons.mp ((ins_perm x ys).mem_iff.mp hz) with e | hz
      · rw [e]; exact hy
      · exact h2.1 z hz
theorem srt_asc : ∀ xs : List Row, Asc (srt xs)
  | [] => List.Pairwise.nil
  | x :: xs => ins_asc x (srt_asc xs)
/-- two ascending lists of the same things are one -/
theorem asc_uniq : ∀ {xs ys : List Row}, xs.Perm ys → Asc xs → Asc ys → xs = ys
  | [], ys, p, _, _ => (List.Perm.nil_eq p)
  | x :: xs, [], p, _, _ => absurd p.length_eq (by simp)
  | x :: xs, y :: ys, p, h1, h2 => by
    have a1 := List.pairwise_cons.mp h1
    have a2 := List.pairwise_cons.mp h2
    have e : x = y := by
      have m1 : x ∈ y :: ys := p.mem_iff.mp List.mem_cons_self
      have m2 : y ∈ x :: xs := p.mem_iff.mpr List.mem_cons_self
      rcases List.mem_cons.mp m1 with e | m1
      · exact e
      · rcases List.mem_cons.mp m2 with e | m2
        · exact e.symm
        · exact rle_anti (a1.1 y m2) (a2.1 x m1)
    subst e
    rw [asc_uniq (List.perm_cons x |>.mp p) a1.2 a2.2]
theorem SAsc.asc {xs : List Row} (h : SAsc xs) : Asc xs := h.imp fun h => rle_of_lt h
theorem SAsc.nodup {xs : List Row} (h : SAsc xs) : xs.Nodup := h.imp fun {x y} h e => by
  subst e
  rw [lt_irr] at h
  cases h
theorem SAsc.of {xs : List Row} (h : Asc xs) (n : xs.Nodup) : SAsc xs := by
  have : xs.Pairwise fun x y => rle x y = true ∧ x ≠ y := List.pairwise_and_iff.mpr ⟨h, n⟩
  exact this.imp fun ⟨a, b⟩ => lt_of_rle a b
theorem sasc_uniq {xs ys : List Row} (h1 : SAsc xs) (h2 : SAsc ys) (m : ∀ x, x ∈ xs ↔ x ∈ ys) : xs = ys := asc_uniq ((List.perm_ext_iff_of_nodup h1.nodup h2.nodup).mpr m) h1.asc h2.asc
theorem srt_uniq {xs ys : List Row} (p : ys.Perm xs) (h : Asc ys) : ys = srt xs := asc_uniq (p.trans (srt_perm xs).symm) h (srt_asc xs)
theorem srt_of {xs : List Row} (h : Asc xs) : srt xs = xs := (srt_uniq (List.Perm.refl _) h).symm
theorem srt_congr {xs ys : List Row} (p : xs.Perm ys) : srt xs = srt ys := srt_uniq ((srt_perm xs).trans p) (srt_asc xs)
theorem mem_srt {x : Row} {xs : List Row} : x ∈ srt xs ↔ x ∈ xs := (srt_perm xs).mem_iff
theorem srt_len (xs : List Row) : (srt xs).length = xs.length := (srt_perm xs).length_eq
theorem srt_sasc {xs : List Row} (n : xs.Nodup) : SAsc (srt xs) := SAsc.of (srt_asc xs) ((srt_perm xs).nodup_iff.mpr n)
/-- the kit's codes tell the order of rows of one length -/
theorem code_lex {B : Int} : ∀ {x y : Row}, x.length = y.length → TS.Bd B x → TS.Bd B y → HT.lexLt y x = true → TS.code B y < TS.code B x
  | [], [], _, _, _, h => by cases h
  | [], _ :: _, h, _, _, _ => by cases h
  | _ :: _, [], h, _, _, _ => by cases h
  | a :: x, b :: y, hl, hx, hy, h => by
    rw [HT.lexLt_cons] at h
    have hl2 : x.length = y.length := by simpa using hl
    by_cases e : b = a
    · subst e
      rw [if_pos rfl] at h
      exact (TS.code_same hl2.symm).mpr (code_lex hl2 hx.tail hy.tail h)
    · rw [if_neg e] at h
      exact TS.code_lt hl2.symm hy.tail hx.tail (of_decide_eq_true h)
theorem code_rle {B : Int} {d : Nat} {x y : Row} (hx : x.length = d ∧ TS.Bd B x) (hy : y.length = d ∧ TS.Bd B y) (h : TS.code B x ≤ TS.code B y) : rle x y = true := by
  unfold rle
  cases e : HT.lexLt y x with
  | false => rfl
  | true =>
    have := code_lex (hx.1.trans hy.1.symm) hx.2 hy.2 e
    omega
theorem codes_asc {B : Int} {d : Nat} {rs ss : List Row} (hB : ∀ r ∈ rs, r.length = d ∧ TS.Bd B r) (p : ss.Perm rs) (h : ss.Pairwise fun x y => TS.code B x ≤ TS.code B y) : ss = srt rs :=
  srt_uniq p (List.Pairwise.imp_of_mem (fun {x y} hx hy z => code_rle (hB x (p.mem_iff.mp hx)) (hB y (p.mem_iff.mp hy)) z) h)

/-! ### data that may be compared -/
def Shp (n : Nat) (d : PyData) : Prop := d.canLay0 = true ∧ d.depth ≤ n
theorem Shp.shaped {n : Nat} {d : PyData} (h : Shp n d) (hn : n ≤ 64 := by decide) : SeqAt.shaped d = true := by
  unfold SeqAt.shaped
  rw [h.1, decide_eq_true (Nat.le_trans h.2 hn)]
  rfl
theorem shp_int (n : Nat) (i : Int) : Shp n (.int i) := ⟨by rw [PyData.canLay0], by rw [PyData.depth]; exact Nat.zero_le _⟩
theorem shp_str (n : Nat) {x : Str} (h : PyData.strOk x = true) : Shp n (.str x) := ⟨by rw [PyData.canLay0]; exact h, by rw [PyData.depth]; exact Nat.zero_le _⟩
theorem shp_all {n : Nat} : ∀ {xs : List PyData}, (∀ x ∈ xs, Shp n x) → PyData.canLayAll0 xs = true ∧ PyData.depthAll xs ≤ n
  | [], _ => ⟨by rw [PyData.canLayAll0], by rw [PyData.depthAll]; exact Nat.zero_le _⟩
  | x :: xs, h => by
    have a1 := h x List.mem_cons_self
    have a2 := shp_all fun y hy => h y (List.mem_cons_of_mem _ hy)
    refine ⟨?_, ?_⟩
    · rw [PyData.canLayAll0, a1.1, a2.1]; rfl
    · rw [PyData.depthAll]; exact Nat.max_le.mpr ⟨a1.2, a2.2⟩
theorem shp_tup {n : Nat} {xs : List PyData} (h : ∀ x ∈ xs, Shp n x) : Shp (n + 1) (.tuple xs) := by
  have a := shp_all h
  refine ⟨?_, ?_⟩
  · rw [PyData.canLay0]; exact a.1
  · rw [PyData.depth]; exact Nat.succ_le_succ a.2
theorem shp_map {α : Type} {f : α → PyData} {n : Nat} {xs : List α} (h : ∀ x ∈ xs, Shp n (f x)) : Shp (n + 1) (.tuple (xs.map f)) := shp_tup fun y hy => by
  obtain ⟨x, hx, e⟩ := List.mem_map.mp hy
  rw [← e]
  exact h x hx
theorem shp_row (n : Nat) (r : Row) : Shp (n + 1) (eRow r) := shp_map fun x _ => shp_int n x
theorem shp_rows (n : Nat) (rs : List Row) : Shp (n + 2) (eRows rs) := shp_map fun x _ => shp_row n x
theorem Shp.up {n m : Nat} {d : PyData} (h : Shp n d) (hm : n ≤ m) : Shp m d := ⟨h.1, Nat.le_trans h.2 hm⟩
theorem eqv_refl' {n : Nat} {d : PyData} (h : Shp n d) : PyData.eqv d d = true := SeqAt.eqv_refl d h.1
theorem eqv_ints : ∀ {x y : Row}, PyData.eqvAll (x.map .int) (y.map .int) = decide (x = y)
  | [], [] => by rw [List.map_nil, PyData.eqvAll]; rfl
  | [], _ :: _ => by rw [List.map_nil, List.map_cons, PyData.eqvAll]; rfl
  | _ :: _, [] => by rw [List.map_nil, List.map_cons, PyData.eqvAll]; rfl
  | a :: x, b :: y => by
    rw [List.map_cons, List.map_cons, PyData.eqvAll, PyData.eqv, eqv_ints (x := x) (y := y)]
    by_cases e : a = b
    · subst e
      rw [beq_self_eq_true, Bool.true_and]
      exact decide_eq_decide.mpr ⟨fun q => by rw [q], fun q => by injection q⟩
    · rw [beq_eq_false_iff_ne.mpr e, Bool.false_and]
      exact (decide_eq_false fun q => e (by injection q)).symm
theorem eqv_row (x y : Row) : PyData.eqv (eRow x) (eRow y) = decide (x = y) := by
  unfold eRow
  rw [PyData.eqv, eqv_ints]
theorem any_row (r : Row) : ∀ rs : List Row, ((rs.map eRow).any fun z => PyData.eqv z (eRow r)) = decide (r ∈ rs)
  | [] => rfl
  | x :: rs => by
    rw [List.map_cons, List.any_cons, eqv_row, any_row r rs]
    by_cases e : x = r
    · subst e
      rw [decide_eq_true rfl, decide_eq_true List.mem_cons_self]
      rfl
    · rw [decide_eq_false e, Bool.false_or]
      exact decide_eq_decide.mpr ⟨fun h => List.mem_cons_of_mem _ h, fun h => (List.mem_cons.mp h).resolve_left fun q => e q.symm⟩
end J
/-! set(a list of ints); sorted of dicts and sets, as expressions over data. -/
namespace J
open PySem PySem.Spec PyProof.Rows L2
/-- a set just made -/
abbrev newSet (w : World) : Obj := { cls := .type "set", dict := none, data := .set #[] 0 (.fresh 0 0 (!w.params.followText "set-order")) }
section
variable {P : Program} {w : World} {A : Around} {E : Value → Shared → Prop} {s : Shared}
theorem set_of_list {l : Addr} {items : Array Value} (ns : List Int) {Q : Value → Shared → Prop} (hh : A.handled = none) (hl : s.heap.IsList l items) (hit : IntsAre items.toList ns) (hb : ns.length + 1 < scanBound)
    (h : ∀ (h' : Heap) (tk c : Nat), SetR w h' s.heap.objs.size (fun j => decide (j ∈ ns)) c → c ≤ ns.length → (∀ b o, s.heap.get? b = some o → h'.get? b = some o) → Q (.ref s.heap.objs.size) { s with heap := h', toks := tk }) : wpAny (model P w) A (call (.type "set") [.ref l]) Q E s := by
  have hsz : items.size = ns.length := by rw [← IntsAre.length hit, Array.length_toList]
  obtain ⟨c, tl, hmro⟩ := F.called_set.mro; have hmade := F.called_set.made; have hsub := F.called_set.sub
  refine wpAny_call (codeAny_of_tree ?_); show wpAny _ _ (callAny (.type "set") _) _ _ _
  refine wpAny_pure ⟨Code.quiet_builtin _ (by decide +kernel), codeAny_builtin F.entry_type_call ?_⟩; rw [Around.under_plain (weight_type_call_type "set" [.ref l] []) rfl]
  have h1 := F.called_set.notType; have h2 := F.called_set.canCreate; have hct := F.typeCall_set_1 (.ref l)
  repeat (any_goals (first | assumption | wp_step))
  refine codeAny_mono (code_set_led1 (.ref l) (E := E) (Q₁ := fun obj z => obj = .ref s.heap.objs.size ∧ z = { s with heap := s.heap.push (newSet w) }) ⟨rfl, rfl⟩) fun r z hr => ?_
  cases r with
  | error e => exact hr
  | ok fl =>
    cases fl with
    | ret obj =>
      obtain ⟨rfl, rfl⟩ := hr
      have hS : (s.heap.push (newSet w)).get? s.heap.objs.size = some (newSet w) := Heap.get?_push_size _ rfl
      have hT : Shared.TypeIs { s with heap := s.heap.push (newSet w) } (.ref s.heap.objs.size) "set" := ⟨_, hS, rfl⟩
      have hli := F.called_set.init.lookup; have hbi := F.called_set.init.bind (.ref s.heap.objs.size)
      repeat (any_goals (first | assumption | wp_step))
      refine codeAny_mono (codeAny_call_builtin (R := wants (fun r z => r = .none ∧ ∃ h' tk c, z = { s with heap := h', toks := tk } ∧ SetR w h' s.heap.objs.size (fun j => decide (j ∈ ns)) c ∧ c ≤ ns.length ∧ (∀ b o, s.heap.get? b = some o → h'.get? b = some o)) E)
        F.called_set.init.plain F.entry_set_init (check_set_init_1 hT ?_)) fun r2 z2 hr2 => ?_
      · obtain ⟨⟨ocls, odict, odata, oslots⟩, hol, hcl, nl, hdl⟩ := id hl
        simp only at hcl hdl; subst hcl; subst hdl
        have g1 : (s.heap.push (newSet w)).get? l = some { cls := .type "list", dict := odict, data := .seq items nl, slots := oslots } := Heap.get?_push_of_some _ hol
        have hsls := F.sub_list_set; have hslf := F.sub_list_frozenset
        have hne : (Value.type "list" == Value.type "dict") = false := by decide
        have hl1 : (s.heap.push (newSet w)).IsList l items := hl.push _
        unfold Builtin.«set.__init__» noKeywords Builtin.Frozenset.updateFrom
        generalize hPI : pyIter = PI
        wp_walk
        subst hPI
        refine wpAny_pyIter_list hl1 (wpAny_bind (wpAny_runValue ?_))
        have lS : l < s.heap.objs.size := Heap.lt_size hol
        have hh3 : A.in1.in1.in1.handled = none := by simp [hh]
        have z1 : (s.heap.push (newSet w)).objs.size = s.heap.objs.size + 1 := Heap.size_push ..
        have nI : l ≠ (s.heap.push (newSet w)).objs.size := by rw [z1]; exact Nat.ne_of_lt (Nat.lt_succ_of_lt lS)
        have nS : s.heap.objs.size ∉ [(s.heap.push (newSet w)).objs.size, l] := by
          rw [z1]; simp only [List.mem_cons, List.mem_singleton, List.not_mem_nil, or_false, not_or]; exact ⟨by omega, Nat.ne_of_gt lS⟩
        have hv : ∀ (i : Nat) (v : Value), items[i]? = some v → ∃ k t, ns[i]? = some k ∧ v = .int k t := fun i v hv => by
          have hi : i < ns.length := by rw [← hsz]; exact (Array.getElem?_eq_some_iff.mp hv).1
          obtain ⟨t, e⟩ := PyProof.Rows.IntsAre.int_at hit i v (by rw [Array.getElem?_toList]; exact hv)
          exact ⟨ns[i], t, List.getElem?_eq_getElem hi, by rw [e, List.getD_eq_getElem?_getD, List.getElem?_eq_getElem hi]; rfl⟩
        refine set_update_ints ((Walks.list hh3 _ l nI items).toS) s.heap.objs.size nS ns hsz hb hv (items.size - 0) 0 _ (by omega) (Nat.zero_le _) ⟨⟨_, Heap.get?_push_size _ rfl, rfl, rfl⟩, (hl1.push _)⟩ ?h0 ?hR
        case h0 => exact ⟨0, Nat.le_refl 0, setR_new_at (Heap.get?_push_of_some _ hS)⟩
        case hR =>
          intro z c' hm hc' hS'
          obtain ⟨h', g2, d', tk', os'⟩ := z
          cases (show g2 = s.gens from hm.gens); cases (show d' = s.drawn from hm.drawn); cases (show os' = s.os from hm.os)
          show wpAny _ _ _ _ _ _
          refine wpAny_pure ?_; show wpAny _ _ (ret Value.none) _ _ _
          refine wpAny_pure ⟨rfl, h', tk', c', rfl, hS', by omega, fun b o e => ?_⟩
          have hb0 : b < s.heap.objs.size := Heap.lt_size e
          exact hm.heap b o (by rw [z1]; simp only [List.mem_cons, List.mem_singleton, List.not_mem_nil, or_false, not_or]; exact ⟨Nat.ne_of_lt hb0, Nat.ne_of_lt (Nat.lt_succ_of_lt hb0)⟩) (Heap.get?_push_of_some _ (Heap.get?_push_of_some _ e))
      · cases r2 with
        | error e => exact hr2
        | ok fl2 =>
          cases fl2 with
          | ret r =>
            obtain ⟨rfl, h', tk, c, rfl, hS', hc', hk'⟩ := hr2
            repeat (any_goals (first | assumption | wp_step))
            exact h _ _ _ hS' hc' hk'
          | _ => exact hr2.elim
    | _ => exact hr.elim
end
end J
/-! sorted(..), in, index, as expressions over data. -/
namespace J
open PySem PySem.Spec PyProof.Rows L2

/-! ### texts in order -/
theorem lc_irr : ∀ x : List Nat, ltCps x x = false
  | [] => rfl
  | a :: x => by
    show (decide (a < a) || (a == a && ltCps x x)) = false
    rw [lc_irr x, decide_eq_false (Nat.lt_irrefl a)]
    simp
theorem lc_tr : ∀ {x y z : List Nat}, ltCps x y = true → ltCps y z = true → ltCps x z = true
  | [], [], _, h, _ => by cases h
  | [], _ :: _, [], _, h => by cases h
  | [], _ :: _, _ :: _, _, _ => rfl
  | _ :: _, [], _, h, _ => by cases h
  | _ :: _, _ :: _, [], _, h => by cases h
  | a :: x, b :: y, c :: z, h1, h2 => by
    have h1 : (decide (a < b) || (a == b && ltCps x y)) = true := h1
    have h2 : (decide (b < c) || (b == c && ltCps y z)) = true := h2
    show (decide (a < c) || (a == c && ltCps x z)) = true
    simp only [Bool.or_eq_true, Bool.and_eq_true, decide_eq_true_eq, beq_iff_eq] at h1 h2 ⊢
    rcases h1 with h1 | ⟨e1, h1⟩
    · rcases h2 with h2 | ⟨e2, h2⟩
      · exact .inl (by omega)
      · exact .inl (by omega)
    · rcases h2 with h2 | ⟨e2, h2⟩
      · exact .inl (by omega)
      · exact .inr ⟨by omega, lc_tr h1 h2⟩
theorem lc_tot : ∀ {x y : List Nat}, ltCps x y = false → ltCps y x = false → x = y
  | [], [], _, _ => rfl
  | [], _ :: _, h, _ => by cases h
  | _ :: _, [], _, h => by cases h
  | a :: x, b :: y, h1, h2 => by
    have h1 : (decide (a < b) || (a == b && ltCps x y)) = false := h1
    have h2 : (decide (b < a) || (b == a && ltCps y x)) = false := h2
    simp only [Bool.or_eq_false_iff, decide_eq_false_iff_not, Bool.and_eq_false_iff, beq_eq_false_iff_ne] at h1 h2
    have e : a = b := by omega
    subst e
    rw [lc_tot (h1.2.resolve_left (fun h => h rfl)) (h2.2.resolve_left (fun h => h rfl))]
def slt (x y : Str) : Bool := ltCps x.cps.toList y.cps.toList
def sle (x y : Str) : Bool := !slt y x
theorem str_ext {x y : Str} (h : x.cps.toList = y.cps.toList) : x = y := by
  have e := Array.toList_inj.mp h
  cases x
  cases y
  exact congrArg Str.mk e
theorem slt_irr (x : Str) : slt x x = false := lc_irr _
theorem slt_tr {x y z : Str} (h1 : slt x y = true) (h2 : slt y z = true) : slt x z = true := lc_tr h1 h2
theorem slt_tot {x y : Str} (h1 : slt x y = false) (h2 : slt y x = false) : x = y := str_ext (lc_tot h1 h2)
theorem sle_tot (x y : Str) : sle x y = true ∨ sle y x = true := by
  unfold sle
  cases e : slt y x with
  | false => exact .inl rfl
  | true =>
    refine .inr ?_
    cases q : slt x y with
    | false => rfl
    | true =>
      have := slt_tr e q
      rw [slt_irr] at this
      cases this
theorem sle_tr {x y z : Str} (h1 : sle x y = true) (h2 : sle y z = true) : sle x z = true := by
  unfold sle at *
  cases e : slt z x with
  | false => rfl
  | true =>
    exfalso
    have a1 : slt y x = false := by simpa using h1
    have a2 : slt z y = false := by simpa using h2
    cases q : slt x y with
    | true =>
      have := slt_tr e q
      rw [a2] at this
      cases this
    | false =>
      have e2 := slt_tot q a1
      subst e2
      rw [a2] at e
      cases e
theorem sle_anti {x y : Str} (h1 : sle x y = true) (h2 : sle y x = true) : x = y := slt_tot (by simpa [sle] using h2) (by simpa [sle] using h1)
def insS (x : Str) : List Str → List Str
  | [] => [x]
  | y :: ys => if sle x y then x :: y :: ys else y :: insS x ys
def srtS : List Str → List Str
  | [] => []
  | x :: xs => insS x (srtS xs)
theorem insS_perm (x : Str) : ∀ ys : List Str, (insS x ys).Perm (x :: ys)
  | [] => List.Perm.refl _
  | y :: ys => by
    unfold insS
    split
    · exact List.Perm.refl _
    · exact ((insS_perm x ys).cons y).trans (List.Perm.swap x y ys)
theorem srtS_perm : ∀ xs : List Str, (srtS xs).Perm xs
  | [] => List.Perm.refl _
  | x :: xs => (insS_perm x (srtS xs)).trans ((srtS_perm xs).cons x)
theorem insS_asc (x : Str) : ∀ {ys : List Str}, ys.Pairwise (fun a b => sle a b = true) → (insS x ys).Pairwise fun a b => sle a b = true
  | [], _ => List.pairwise_singleton _ _
  | y :: ys, h => by
    unfold insS
    have h2 := List.pairwise_cons.mp h
    split
    · rename_i hx
      refine List.pairwise_cons.mpr ⟨fun z hz => ?_, h⟩
      rcases List.mem_cons.mp hz with e | hz
      · rw [e]; exact hx
      · exact sle_tr hx (h2.1 z hz)
    · rename_i hx
      refine List.pairwise_cons.mpr ⟨fun z hz => ?_, insS_asc x h2.2⟩
      rcases List.mem_cons.mp ((insS_perm x ys).mem_iff.mp hz) with e | hz
      · rw [e]; exact (sle_tot x y).resolve_left hx
      · exact h2.1 z hz
theorem srtS_asc : ∀ xs : List Str, (srtS xs).Pairwise fun a b => sle a b = true
  | [] => List.Pairwise.nil
  | x :: xs => insS_asc x (srtS_asc xs)
theorem ascS_uniq : ∀ {xs ys : List Str}, xs.Perm ys → xs.Pairwise (fun a b => sle a b = true) → ys.Pairwise (fun a b => sle a b = true) → xs = ys
  | [], ys, p, _, _ => List.Perm.nil_eq p
  | x :: xs, [], p, _, _ => absurd p.length_eq (by simp)
  | x :: xs, y :: ys, p, h1, h2 => by
    have a1 := List.pairwise_cons.mp h1
    have a2 := List.pairwise_cons.mp h2
    have e : x = y := by
      rcases List.mem_cons.mp (p.mem_iff.mp List.mem_cons_self) with e | m1
      · exact e
      · rcases List.mem_cons.mp (p.mem_iff.mpr List.mem_cons_self) with e | m2
        · exact e.symm
        · exact sle_anti (a1.1 y m2) (a2.1 x m1)
    subst e
    rw [ascS_uniq (List.perm_cons x |>.mp p) a1.2 a2.2]
theorem rising_pw : ∀ {p : Str} {l : List Str}, risingS p l = true → (p :: l).Pairwise fun a b => sle a b = true
  | p, [], _ => List.pairwise_singleton _ _
  | p, x :: r, h => by
    have h2 := Bool.and_eq_true_iff.mp (show (!ltCps x.cps.toList p.cps.toList && risingS x r) = true from h)
    have ih := rising_pw h2.2
    refine List.pairwise_cons.mpr ⟨fun z hz => ?_, ih⟩
    rcases List.mem_cons.mp hz with e | hz
    · rw [e]; exact h2.1
    · exact sle_tr h2.1 ((List.pairwise_cons.mp ih).1 z hz)
theorem sortedS_pw {l : List Str} (h : sortedS l = true) : l.Pairwise fun a b => sle a b = true := by
  cases l with
  | nil => exact List.Pairwise.nil
  | cons x r => exact rising_pw h
theorem srtS_of {xs ys : List Str} (p : ys.Perm xs) (h : sortedS ys = true) : ys = srtS xs := ascS_uniq (p.trans (srtS_perm xs).symm) (sortedS_pw h) (srtS_asc xs)
theorem srtS_congr {xs ys : List Str} (p : xs.Perm ys) : srtS xs = srtS ys := ascS_uniq ((srtS_perm xs).trans (p.trans (srtS_perm ys).symm)) (srtS_asc xs) (srtS_asc ys)

/-! ### the digits 0, 1, 2 -/
def only3 (S : Int → Bool) : List Int := [0, 1, 2].filter S
theorem mem_only3 {S : Int → Bool} {k : Int} : k ∈ only3 S ↔ (k = 0 ∨ k = 1 ∨ k = 2) ∧ S k = true := by
  unfold only3
  rw [List.mem_filter]
  simp
theorem only3_asc (S : Int → Bool) : (only3 S).Pairwise (· < ·) := List.Pairwise.filter _ (by decide)
theorem only3_of {ns : List Int} {S : Int → Bool} (h : ns.Pairwise (· < ·)) (m : ∀ k, k ∈ ns ↔ k ∈ only3 S) : ns = only3 S := by
  have nd : ∀ {l : List Int}, l.Pairwise (· < ·) → l.Nodup := fun h => h.imp fun h => Int.ne_of_lt h
  have p : ns.Perm (only3 S) := (List.perm_ext_iff_of_nodup (nd h) (nd (only3_asc S))).mpr m
  exact p.eq_of_pairwise (fun a b _ _ h1 h2 => by omega) h (only3_asc S)
theorem only3_len (S : Int → Bool) : (only3 S).length ≤ 3 := List.length_filter_le _ _

/-- each once -/
def ddp : List Row → List Row
  | [] => []
  | x :: xs => if x ∈ ddp xs then ddp xs else x :: ddp xs
theorem mem_ddp {x : Row} : ∀ {rs : List Row}, x ∈ ddp rs ↔ x ∈ rs
  | [] => Iff.rfl
  | y :: ys => by
    unfold ddp
    split
    · rename_i h
      rw [mem_ddp, List.mem_cons]
      exact ⟨.inr, fun q => q.elim (fun e => by rw [e]; exact mem_ddp.mp h) id⟩
    · rw [List.mem_cons, List.mem_cons, mem_ddp]
theorem nodup_ddp : ∀ {rs : List Row}, (ddp rs).Nodup
  | [] => List.nodup_nil
  | y :: ys => by
    unfold ddp
    split
    · exact nodup_ddp
    · rename_i h
      exact List.nodup_cons.mpr ⟨h, nodup_ddp⟩
def sset (rs : List Row) : List Row := srt (ddp rs)
theorem mem_sset {rs : List Row} {x : Row} : x ∈ sset rs ↔ x ∈ rs := by
  unfold sset
  rw [mem_srt, mem_ddp]
theorem sset_sasc (rs : List Row) : SAsc (sset rs) := srt_sasc nodup_ddp
section
variable {X : Cx} {e a b : Expr} {σ : L2.St} {H : Hp} {pos : Pos} {rs : List Row} {r : Row}
theorem ce_inR (hu : X.A.units + 65 < cLine) (ha : DE X a σ H (eRow r)) (hb : UE X b σ H (rs.map eRow)) : CE X .In a b σ H (decide (r ∈ rs)) := ce_op (op_inTp hu) mono_rep ha hb (fun x y H2 _ h1 ⟨p, xs, e1, t, rl⟩ => by
    subst e1
    exact ⟨_, _, h1.dp, .tup t rl.dp, (shp_row 0 r).shaped, (shp_rows 0 rs).shaped, Same.refl H2, by rw [any_row]; rfl⟩) fun _ _ _ _ _ k ⟨d, ds, h1, h2, h3, h4, q⟩ => ⟨d, ds, h1, h2, h3, h4, k _ _ q⟩
theorem ce_ninR (hu : X.A.units + 65 < cLine) (ha : DE X a σ H (eRow r)) (hb : UE X b σ H (rs.map eRow)) : CE X .NotIn a b σ H (!decide (r ∈ rs)) := ce_op (op_ninTp hu) mono_rep ha hb (fun x y H2 _ h1 ⟨p, xs, e1, t, rl⟩ => by
    subst e1
    exact ⟨_, _, h1.dp, .tup t rl.dp, (shp_row 0 r).shaped, (shp_rows 0 rs).shaped, Same.refl H2, by rw [any_row]; rfl⟩) fun _ _ _ _ _ k ⟨d, ds, h1, h2, h3, h4, q⟩ => ⟨d, ds, h1, h2, h3, h4, k _ _ q⟩
theorem ce_ninL (hu : X.A.units + 65 < cLine) (ha : DE X a σ H (eRow r)) (hb : LV X b σ H (rs.map eRow)) : CE X .NotIn a b σ H (!decide (r ∈ rs)) := ce_op (op_notInD hu) mono_rep ha hb (fun x y H2 _ h1 ⟨p, xs, e1, t, rl⟩ => by
    subst e1
    refine ⟨_, _, h1.dp, .lst t rl.dp, (shp_row 0 r).shaped, ?_, Same.refl H2, by rw [any_row]⟩
    have z := shp_all (n := 1) (xs := rs.map eRow) fun x hx => by
      obtain ⟨y, _, e⟩ := List.mem_map.mp hx
      rw [← e]
      exact shp_row 0 y
    exact Shp.shaped (n := 2) ⟨by rw [PyData.canLay0]; exact z.1, by rw [PyData.depth]; exact Nat.succ_le_succ z.2⟩) fun _ _ _ _ _ k ⟨d, ds, h1, h2, h3, h4, q⟩ => ⟨d, ds, h1, h2, h3, h4, k _ _ q⟩
/-- t.index(x) of a tuple of names -/
theorem de_index {ys : List Str} {x : Str} {j : Nat} {apos : Pos} (ha : DE X a σ H (.tuple (ys.map .str))) (hb : DE X b σ H (.str x)) (hj : ys[j]? = some x) (hf : ∀ m, m < j → ys[m]? ≠ some x) (hbase : attributeBase a "index" X.env (eval a X.env) = eval a X.env := by rfl)
    (hfew : ((backTo pos (starEach [b] X.env)).all (fun x => !x.1) && (backToKw pos (keywordEach [] X.env)).all (fun x => x.1.isSome) && decide ([b].length + ([] : List Keyword).length + (if ([] : List Keyword).isEmpty then 0 else 1) < 30)) = true := by rfl)
    (hline : (apos.endLine == pos.line) = true := by rfl) (hs : starEach [b] X.env = (false, eval b X.env) :: starEach [] X.env := by rfl) (hplain : (backTo pos (starEach [] X.env)).any (·.1) = false := by rfl) :
    DE X (.Call (.Attribute a "index" apos) [b] [] pos) σ H (.int (j : Int)) := fun H1 s => by
  have hv : vst (ys.map .str) = true := by
    cases ys with
    | nil => cases hj
    | cons y ys =>
      show (!false && (isStrD (.str y) && (ys.map PyData.str).all isStrD)) = true
      rw [List.all_map]
      simp [isStrD]
  refine we_tidx (ha.go s fun v H2 s2 ⟨p, xs, e1, t, rl⟩ => ?_) hbase hfew hline hs hplain
  rw [hv] at t
  obtain ⟨ob, hd, hp⟩ := (show ∃ o : Obj, o.dict = none ∧ H2 p = some (.frz o (.tup xs)) from t)
  rw [RepL.strs rl] at hp
  exact ⟨p, ob, ys, e1, hd, hp, hb.go (s.trans s2) fun w H3 s3 r3 => ⟨s3 _ _ hp, x, j, r3, hj, hf, s2.trans s3, rfl⟩⟩
/-- sorted of rows -/
theorem le_srt {d : Nat} {B : Int} {p : Pos} (hm : X.mg "sorted" = none) (ha : QE X e σ H (rs.map eRow)) (h64 : rs.length < 64) (hd : 2 ≤ rs.length → 1 ≤ d) (hB : ∀ r ∈ rs, r.length = d ∧ TS.Bd B r) (hg : Gl X "sorted" := by rfl) (hs : starEach [e] X.env = (false, eval e X.env) :: starEach [] X.env := by rfl)
    (hpl : (backTo pos (starEach [] X.env)).any (·.1) = false := by rfl) : LE X (.Call (.Name "sorted" p) [e] [] pos) σ H ((srt rs).map eRow) := fun H1 s =>
  we_of (pe_callB cr_sortQ hg hm (by decide +kernel) (pa_cons pe_we pa_nil hs) (by decide) (by decide) hs hpl) (ha.go s fun v H2 s2 ⟨q, xs, e2, t, rl⟩ => ⟨q, xs, rs, d, B, by rw [e2], t, rl, h64, hd, hB, fun ss zs p h1 h2 h3 h4 => by
    rw [codes_asc hB h1 h2] at h4
    exact ⟨s2.trans (.new h3), p, zs, rfl, s2.free h3, upd_same, h4⟩⟩)
/-- .. of a dict of counts -/
theorem le_srtD {d : Nat} {B : Int} {p : Pos} {q : Addr} {kvs : List (List Key × V)} (hc : X.calm = true) (hm : X.mg "sorted" = none) (ha : VE X e σ H (.ref q)) (hk : H q = some (.dT kvs)) (hr : kvs.map (·.1) = rs.map (fun r => r.map Sum.inl)) (h64 : rs.length < 64) (hd : 2 ≤ rs.length → 1 ≤ d) (hB : ∀ r ∈ rs, r.length = d ∧ TS.Bd B r)
    (hg : Gl X "sorted" := by rfl) (hs : starEach [e] X.env = (false, eval e X.env) :: starEach [] X.env := by rfl) (hpl : (backTo pos (starEach [] X.env)).any (·.1) = false := by rfl) : LE X (.Call (.Name "sorted" p) [e] [] pos) σ H ((srt rs).map eRow) := fun H1 s =>
  we_of (pe_callB (cr_sortD hc) hg hm (by decide +kernel) (pa_cons pe_we pa_nil hs) (by decide) (by decide) hs hpl) (ha.go s fun v H2 s2 e2 => ⟨q, kvs, rs, d, B, by rw [e2], .inl (s2 _ _ (s _ _ hk)), hr, h64, hd, hB, fun ss zs p h1 h2 h3 h4 => by
    rw [codes_asc hB h1 h2] at h4
    exact ⟨s2.trans (.new h3), p, zs, rfl, s2.free h3, upd_same, h4⟩⟩)
/-- .. of a dict with texts as keys -/
theorem le_srtK {p : Pos} {q : Addr} {kvs : List (Key × V)} {ks : List Str} (hc : X.calm = true) (hm : X.mg "sorted" = none) (ha : VE X e σ H (.ref q)) (hk : H q = some (.dK kvs)) (hr : kvs.map (·.1) = ks.map Sum.inr) (h64 : ks.length < 64)
    (hg : Gl X "sorted" := by rfl) (hs : starEach [e] X.env = (false, eval e X.env) :: starEach [] X.env := by rfl) (hpl : (backTo pos (starEach [] X.env)).any (·.1) = false := by rfl) : LE X (.Call (.Name "sorted" p) [e] [] pos) σ H ((srtS ks).map .str) := fun H1 s =>
  we_of (pe_callB (call_sortedD hc) hg hm (by decide +kernel) (pa_cons pe_we pa_nil hs) (by decide) (by decide) hs hpl) (ha.go s fun v H2 s2 e2 => ⟨q, kvs, ks, by rw [e2], .inl (s2 _ _ (s _ _ hk)), hr, h64, fun ys p h1 h2 h3 => by
    rw [srtS_of h1 h2]
    exact ⟨s2.trans (.new h3), p, _, rfl, s2.free h3, upd_same, .ofStrs⟩⟩)
/-- .. of a dict with digits as keys -/
theorem le_srtKI {p : Pos} {q : Addr} {kvs : List (Key × V)} {ks : List Int} {S : Int → Bool} (hc : X.calm = true) (hm : X.mg "sorted" = none) (ha : VE X e σ H (.ref q)) (hk : H q = some (.dK kvs)) (hr : kvs.map (·.1) = ks.map Sum.inl) (h64 : ks.length < 64) (hn : ks.Nodup) (hS : ∀ k, k ∈ ks ↔ k ∈ only3 S)
    (hg : Gl X "sorted" := by rfl) (hs : starEach [e] X.env = (false, eval e X.env) :: starEach [] X.env := by rfl) (hpl : (backTo pos (starEach [] X.env)).any (·.1) = false := by rfl) : LE X (.Call (.Name "sorted" p) [e] [] pos) σ H ((only3 S).map .int) := fun H1 s =>
  we_of (pe_callB (call_sortedDI hc) hg hm (by decide +kernel) (pa_cons pe_we pa_nil hs) (by decide) (by decide) hs hpl) (ha.go s fun v H2 s2 e2 => ⟨q, kvs, ks, by rw [e2], .inl (s2 _ _ (s _ _ hk)), hr, h64, fun ys p h1 h2 h3 => by
    have hy : ys.Pairwise (· < ·) := by
      have : ys.Pairwise fun x y => x ≤ y ∧ x ≠ y := List.pairwise_and_iff.mpr ⟨h2, (h1.nodup_iff).mpr hn⟩
      exact this.imp fun ⟨a, b⟩ => by omega
    rw [only3_of hy fun k => h1.mem_iff.trans (hS k)]
    exact ⟨s2.trans (.new h3), p, _, rfl, s2.free h3, upd_same, .ofInts⟩⟩)
/-- sorted(set(a list of digits)) -/
theorem le_seti {ns : List Int} {p p2 pos2 : Pos} (hc : X.calm = true) (hm : X.mg "sorted" = none) (hm2 : X.mg "set" = none) (ha : LV X e σ H (ns.map .int)) (h63 : ns.length < 63) (hb : ∀ n ∈ ns, n = 0 ∨ n = 1 ∨ n = 2)
    (hg : Gl X "sorted" := by rfl) (hg2 : Gl X "set" := by rfl) (hs : starEach [e] X.env = (false, eval e X.env) :: starEach [] X.env := by rfl) (hpl2 : (backTo pos2 (starEach [] X.env)).any (·.1) = false := by rfl)
    (hs2 : starEach [.Call (.Name "set" p2) [e] [] pos2] X.env = (false, eval (.Call (.Name "set" p2) [e] [] pos2) X.env) :: starEach [] X.env := by rfl) (hpl : (backTo pos (starEach [] X.env)).any (·.1) = false := by rfl) :
    LE X (.Call (.Name "sorted" p) [.Call (.Name "set" p2) [e] [] pos2] [] pos) σ H ((only3 fun k => decide (k ∈ ns)).map .int) := fun H1 s => by
  have mk : CallR X (.type "set") (fun xs H Q => ∃ (a : Addr) (ns : List Int), xs = [.ref a] ∧ SqL X.K H a (ns.map V.int) ∧ ns.length < 63 ∧ ∀ (q : Addr) (c : Nat), c ≤ ns.length → H q = none → Q (.ref q) (upd H q (SetO X.w q (fun j => decide (j ∈ ns)) c))) := fun pins st σ H xs us Q I r ⟨a, ns, e1, hl, hn, q⟩ => by
    subst e1
    rw [Vals.ref1 r]
    obtain ⟨its, rv, pl, hz⟩ := I.list hl
    refine set_of_list ns (I.ok.hd hc) pl.isList (by simpa using rv.ints) (by unfold scanBound; omega) fun h' tk c R hc' k => ?_
    exact ⟨.ref st.heap.objs.size, _, I.laid (t' := tk) k (Nat.le_refl _) (setO_new R), rfl, q _ c hc' (I.hok.fresh (Nat.le_refl _))⟩
  refine we_of (pe_callB (cr_sortedSet hc) hg hm (by decide +kernel) (pa_cons (pe_callTy mk hg2 hm2 (by decide +kernel) (pa_cons pe_we pa_nil hs) (by decide) (by decide) hs hpl2) pa_nil hs2) (by decide) (by decide) hs2 hpl) ?_
  refine ha.go s fun v H2 s2 ⟨l, xs, e1, t, rl⟩ => ⟨l, ns, by rw [e1], by rw [RepL.ints rl] at t; exact t, h63, fun q c hcn hq => ?_⟩
  refine ⟨q, _, c, rfl, upd_same, by omega, fun ms p h1 h2 h3 h4 => ?_⟩
  have hq2 : q ≠ p := ne_of_none upd_same h4
  have s3 : Same H2 (upd (upd H2 q (SetO X.w q (fun j => decide (j ∈ ns)) c)) p (.lst (ms.map V.int))) := (Same.new hq).trans (.new h4)
  rw [only3_of (S := fun k => decide (k ∈ ns)) h1 fun k => by
    rw [h2, mem_only3]
    exact ⟨fun h => ⟨hb k (of_decide_eq_true h), h⟩, fun h => h.2⟩] at s3 ⊢
  rw [upd_ne hq2.symm] at h4
  exact ⟨s2.trans s3, p, _, rfl, s2.free h4, upd_same, .ofInts⟩
/-- sorted(set(a list of rows)) -/
theorem le_sset {d : Nat} {B : Int} {p p2 pos2 : Pos} (hc : X.calm = true) (hu : X.A.units + 64 < cLine) (hm : X.mg "sorted" = none) (hm2 : X.mg "set" = none) (ha : LV X e σ H (rs.map eRow)) (h64 : rs.length < 64) (hd : ∀ x ∈ rs, ∀ y ∈ rs, x ≠ y → 1 ≤ d) (hB : ∀ r ∈ rs, r.length = d ∧ TS.Bd B r)
    (hg : Gl X "sorted" := by rfl) (hg2 : Gl X "set" := by rfl) (hs : starEach [e] X.env = (false, eval e X.env) :: starEach [] X.env := by rfl) (hpl2 : (backTo pos2 (starEach [] X.env)).any (·.1) = false := by rfl)
    (hs2 : starEach [.Call (.Name "set" p2) [e] [] pos2] X.env = (false, eval (.Call (.Name "set" p2) [e] [] pos2) X.env) :: starEach [] X.env := by rfl) (hpl : (backTo pos (starEach [] X.env)).any (·.1) = false := by rfl) :
    LE X (.Call (.Name "sorted" p) [.Call (.Name "set" p2) [e] [] pos2] [] pos) σ H ((sset rs).map eRow) := fun H1 s => by
  refine we_of (pe_callB (cr_sortS hc) hg hm (by decide +kernel) (pa_cons (pe_callTy (cr_setOfT hc hu) hg2 hm2 (by decide +kernel) (pa_cons pe_we pa_nil hs) (by decide) (by decide) hs hpl2) pa_nil hs2) (by decide) (by decide) hs2 hpl) ?_
  refine ha.go s fun v H2 s2 ⟨l, xs, e1, t, rl⟩ => ?_
  obtain ⟨L, l1, l2, l3⟩ := places rl
  refine ⟨l, L, by rw [e1], by rw [← l2]; exact t, fun z hz => SqT.of (l3 z hz), by rw [← l1, List.length_map] at h64; exact h64, fun q M hq m1 m2 => ?_⟩
  have tupq : ∀ z ∈ M, upd H2 q (SetTO X.prog X.w q M) z.1 = some (.tup (z.2.map V.int)) := fun z hz => by
    rw [upd_ne (ne_of_none (l3 z (m1 z hz)) hq)]
    exact l3 z (m1 z hz)
  have hm : ∀ z ∈ M, z.2 ∈ rs := fun z hz => by rw [← l1]; exact List.mem_map.mpr ⟨z, m1 z hz, rfl⟩
  refine ⟨q, M, d, B, rfl, upd_same, fun nd h2 => ?_, fun z hz => ⟨tupq z hz, hB _ (hm z hz)⟩, fun nd ss zs p h1 h2 h3 h4 => ?_⟩
  · match M, h2, nd, hm with
    | a :: b :: _, _, nd, hm =>
      refine hd _ (hm a List.mem_cons_self) _ (hm b (List.mem_cons_of_mem _ List.mem_cons_self)) fun e => ?_
      exact (List.nodup_cons.mp nd).1 (by show a.2 ∈ _; rw [e]; exact List.mem_cons_self)
  · have hp : q ≠ p := ne_of_none upd_same h3
    have s3 : Same H2 (upd (upd H2 q (SetTO X.prog X.w q M)) p (.lst zs)) := (Same.new hq).trans (.new h3)
    have es : ss = sset rs := by
      have e0 : ss = srt (M.map (·.2)) := codes_asc (fun r hr => by
        obtain ⟨z, hz, e⟩ := List.mem_map.mp hr
        rw [← e]
        exact hB _ (hm z hz)) h1 h2
      rw [e0]
      refine sasc_uniq (srt_sasc nd) (sset_sasc rs) fun x => ?_
      rw [mem_srt, mem_sset]
      constructor
      · intro hx
        obtain ⟨z, hz, e⟩ := List.mem_map.mp hx
        rw [← e]
        exact hm z hz
      · intro hx
        rw [← l1] at hx
        obtain ⟨z, hz, e⟩ := List.mem_map.mp hx
        rw [← e]
        exact m2 z hz
    rw [es] at h4
    rw [upd_ne hp.symm] at h3
    exact ⟨s2.trans s3, p, zs, rfl, s2.free h3, upd_same, h4⟩
end
end J
/-! The data of the law: names, tables, patterns. -/
namespace J
open PySem PySem.Spec PyProof.Rows L2
def tabNames : List Str := ["a1", "a2", "a3", "a4", "b1", "b2", "b3", "b4", "c1", "c2", "c3", "c4"]
def patNames : List Str := ["p", "q", "r"]
def varNames : List Str := ["x", "y", "z"]
def okW : List Str := tabNames ++ (patNames ++ varNames)
theorem ok_tab {x : Str} (h : x ∈ tabNames) : x ∈ okW := List.mem_append_left _ h
theorem ok_pat {x : Str} (h : x ∈ patNames) : x ∈ okW := List.mem_append_right _ (List.mem_append_left _ h)
theorem ok_vr {x : Str} (h : x ∈ varNames) : x ∈ okW := List.mem_append_right _ (List.mem_append_right _ h)
def dig3 (n : Int) : Prop := n = 0 ∨ n = 1 ∨ n = 2
structure GRow (k : Nat) (r : Row) : Prop where
  len : r.length = k
  val : ∀ n ∈ r, dig3 n
structure GTab (m : Nat) (t : Tab) : Prop where
  lo : 1 ≤ t.cols
  hi : t.cols ≤ 4
  row : ∀ r ∈ t.rows, GRow t.cols r
  asc : SAsc t.rows
  few : t.rows.length ≤ m
structure GCat (m : Nat) (c : Cat) : Prop where
  tab : ∀ t ∈ c, GTab m t
  nm : ∀ t ∈ c, t.name ∈ tabNames
  few : c.length ≤ 3
  one : 1 ≤ c.length
  asc : (c.map (·.name)).Pairwise fun a b => slt a b = true
def addNew (found : List Str) (v : Str) : List Str := if v ∈ found then found else found ++ [v]
def pvars (p : Pat) : List Str := (p.atoms.flatMap (·.vars)).foldl addNew []
def findT (c : Cat) (x : Str) : Option Tab := c.find? fun t => decide (t.name = x)
structure GPat (c : Cat) (p : Pat) : Prop where
  few : p.atoms.length ≤ 3
  one : 0 < p.atoms.length
  nm : ∀ a ∈ p.atoms, a.tab ∈ tabNames
  fit : ∀ a ∈ p.atoms, ∃ t, findT c a.tab = some t ∧ t.cols = a.vars.length
  lo : ∀ a ∈ p.atoms, 1 ≤ a.vars.length
  hi : ∀ a ∈ p.atoms, a.vars.length ≤ 4
  var : ∀ a ∈ p.atoms, ∀ v ∈ a.vars, v ∈ varNames
  head : ∀ v ∈ p.head, v ∈ pvars p
  nodup : p.head.Nodup
theorem mem_addNew {f : List Str} {v x : Str} : x ∈ addNew f v ↔ x ∈ f ∨ x = v := by
  unfold addNew
  split
  · rename_i h
    exact ⟨.inl, fun z => z.elim id fun e => by rw [e]; exact h⟩
  · rw [List.mem_append, List.mem_singleton]
theorem mem_fold : ∀ {xs f : List Str} {x : Str}, x ∈ xs.foldl addNew f ↔ x ∈ f ∨ x ∈ xs
  | [], f, x => ⟨.inl, fun z => z.elim id fun e => nomatch e⟩
  | y :: xs, f, x => by
    rw [List.foldl_cons, mem_fold, mem_addNew, List.mem_cons, or_assoc]
theorem nodup_addNew {f : List Str} {v : Str} (h : f.Nodup) : (addNew f v).Nodup := by
  unfold addNew
  split
  · exact h
  · rename_i n
    exact List.nodup_append.mpr ⟨h, List.nodup_cons.mpr ⟨nofun, List.nodup_nil⟩, fun a ha b hb e => n (by rw [← List.mem_singleton.mp hb, ← e]; exact ha)⟩
theorem nodup_fold : ∀ {xs f : List Str}, f.Nodup → (xs.foldl addNew f).Nodup
  | [], f, h => h
  | y :: xs, f, h => nodup_fold (xs := xs) (nodup_addNew h)
theorem mem_pvars {p : Pat} {x : Str} : x ∈ pvars p ↔ ∃ a ∈ p.atoms, x ∈ a.vars := by
  unfold pvars
  rw [mem_fold, List.mem_flatMap]
  exact ⟨fun z => z.elim (fun e => nomatch e) id, .inr⟩
theorem nodup_pvars (p : Pat) : (pvars p).Nodup := nodup_fold List.nodup_nil
theorem GPat.vars {c : Cat} {p : Pat} (h : GPat c p) {x : Str} (hx : x ∈ pvars p) : x ∈ varNames := by
  obtain ⟨a, ha, hx⟩ := mem_pvars.mp hx
  exact h.var a ha x hx
theorem GPat.vlen {c : Cat} {p : Pat} (h : GPat c p) : (pvars p).length ≤ 3 := List.Nodup.length_le_of_subset (l₂ := varNames) (nodup_pvars p) fun x hx => h.vars hx
theorem GPat.hlen {c : Cat} {p : Pat} (h : GPat c p) : p.head.length ≤ 3 := Nat.le_trans (List.Nodup.length_le_of_subset h.nodup fun x hx => h.head x hx) h.vlen
theorem names_slt {c : Cat} (h : (c.map (·.name)).Pairwise fun a b => slt a b = true) : (c.map (·.name)).Nodup := h.imp fun {x y} h e => by
  rw [e, slt_irr] at h
  cases h
theorem okW_len : ∀ x ∈ okW, x.length ≤ 20 := by decide +kernel
theorem okW_ne : ∀ x ∈ okW, x ≠ "" := by decide +kernel
theorem okW_head : ∀ x ∈ okW, ∃ ch, atI x.cps.toList 0 = some ch ∧ ch ∈ ("abcdefghijklmnopqrstuvwxyz" : Str).cps.toList := by
  intro x hx
  have h : okW.all (fun x => match atI x.cps.toList 0 with | some ch => decide (ch ∈ ("abcdefghijklmnopqrstuvwxyz" : Str).cps.toList) | none => false) = true := by decide +kernel
  have z := List.all_eq_true.mp h x hx
  split at z
  · rename_i ch e
    exact ⟨ch, e, of_decide_eq_true z⟩
  · cases z
theorem okW_signs : ∀ x ∈ okW, ∀ c ∈ x.cps.toList, c ∈ ("abcdefghijklmnopqrstuvwxyz0123456789" : Str).cps.toList := by decide +kernel
end J
/-! Comprehensions whose target is one name, in short. -/
namespace J
open PySem PySem.Spec PyProof.Rows L2
theorem wipe1 {σ : L2.St} {j : Nat} {v : Option V} : wipe ((wipe σ [j]).set j v) [j] = wipe σ [j] := by
  show ((σ.set j none).set j v).set j none = σ.set j none
  rw [List.set_set, List.set_set]
theorem wipe2 {σ : L2.St} {j : Nat} {v : Option V} : (wipe σ [j]).set j v = σ.set j v := by
  show (σ.set j none).set j v = _
  rw [List.set_set]
section
variable {X : Cx} {elt iter : Expr} {c : Expr} {scope : Scope} {pos tp : Pos} {σ : L2.St} {H : Hp} {x : Str} {j : Nat} {α : Type}
theorem pg_blk (hN : X.N.Nodup) (hi : X.N[j]? = some x) (hl : scope.names.lookup x = some .local) : Blk X scope fun Y => PG Y (.Name x tp) (gName j) := fun _ _ _ _ _ => pg_name (i := j) hN hi (.inl (lookup_relS_keep (sc := X.env.scope) (k := .local) (by decide) hl)) (.inr (lookup_relS_keep (sc := X.env.scope) (k := .local) (by decide) hl))
/-- [elt for x in (a tuple) if c], [elt for x in (a tuple)] -/
theorem le_cU (N : List Str) (sc : Scope) (j : Nat) (xs : List α) (enc : α → PyData) (f : α → Bool) (gd : α → PyData) (hc : X.calm = true) (hN : X.N.Nodup) (hit : UE X iter σ H (xs.map enc)) (hz : xs.length < 100000)
    (hb : ∀ y v H2, y ∈ xs → Same H H2 → Rep H2 (enc y) v → Blk X scope fun Y => BT Y c (σ.set j (some v)) H2 (f y) ∧ (f y = true → DE Y elt (σ.set j (some v)) H2 (gd y)))
    (ok : blkC N sc scope [(x, j)] = true := by decide +kernel) (h1 : X.N = N := by rfl) (h2 : X.env.scope = sc := by rfl) (hi : X.N[j]? = some x := by rfl) (hl : scope.names.lookup x = some .local := by rfl) (hs : ∀ x, foldedSetIterable iter X.env x = pure x := by intro _; rfl) :
    LE X (.ListComp elt [⟨.Name x tp, iter, [c], 0⟩] scope pos) σ H ((xs.filter f).map gd) :=
  le_lcU (own := [(x, j)]) (g := gName j) xs enc f gd hc hN hit hz (by subst h1 h2; exact blkOk_by ok) (pg_blk hN hi hl) (fun y v H2 hy s r => takes_name ⟨wipe1, fun a1 a2 a3 a4 a5 => by
    rw [show (wipe σ ([(x, j)].map (·.2))).set j (some v) = σ.set j (some v) from wipe2]
    exact bts_one (hb y v H2 hy s r a1 a2 a3 a4 a5).1, fun hf a1 a2 a3 a4 a5 => by
    rw [show (wipe σ ([(x, j)].map (·.2))).set j (some v) = σ.set j (some v) from wipe2]
    exact (hb y v H2 hy s r a1 a2 a3 a4 a5).2 hf⟩) hs
theorem filter_true {xs : List α} : xs.filter (fun _ => true) = xs := by simp
theorem le_mU (N : List Str) (sc : Scope) (j : Nat) (xs : List α) (enc : α → PyData) (gd : α → PyData) (hc : X.calm = true) (hN : X.N.Nodup) (hit : UE X iter σ H (xs.map enc)) (hz : xs.length < 100000)
    (hb : ∀ y v H2, y ∈ xs → Same H H2 → Rep H2 (enc y) v → Blk X scope fun Y => DE Y elt (σ.set j (some v)) H2 (gd y))
    (ok : blkC N sc scope [(x, j)] = true := by decide +kernel) (h1 : X.N = N := by rfl) (h2 : X.env.scope = sc := by rfl) (hi : X.N[j]? = some x := by rfl) (hl : scope.names.lookup x = some .local := by rfl) (hs : ∀ x, foldedSetIterable iter X.env x = pure x := by intro _; rfl) :
    LE X (.ListComp elt [⟨.Name x tp, iter, [], 0⟩] scope pos) σ H (xs.map gd) := by
  have z := le_lcU (elt := elt) (ifs := []) (pos := pos) (tg := .Name x tp) (own := [(x, j)]) (g := gName j) xs enc (fun _ => true) gd hc hN hit hz (by subst h1 h2; exact blkOk_by ok) (pg_blk hN hi hl) (fun y v H2 hy s r => takes_name ⟨wipe1, fun _ _ _ _ _ => bts_nil, fun _ a1 a2 a3 a4 a5 => by
    rw [show (wipe σ ([(x, j)].map (·.2))).set j (some v) = σ.set j (some v) from wipe2]
    exact hb y v H2 hy s r a1 a2 a3 a4 a5⟩) hs
  rw [filter_true] at z
  exact z
/-- .. over a list -/
theorem le_cL (N : List Str) (sc : Scope) (j : Nat) (xs : List α) (enc : α → PyData) (f : α → Bool) (gd : α → PyData) (hc : X.calm = true) (hN : X.N.Nodup) (hit : LV X iter σ H (xs.map enc)) (hz : xs.length < 100000)
    (hb : ∀ y v H2, y ∈ xs → Same H H2 → Rep H2 (enc y) v → Blk X scope fun Y => BT Y c (σ.set j (some v)) H2 (f y) ∧ (f y = true → DE Y elt (σ.set j (some v)) H2 (gd y)))
    (ok : blkC N sc scope [(x, j)] = true := by decide +kernel) (h1 : X.N = N := by rfl) (h2 : X.env.scope = sc := by rfl) (hi : X.N[j]? = some x := by rfl) (hl : scope.names.lookup x = some .local := by rfl) (hs : ∀ x, foldedSetIterable iter X.env x = pure x := by intro _; rfl) :
    LE X (.ListComp elt [⟨.Name x tp, iter, [c], 0⟩] scope pos) σ H ((xs.filter f).map gd) :=
  le_lcL (own := [(x, j)]) (g := gName j) xs enc f gd hc hN hit hz (by subst h1 h2; exact blkOk_by ok) (pg_blk hN hi hl) (fun y v H2 hy s r => takes_name ⟨wipe1, fun a1 a2 a3 a4 a5 => by
    rw [show (wipe σ ([(x, j)].map (·.2))).set j (some v) = σ.set j (some v) from wipe2]
    exact bts_one (hb y v H2 hy s r a1 a2 a3 a4 a5).1, fun hf a1 a2 a3 a4 a5 => by
    rw [show (wipe σ ([(x, j)].map (·.2))).set j (some v) = σ.set j (some v) from wipe2]
    exact (hb y v H2 hy s r a1 a2 a3 a4 a5).2 hf⟩) hs
theorem le_mL (N : List Str) (sc : Scope) (j : Nat) (xs : List α) (enc : α → PyData) (gd : α → PyData) (hc : X.calm = true) (hN : X.N.Nodup) (hit : LV X iter σ H (xs.map enc)) (hz : xs.length < 100000)
    (hb : ∀ y v H2, y ∈ xs → Same H H2 → Rep H2 (enc y) v → Blk X scope fun Y => DE Y elt (σ.set j (some v)) H2 (gd y))
    (ok : blkC N sc scope [(x, j)] = true := by decide +kernel) (h1 : X.N = N := by rfl) (h2 : X.env.scope = sc := by rfl) (hi : X.N[j]? = some x := by rfl) (hl : scope.names.lookup x = some .local := by rfl) (hs : ∀ x, foldedSetIterable iter X.env x = pure x := by intro _; rfl) :
    LE X (.ListComp elt [⟨.Name x tp, iter, [], 0⟩] scope pos) σ H (xs.map gd) := by
  have z := le_lcL (elt := elt) (ifs := []) (pos := pos) (tg := .Name x tp) (own := [(x, j)]) (g := gName j) xs enc (fun _ => true) gd hc hN hit hz (by subst h1 h2; exact blkOk_by ok) (pg_blk hN hi hl) (fun y v H2 hy s r => takes_name ⟨wipe1, fun _ _ _ _ _ => bts_nil, fun _ a1 a2 a3 a4 a5 => by
    rw [show (wipe σ ([(x, j)].map (·.2))).set j (some v) = σ.set j (some v) from wipe2]
    exact hb y v H2 hy s r a1 a2 a3 a4 a5⟩) hs
  rw [filter_true] at z
  exact z
/-- .. over range(n) -/
theorem le_cR {ne : Expr} {p rp : Pos} (N : List Str) (sc : Scope) (j : Nat) (n : Nat) (f : Nat → Bool) (gd : Nat → PyData) (hc : X.calm = true) (hN : X.N.Nodup) (hm : X.mg "range" = none) (hit : DE X ne σ H (.int (n : Int))) (hz : n < 100000)
    (hb : ∀ (i : Nat) H2, i < n → Same H H2 → Blk X scope fun Y => BT Y c (σ.set j (some (.int (i : Int)))) H2 (f i) ∧ (f i = true → DE Y elt (σ.set j (some (.int (i : Int)))) H2 (gd i)))
    (ok : blkC N sc scope [(x, j)] = true := by decide +kernel) (h1 : X.N = N := by rfl) (h2 : X.env.scope = sc := by rfl) (hi : X.N[j]? = some x := by rfl) (hl : scope.names.lookup x = some .local := by rfl)
    (hgl : Gl X "range" := by rfl) (hst : starEach [ne] X.env = [(false, eval ne X.env)] := by rfl) (hs : ∀ x, foldedSetIterable (.Call (.Name "range" p) [ne] [] rp) X.env x = pure x := by intro _; rfl) :
    LE X (.ListComp elt [⟨.Name x tp, .Call (.Name "range" p) [ne] [] rp, [c], 0⟩] scope pos) σ H (((List.range n).filter f).map gd) :=
  le_lcR1 (own := [(x, j)]) (g := gName j) (j := j) f gd hc hN hm hit hz (by subst h1 h2; exact blkOk_by ok) (pg_blk hN hi hl) (fun i H2 hy s => takes_name ⟨wipe1, fun a1 a2 a3 a4 a5 => by
    rw [show (wipe σ ([(x, j)].map (·.2))).set j (some (V.int (i : Int))) = σ.set j (some (.int (i : Int))) from wipe2]
    exact bts_one (hb i H2 hy s a1 a2 a3 a4 a5).1, fun hf a1 a2 a3 a4 a5 => by
    rw [show (wipe σ ([(x, j)].map (·.2))).set j (some (V.int (i : Int))) = σ.set j (some (.int (i : Int))) from wipe2]
    exact (hb i H2 hy s a1 a2 a3 a4 a5).2 hf⟩) hgl hst hs
theorem le_mR {ne : Expr} {p rp : Pos} (N : List Str) (sc : Scope) (j : Nat) (n : Nat) (gd : Nat → PyData) (hc : X.calm = true) (hN : X.N.Nodup) (hm : X.mg "range" = none) (hit : DE X ne σ H (.int (n : Int))) (hz : n < 100000)
    (hb : ∀ (i : Nat) H2, i < n → Same H H2 → Blk X scope fun Y => DE Y elt (σ.set j (some (.int (i : Int)))) H2 (gd i))
    (ok : blkC N sc scope [(x, j)] = true := by decide +kernel) (h1 : X.N = N := by rfl) (h2 : X.env.scope = sc := by rfl) (hi : X.N[j]? = some x := by rfl) (hl : scope.names.lookup x = some .local := by rfl)
    (hgl : Gl X "range" := by rfl) (hst : starEach [ne] X.env = [(false, eval ne X.env)] := by rfl) (hs : ∀ x, foldedSetIterable (.Call (.Name "range" p) [ne] [] rp) X.env x = pure x := by intro _; rfl) :
    LE X (.ListComp elt [⟨.Name x tp, .Call (.Name "range" p) [ne] [] rp, [], 0⟩] scope pos) σ H ((List.range n).map gd) := by
  have z := le_lcR1 (elt := elt) (ifs := []) (pos := pos) (tg := .Name x tp) (p := p) (rp := rp) (own := [(x, j)]) (g := gName j) (j := j) (fun _ => true) gd hc hN hm hit hz (by subst h1 h2; exact blkOk_by ok) (pg_blk hN hi hl) (fun i H2 hy s => takes_name ⟨wipe1, fun _ _ _ _ _ => bts_nil, fun _ a1 a2 a3 a4 a5 => by
    rw [show (wipe σ ([(x, j)].map (·.2))).set j (some (V.int (i : Int))) = σ.set j (some (.int (i : Int))) from wipe2]
    exact hb i H2 hy s a1 a2 a3 a4 a5⟩) hgl hst hs
  rw [filter_true] at z
  exact z
/-- .. over range(lo, hi) -/
theorem le_mR2 {ae ne : Expr} {p rp : Pos} (N : List Str) (sc : Scope) (j : Nat) (lo : Int) (n : Nat) (gd : Nat → PyData) (hc : X.calm = true) (hN : X.N.Nodup) (hm : X.mg "range" = none) {hi : Int} (e1 : DE X ae σ H (.int lo)) (e2 : DE X ne σ H (.int hi)) (hn : (hi - lo).toNat = n) (hz : n < 100000) (hb2 : -(2 ^ 62) ≤ lo ∧ lo < 2 ^ 62 ∧ -(2 ^ 62) ≤ hi ∧ hi < 2 ^ 62)
    (hb : ∀ (i : Nat) H2, i < n → Same H H2 → Blk X scope fun Y => DE Y elt (σ.set j (some (.int (lo + (i : Int))))) H2 (gd i))
    (ok : blkC N sc scope [(x, j)] = true := by decide +kernel) (h1 : X.N = N := by rfl) (h2 : X.env.scope = sc := by rfl) (hi : X.N[j]? = some x := by rfl) (hl : scope.names.lookup x = some .local := by rfl)
    (hgl : Gl X "range" := by rfl) (hst : starEach [ae, ne] X.env = [(false, eval ae X.env), (false, eval ne X.env)] := by rfl) (hst2 : starEach [ne] X.env = [(false, eval ne X.env)] := by rfl) (hs : ∀ x, foldedSetIterable (.Call (.Name "range" p) [ae, ne] [] rp) X.env x = pure x := by intro _; rfl) :
    LE X (.ListComp elt [⟨.Name x tp, .Call (.Name "range" p) [ae, ne] [] rp, [], 0⟩] scope pos) σ H ((List.range n).map gd) := by
  have z := le_lcR2 (elt := elt) (ifs := []) (pos := pos) (tg := .Name x tp) (p := p) (rp := rp) (own := [(x, j)]) (g := gName j) (fun _ => true) gd hc hN hm e1 e2 hn hz hb2 (by subst h1 h2; exact blkOk_by ok) (pg_blk hN hi hl) (fun i H2 hy s => takes_name ⟨wipe1, fun _ _ _ _ _ => bts_nil, fun _ a1 a2 a3 a4 a5 => by
    rw [show (wipe σ ([(x, j)].map (·.2))).set j (some (V.int (lo + (i : Int)))) = σ.set j (some (.int (lo + (i : Int)))) from wipe2]
    exact hb i H2 hy s a1 a2 a3 a4 a5⟩) hgl hst hst2 hs
  rw [filter_true] at z
  exact z
theorem all_true {n : List α} : (n.map fun _ => true).all id = true := by
  rw [List.all_map]
  simp
theorem map_bl {n : List α} {f : α → Bool} : (n.map fun x => PyData.bool (f x)) = (n.map f).map .bool := by rw [List.map_map]; rfl
end
end J
/-! Comprehensions over a text, over two sources, over a dict's keys. -/
namespace J
open PySem PySem.Spec PyProof.Rows L2
section
variable {X : Cx} {elt iter : Expr} {c : Expr} {scope : Scope} {pos tp : Pos} {σ : L2.St} {H : Hp} {x : Str} {j : Nat} {α : Type}
/-- .. over a text -/
theorem le_mS {z : Str} (N : List Str) (sc : Scope) (j : Nat) (gd : Nat → PyData) (hc : X.calm = true) (hN : X.N.Nodup) (hit : DE X iter σ H (.str z)) (hz : z.cps.size < 100000)
    (hb : ∀ (y : Nat) H2, y ∈ z.cps.toList → Same H H2 → Blk X scope fun Y => DE Y elt (σ.set j (some (.str ⟨#[y]⟩))) H2 (gd y))
    (ok : blkC N sc scope [(x, j)] = true := by decide +kernel) (h1 : X.N = N := by rfl) (h2 : X.env.scope = sc := by rfl) (hi : X.N[j]? = some x := by rfl) (hl : scope.names.lookup x = some .local := by rfl) (hs : ∀ x, foldedSetIterable iter X.env x = pure x := by intro _; rfl) :
    LE X (.ListComp elt [⟨.Name x tp, iter, [], 0⟩] scope pos) σ H (z.cps.toList.map gd) := fun H1 s =>
  we_of (pe_lc (own := [(x, j)]) hc hN (pi_str pe_we) (by subst h1 h2; exact blkOk_by ok) (pg_blk hN hi hl) (pts_blk (ifs := [])) pe_blk hs) (hit.go s fun v H2 s2 r => ⟨z, r, fun D hD => by
    refine lc_it walk_str (fun i H' => Cv H2 D (((z.cps.toList.take i).filter fun _ => true).map gd) H') (Cv.start hD) (fun _ _ _ _ => trivial) (fun i x H' H'' hi c ⟨e, k, hk, ev⟩ => ?_) fun H' c => ?_
    · subst e ev
      have hy : z.cps.toList[i]? = some k := by rw [Array.getElem?_toList]; exact hk
      refine ⟨wipe1, ?_⟩
      rw [made_snoc z.cps.toList (fun _ => true) gd i k hy, show (wipe σ ([(_, j)].map (·.2))).set j _ = σ.set j _ from wipe2]
      exact cv_turn hD c (Nat.lt_of_le_of_lt (made_len _ _ _ i) (by rw [Array.length_toList]; exact hz)) (fun _ _ _ _ _ => bts_nil) fun _ => hb k H'' (List.mem_of_getElem? hy) ((s.trans s2).trans c.1)
    · rw [List.take_of_length_le (by rw [Array.length_toList]; exact Nat.le_refl _), filter_true] at c
      obtain ⟨c1, acc, c2, c3⟩ := c
      exact ⟨s2.trans c1, D, acc, rfl, s2.free hD, c2, c3⟩⟩)
end
end J
/-! The catalogue's checks. -/
namespace J
open PySem PySem.Spec PyProof.Rows L2
section
variable {P : Program} {w : World} {K : PySem.W.Frag} {mg : Str → Option Value} {base : Heap}
theorem hu65 {A : Around} {k : Nat} (hr : Room k A) : A.units + 65 < cLine := by have := hr.un; omega
theorem hu64 {A : Around} {k : Nat} (hr : Room k A) : A.units + 64 < cLine := by have := hr.un; omega
theorem spD_len {R : List PyData → PyData → Prop} {n : Nat} (h : ∀ ds d, R ds d → ds.length = n) : ∀ vs H Q E, spD R vs H Q E → vs.length = n := fun vs H Q E ⟨ds, d, r, z, _⟩ => by
  rw [r.length]; exact h ds d z
theorem rt_de {X : Cx} {e : Expr} {σ : L2.St} {H0 H : Hp} {d : PyData} {pos : Pos} {D : Ends} (s : Same H0 H) (h : DE X e σ H d) (q : ∀ v H', Same H0 H' → Rep H' d v → D.rt v H') : WS X (.Return (some e) pos) D σ H :=
  ws_ret (h.go (Same.refl H) fun v H2 s2 r2 => q v H2 (s.trans s2) r2)
abbrev Okn (X : Cx) (x : Str) : Prop := L2.Loc X.env.scope x ∧ (X.fn x = true ∨ X.env.scope.names.lookup x = some .local)
theorem Names2 {X : Cx} {t1 t2 : Str} {p1 p2 pos : Pos} {k : Nat} (i j : Nat) (hc : X.calm = true) (hN : X.N.Nodup) (h1 : X.N[i]? = some t1) (h2 : X.N[j]? = some t2) (l1 : Okn X t1) (l2 : Okn X t2) (hn : (assignEach [.Name t1 p1, .Name t2 p2] X.env).length = 2 := by rfl) (hst : (assignEach [.Name t1 p1, .Name t2 p2] X.env).findIdx? (·.1) = none := by rfl) :
    PG X (.Tuple [.Name t1 p1, .Name t2 p2] k pos) (gTup X.K 2 (gCons (gName i) (gCons (gName j) gNil))) :=
  pg_tup hc (pgs_cons (pg_name (i := i) hN h1 l1.1 l1.2) (pgs_cons (pg_name (i := j) hN h2 l2.1 l2.2) pgs_nil)) hn hst
theorem Names3 {X : Cx} {t1 t2 t3 : Str} {p1 p2 p3 pos : Pos} {k : Nat} (i j l : Nat) (hc : X.calm = true) (hN : X.N.Nodup) (h1 : X.N[i]? = some t1) (h2 : X.N[j]? = some t2) (h3 : X.N[l]? = some t3) (l1 : Okn X t1) (l2 : Okn X t2) (l3 : Okn X t3)
    (hn : (assignEach [.Name t1 p1, .Name t2 p2, .Name t3 p3] X.env).length = 3 := by rfl) (hst : (assignEach [.Name t1 p1, .Name t2 p2, .Name t3 p3] X.env).findIdx? (·.1) = none := by rfl) :
    PG X (.Tuple [.Name t1 p1, .Name t2 p2, .Name t3 p3] k pos) (gTup X.K 3 (gCons (gName i) (gCons (gName j) (gCons (gName l) gNil)))) :=
  pg_tup hc (pgs_cons (pg_name (i := i) hN h1 l1.1 l1.2) (pgs_cons (pg_name (i := j) hN h2 l2.1 l2.2) (pgs_cons (pg_name (i := l) hN h3 l3.1 l3.2) pgs_nil))) hn hst
section
variable {X : Cx} {e tg : Expr} {σ : L2.St} {H0 H : Hp} {d d1 d2 d3 : PyData} {pos : Pos} {D : Ends}
theorem ws_tup2 (i j : Nat) {t1 t2 : Str} {p1 p2 p3 : Pos} {k : Nat} (hN : X.N.Nodup) (h : DE X e σ H (.tuple [d1, d2])) (q : ∀ H1 x y, Same H H1 → Rep H1 d1 x → Rep H1 d2 y → D.nx ((σ.set i (some x)).set j (some y)) H1) (hc : X.calm = true := by rfl) (h1 : X.N[i]? = some t1 := by rfl) (h2 : X.N[j]? = some t2 := by rfl) (l1 : Okn X t1 := by first | exact ⟨.inl rfl, .inl rfl⟩ | exact ⟨.inl rfl, .inr rfl⟩ | exact ⟨.inr rfl, .inl rfl⟩ | exact ⟨.inr rfl, .inr rfl⟩) (l2 : Okn X t2 := by first | exact ⟨.inl rfl, .inl rfl⟩ | exact ⟨.inl rfl, .inr rfl⟩ | exact ⟨.inr rfl, .inl rfl⟩ | exact ⟨.inr rfl, .inr rfl⟩)
    (hn : (assignEach [.Name t1 p1, .Name t2 p2] X.env).length = 2 := by rfl) (hst : (assignEach [.Name t1 p1, .Name t2 p2] X.env).findIdx? (·.1) = none := by rfl)
    (hs : swapsWithSole [.Tuple [.Name t1 p1, .Name t2 p2] k p3] e pos.line X.env = pure false := by rfl) (hw : swappedStores [.Tuple [.Name t1 p1, .Name t2 p2] k p3] e X.env = pure none := by rfl) (ha : (assignEach [.Tuple [.Name t1 p1, .Name t2 p2] k p3] X.env).map (·.2) = [assign (.Tuple [.Name t1 p1, .Name t2 p2] k p3) X.env] := by rfl) :
    WS X (.Assign [.Tuple [.Name t1 p1, .Name t2 p2] k p3] e pos) D σ H :=
  ws_asg (Names2 i j hc hN h1 h2 l1 l2 hn hst) (h.go (Same.refl H) fun v H1 s1 r => takes_tup2 (R := fun σ2 => D.nx σ2 H1) r (fun x y r1 r2 => q H1 x y s1 r1 r2) _ fun _ z => z) hs hw ha
theorem ws_tup3 (i j l : Nat) {t1 t2 t3 : Str} {p1 p2 p3 p4 : Pos} {k : Nat} (hN : X.N.Nodup) (h : DE X e σ H (.tuple [d1, d2, d3])) (q : ∀ H1 x y z, Same H H1 → Rep H1 d1 x → Rep H1 d2 y → Rep H1 d3 z → D.nx (((σ.set i (some x)).set j (some y)).set l (some z)) H1) (hc : X.calm = true := by rfl) (h1 : X.N[i]? = some t1 := by rfl) (h2 : X.N[j]? = some t2 := by rfl) (h3 : X.N[l]? = some t3 := by rfl)
    (l1 : Okn X t1 := by first | exact ⟨.inl rfl, .inl rfl⟩ | exact ⟨.inl rfl, .inr rfl⟩ | exact ⟨.inr rfl, .inl rfl⟩ | exact ⟨.inr rfl, .inr rfl⟩) (l2 : Okn X t2 := by first | exact ⟨.inl rfl, .inl rfl⟩ | exact ⟨.inl rfl, .inr rfl⟩ | exact ⟨.inr rfl, .inl rfl⟩ | exact ⟨.inr rfl, .inr rfl⟩) (l3 : Okn X t3 := by first | exact ⟨.inl rfl, .inl rfl⟩ | exact ⟨.inl rfl, .inr rfl⟩ | exact ⟨.inr rfl, .inl rfl⟩ | exact ⟨.inr rfl, .inr rfl⟩)
    (hn : (assignEach [.Name t1 p1, .Name t2 p2, .Name t3 p3] X.env).length = 3 := by rfl) (hst : (assignEach [.Name t1 p1, .Name t2 p2, .Name t3 p3] X.env).findIdx? (·.1) = none := by rfl)
    (hs : swapsWithSole [.Tuple [.Name t1 p1, .Name t2 p2, .Name t3 p3] k p4] e pos.line X.env = pure false := by rfl) (hw : swappedStores [.Tuple [.Name t1 p1, .Name t2 p2, .Name t3 p3] k p4] e X.env = pure none := by rfl) (ha : (assignEach [.Tuple [.Name t1 p1, .Name t2 p2, .Name t3 p3] k p4] X.env).map (·.2) = [assign (.Tuple [.Name t1 p1, .Name t2 p2, .Name t3 p3] k p4) X.env] := by rfl) :
    WS X (.Assign [.Tuple [.Name t1 p1, .Name t2 p2, .Name t3 p3] k p4] e pos) D σ H :=
  ws_asg (Names3 i j l hc hN h1 h2 h3 l1 l2 l3 hn hst) (h.go (Same.refl H) fun v H1 s1 r => takes_tup3 (R := fun σ2 => D.nx σ2 H1) r (fun x y z r1 r2 r3 => q H1 x y z s1 r1 r2 r3) _ fun _ z => z) hs hw ha
/-- x = e -/
theorem ws_de (i : Nat) {x : Str} {p : Pos} (hN : X.N.Nodup) (h : DE X e σ H d) (q : ∀ v H1, Same H H1 → Rep H1 d v → D.nx (σ.set i (some v)) H1) (hi : X.N[i]? = some x := by rfl) (hx : Loc X.env.scope x := by first | exact Or.inl rfl | exact Or.inr rfl)
    (hs : swapsWith e (some (.Name x p)) pos.line X.env = pure false := by rfl) (hf : X.fn x = true ∨ X.env.scope.names.lookup x = some .local := by first | exact .inl rfl | exact .inr rfl) : WS X (.Assign [.Name x p] e pos) D σ H :=
  ws_set i hN (h.go (Same.refl H) fun v H1 s1 r => q v H1 s1 r) hi hx hs hf
/-- a call, by any promise -/
theorem ee_call {CX : CXT} {k : Nat} {f : Addr} {ps : List Str} {sp : Sp} {E : XK} {x : Str} {p : Pos} {a : Expr} {es : List Expr} {Pr : List V → Hp → Prop} {Pv : V → Hp → Prop} (O : OkF X.prog X.w X.K X.mg X.base CX k f ps sp) (hr : Room k X.A) (hm : X.mg x = some (.ref f)) (hx : Passes CX X E) (ha : AA X (a :: es) σ H Pr)
    (hsp : ∀ vs H2 Q, Same H H2 → Pr vs H2 → (∀ v H3, Same H2 H3 → Pv v H3 → Q v H3) → sp vs H2 Q E) (hg : Gl X x := by rfl) (hdb : (x == ("__debug__" : Str)) = false := by decide) (he : starEach (a :: es) X.env = (false, eval a X.env) :: starEach es X.env := by rfl) (hpl : (backTo pos (starEach es X.env)).any (·.1) = false := by rfl) : EE X (.Call (.Name x p) (a :: es) [] pos) σ H Pv :=
  fun H1 s => we_call O hr hm hx (ha.go s fun vs H2 s2 z => hsp vs H2 _ (s.trans s2) z fun v H3 s3 z3 => ⟨s2.trans s3, z3⟩) hg hdb he hpl
end
def isNameR (ds : List PyData) (d : PyData) : Prop := ∃ x ∈ okW, ds = [.str x] ∧ d = .bool true
theorem ok_is_name (T : Tx K mg) : OkF P w K mg base (L2.CX P w) 1 (He.fAd K ("is_name", none)) ["word"] (spD isNameR) := by
  refine mk_is_name T (spD_len fun ds d ⟨x, _, e, _⟩ => by subst e; rfl) (fun cdv A outer s H vs Q E hr ⟨ds, d, h, ⟨x, hx, e, e2⟩, q⟩ => ?_)
  subst e e2
  obtain ⟨v, e, r⟩ := h.onlyOne
  subst e
  obtain ⟨ch, a1, a2⟩ := okW_head x hx
  have hl := okW_len x hx
  refine wss_cons (ws_if (BT.go (bt_or3 (bt_cmp (ce_eqs (de_var 0 r) de_str)) (fun _ => bt_cmp (ce_gt (de_lens T.b_len (de_var 0 r) (szl (by omega))) (de_gint T.NAME_LIMIT))) fun _ _ => bt_cmp (ce_nsign (de_ixs (de_var 0 r) de_int (szl (by omega)) a1) (de_gstr T.LETTERS))) (Same.refl H) fun H1 s1 => ?_))
  rw [show (decide (x = "") || (decide ((20 : Int) < (x.length : Int)) || !decide (ch ∈ ("abcdefghijklmnopqrstuvwxyz" : Str).cps.toList))) = false by
    rw [decide_eq_false (okW_ne x hx), decide_eq_false (by omega), decide_eq_true a2]; rfl, if_neg (by decide)]
  refine wss_nil (wss_one (rt_de s1 (de_all (bs := x.cps.toList.map fun _ => true) rfl T.b_all (LE.lv (LE.is (le_mS n_is_name (defScope s_is_name) 1 (fun _ => .bool true) rfl sc_is_name.nd (de_var 0 (r.mono (.of s1))) (by show x.length < _; omega) fun y H2 hy s2 => ?_) (by rw [List.map_map]; rfl)))) fun v H' s' r' => q v H' s' (by rw [all_true] at r'; exact r')))
  intro s3 H3 C cl fp
  exact (de_cmp (ce_sign (de_var (d := .str ⟨#[y]⟩) 1 rfl) (de_gstr T.NAME_SIGNS))).is (by rw [decide_eq_true (okW_signs x hx y hy)])

def rightRowR (ds : List PyData) (d : PyData) : Prop := ∃ k r, GRow k r ∧ k ≤ 4 ∧ ds = [.int (k : Int), eRow r] ∧ d = .bool true
theorem ok_right_row (T : Tx K mg) : OkF P w K mg base (L2.CX P w) 1 (He.fAd K ("right_row", none)) ["columns", "row"] (spD rightRowR) := by
  refine mk_right_row T (spD_len fun ds d ⟨x, _, _, _, e, _⟩ => by subst e; rfl) (fun cdv A outer s H vs Q E hr ⟨ds, d, h, ⟨k, r, hg, hk, e, e2⟩, q⟩ => ?_)
  subst e e2
  obtain ⟨v, u, e, r1, r2⟩ := h.two
  subst e
  refine wss_one (rt_de (Same.refl H) (DE.is (de_and (de_cmp (ce_eq (de_len T.b_len (DE.qe (de_var 1 r2))) (de_var 0 r1))) fun _ => de_all (bs := r.map fun _ => true) rfl T.b_all (LE.lv (LE.is (le_mU n_right_row (defScope s_right_row) 2 r .int (fun _ => .bool true) rfl sc_right_row.nd (DE.ue (de_var 1 r2)) (by rw [hg.len]; omega) fun y v2 H2 hy s2 ry => ?_) (by rw [List.map_map]; rfl)))) (by rw [List.length_map, hg.len, all_true]; simp)) q)
  intro s3 H3 C cl fp
  refine DE.is (de_chain (de_neg (de_gint T.NUMBER_LIMIT)) (de_var 2 ry) (de_gint T.NUMBER_LIMIT)) ?_
  rcases hg.val y hy with e | e | e <;> subst e <;> rfl
def nxt {α : Type} (lt : α → α → Bool) (xs : List α) (i : Nat) : Bool := match xs[i]?, xs[i + 1]? with | some a, some b => lt a b | _, _ => false
theorem nxt_at {α : Type} {lt : α → α → Bool} {xs : List α} {i : Nat} {a b : α} (h1 : xs[i]? = some a) (h2 : xs[i + 1]? = some b) : nxt lt xs i = lt a b := by unfold nxt; rw [h1, h2]
def ascB {α : Type} (lt : α → α → Bool) (xs : List α) : Bool := ((List.range (xs.length - 1)).map fun i => nxt lt xs i).all id
theorem asc_pw {α : Type} {lt : α → α → Bool} {xs : List α} (h : xs.Pairwise fun a b => lt a b = true) : ascB lt xs = true := by
  unfold ascB
  rw [List.all_map, List.all_eq_true]
  intro i hi
  have hi := List.mem_range.mp hi
  have h1 : xs[i]? = some xs[i] := List.getElem?_eq_getElem (by omega)
  have h2 : xs[i + 1]? = some xs[i + 1] := List.getElem?_eq_getElem (by omega)
  show nxt lt xs i = true
  rw [nxt_at h1 h2]
  exact List.pairwise_iff_getElem.mp h i (i + 1) (by omega) (by omega) (by omega)
def ascRowsR (ds : List PyData) (d : PyData) : Prop := ∃ rs : List Row, SAsc rs ∧ rs.length ≤ 1000 ∧ ds = [eRows rs] ∧ d = .bool true
theorem ok_ascend (T : Tx K mg) : OkF P w K mg base (L2.CX P w) 1 (He.fAd K ("ascend", none)) ["items"] (spD ascRowsR) := by
  refine mk_ascend T (spD_len fun ds d ⟨x, _, _, e, _⟩ => by subst e; rfl) (fun cdv A outer s H vs Q E hr ⟨ds, d, h, ⟨rs, ha, hz, e, e2⟩, q⟩ => ?_)
  subst e e2
  obtain ⟨v, e, r⟩ := h.onlyOne
  subst e
  refine wss_one (rt_de (Same.refl H) (DE.is (de_all (bs := (List.range (rs.length - 1)).map fun i => nxt HT.lexLt rs i) rfl T.b_all (LE.lv (LE.is (le_mR2 n_ascend (defScope s_ascend) 1 1 (rs.length - 1) (fun i => .bool (nxt HT.lexLt rs i)) rfl sc_ascend.nd T.b_range (hi := (rs.length : Int)) de_int (DE.is (de_len T.b_len (DE.qe (de_var 0 r))) (by rw [List.length_map])) (by omega) (by omega) (by omega) fun i H2 hi s2 => ?_) (by rw [List.map_map]; rfl)))) (congrArg PyData.bool (asc_pw ha))) q)
  intro s3 H3 C cl fp
  have h1 : rs[i]? = some rs[i] := List.getElem?_eq_getElem (by omega)
  have h2 : rs[i + 1]? = some rs[i + 1] := List.getElem?_eq_getElem (by omega)
  rw [nxt_at h1 h2]
  exact de_cmp (ce_ltt hr.units0 (de_ix (DE.ue (de_var 0 (r.mono (.of s2)))) (de_sub (de_var (d := .int (1 + (i : Int))) 1 rfl) de_int) (by rw [show (1 + (i : Int)) - 1 = (i : Int) by omega]; exact atI_n (by rw [List.getElem?_map, h1]; rfl))) (de_ix (DE.ue (de_var 0 (r.mono (.of s2)))) (de_var (d := .int (1 + (i : Int))) 1 rfl) (by rw [show (1 + (i : Int)) = ((i + 1 : Nat) : Int) by omega]; exact atI_n (by rw [List.getElem?_map, h2]; rfl))))
theorem lc_lt : ∀ {x y : List Nat}, ltCps x y = true → x < y
  | [], [], h => by cases h
  | [], _ :: _, _ => List.nil_lt_cons _ _
  | _ :: _, [], h => by cases h
  | a :: x, b :: y, h => by
    have h : (decide (a < b) || (a == b && ltCps x y)) = true := h
    rw [List.cons_lt_cons_iff]
    rcases Bool.or_eq_true_iff.mp h with h | h
    · exact .inl (of_decide_eq_true h)
    · have h2 := Bool.and_eq_true_iff.mp h
      exact .inr ⟨beq_iff_eq.mp h2.1, lc_lt h2.2⟩
def ascNames (K : PySem.W.Frag) : Sp := fun vs H Q _ => ∃ (l : Addr) (xs : List V) (ns : List Str), vs = [.ref l] ∧ SqL K H l xs ∧ RepL H (ns.map PyData.str) xs ∧ ns.Pairwise (fun a b => slt a b = true) ∧ ns.length ≤ 1000 ∧ ∀ v H', Same H H' → v = .bl true → Q v H'
theorem ok_ascendS (T : Tx K mg) : OkF P w K mg base (L2.CX P w) 1 (He.fAd K ("ascend", none)) ["items"] (ascNames K) := by
  refine mk_ascend T (fun vs H Q E ⟨_, _, _, e, _⟩ => by subst e; rfl) (fun cdv A outer s H vs Q E hr ⟨l, xs, rs, e, t, r, ha, hz, q⟩ => ?_)
  subst e
  refine wss_one (rt_de (Same.refl H) (DE.is (de_all (bs := (List.range (rs.length - 1)).map fun i => nxt slt rs i) rfl T.b_all (LE.lv (LE.is (le_mR2 n_ascend (defScope s_ascend) 1 1 (rs.length - 1) (fun i => .bool (nxt slt rs i)) rfl sc_ascend.nd T.b_range (hi := (rs.length : Int)) de_int (DE.is (de_len T.b_len (LV.qe (ve_lv (ve_var 0) t r))) (by rw [List.length_map])) (by omega) (by omega) (by omega) fun i H2 hi s2 => ?_) (by rw [List.map_map]; rfl)))) (congrArg PyData.bool (asc_pw ha))) q)
  intro s3 H3 C cl fp
  have h1 : rs[i]? = some rs[i] := List.getElem?_eq_getElem (by omega)
  have h2 : rs[i + 1]? = some rs[i + 1] := List.getElem?_eq_getElem (by omega)
  rw [nxt_at h1 h2]
  refine DE.is (de_cmp (ce_lts (x := rs[i]) (y := rs[i + 1]) (de_ixl (ve_lv (ve_var 0) (s2.seq t) (r.mono (.of s2))) (de_sub (de_var (d := .int (1 + (i : Int))) 1 rfl) de_int) (by rw [show (1 + (i : Int)) - 1 = (i : Int) by omega]; exact atI_n (by rw [List.getElem?_map, h1]; rfl))) (de_ixl (ve_lv (ve_var 0) (s2.seq t) (r.mono (.of s2))) (de_var (d := .int (1 + (i : Int))) 1 rfl) (by rw [show (1 + (i : Int)) = ((i + 1 : Nat) : Int) by omega]; exact atI_n (by rw [List.getElem?_map, h2]; rfl))))) ?_
  have z : slt rs[i] rs[i + 1] = true := List.pairwise_iff_getElem.mp ha i (i + 1) (by omega) (by omega) (by omega)
  rw [z, decide_eq_true (lc_lt z)]
def rightTabR (ds : List PyData) (d : PyData) : Prop := ∃ m t, GTab m t ∧ t.name ∈ tabNames ∧ m ≤ 300 ∧ ds = [eTab t] ∧ d = .bool true
theorem ok_right_table (T : Tx K mg) : OkF P w K mg base (L2.CX P w) 2 (He.fAd K ("right_table", none)) ["table"] (spD rightTabR) := by
  refine mk_right_table T (spD_len fun ds d ⟨_, _, _, _, _, e, _⟩ => by subst e; rfl) (fun cdv A outer s H vs Q E hr ⟨ds, d, h, ⟨m, t, hg, hn, hm, e, e2⟩, q⟩ => ?_)
  subst e e2
  obtain ⟨v, e, r⟩ := h.onlyOne
  subst e
  have hf := hg.few
  refine wss_cons (ws_tup3 1 2 3 sc_right_table.nd (de_var 0 r) fun H1 x y z s1 rx ry rz => ?_)
  refine wss_cons (ws_if (BT.go (bt_or3 (bt_not (bt_val (de_call (ok_is_name T) hr T.gis_name passL (aa_cons (de_var 1 rx) aa_nil) ⟨t.name, ok_tab hn, rfl, rfl⟩))) (fun _ => bt_cmp (ce_lt (de_var 2 ry) de_int)) fun _ _ => bt_cmp (ce_gt (de_var 2 ry) (de_gint T.COLUMN_LIMIT))) (Same.refl H1) fun H2 s2 => ?_))
  have h1 := hg.lo
  have h2 := hg.hi
  rw [decide_eq_false (show ¬ (t.cols : Int) < 1 by omega), decide_eq_false (show ¬ (4 : Int) < (t.cols : Int) by omega), if_neg (by decide)]
  refine wss_nil (wss_one (rt_de (s1.trans s2) (DE.is (de_and (de_all (bs := t.rows.map fun _ => true) rfl T.b_all (LE.lv (LE.is (le_mU n_right_table (defScope s_right_table) 4 t.rows eRow (fun _ => .bool true) rfl sc_right_table.nd (DE.ue (de_var 3 (rz.mono (.of s2)))) (by omega) fun y2 v2 H3 hy s3 r3 => ?_) (by rw [List.map_map]; rfl)))) fun _ => de_call (ok_ascend T |>.mono (by decide)) hr T.gascend passL (aa_cons (de_var 3 (rz.mono (.of s2))) aa_nil) ⟨t.rows, hg.asc, by omega, rfl, rfl⟩) (by rw [all_true]; rfl)) q))
  intro s4 H4 C cl fp
  exact de_call (ok_right_row T) hr T.gright_row passL (aa_cons (de_var 2 ((ry.mono (.of s2)).mono (.of s3))) (aa_cons (de_var 4 r3) aa_nil)) ⟨t.cols, y2, hg.row y2 hy, h2, rfl, rfl⟩
def checkCatR (ds : List PyData) (d : PyData) : Prop := ∃ m c, GCat m c ∧ m ≤ 300 ∧ ds = [eCat c] ∧ d = .none
theorem ok_check_catalogue (T : Tx K mg) : OkF P w K mg base (L2.CX P w) 3 (He.fAd K ("check_catalogue", none)) ["catalogue"] (spD checkCatR) := by
  refine mk_check_catalogue T (spD_len fun ds d ⟨_, _, _, _, e, _⟩ => by subst e; rfl) (fun cdv A outer s H vs Q E hr ⟨ds, d, h, ⟨m, c, hg, hm, e, e2⟩, q⟩ => ?_)
  subst e e2
  obtain ⟨v, e, r⟩ := h.onlyOne
  subst e
  have hf := hg.few
  refine wss_cons (ws_if (BT.go (bt_or (bt_not (bt_val (de_all (bs := c.map fun _ => true) rfl T.b_all (LE.lv (LE.is (le_mU n_check_catalogue (defScope s_check_catalogue) 1 c eTab (fun _ => .bool true) rfl sc_check_catalogue.nd (DE.ue (de_var 0 r)) (by omega) fun y2 v2 H3 hy s3 r3 => ?_) (by rw [List.map_map]; rfl)))))) fun _ => bt_not (bt_val (k := true) (ee_call (ok_ascendS T |>.mono (by decide)) hr T.gascend passL (aa_one (LE.lv (ds := (c.map (·.name)).map .str) (LE.is (le_mU n_check_catalogue (defScope s_check_catalogue) 1 c eTab (fun t => .str t.name) rfl sc_check_catalogue.nd (DE.ue (de_var 0 r)) (by omega) fun y2 v2 H3 hy s3 r3 => ?_) (by rw [List.map_map]; rfl)))) ?_))) (Same.refl H) fun H2 s2 => ?_))
  · intro s4 H4 C cl fp
    exact de_call (ok_right_table T) hr T.gright_table passL (aa_cons (de_var 1 r3) aa_nil) ⟨m, y2, hg.tab y2 hy, hg.nm y2 hy, hm, rfl, rfl⟩
  · intro s4 H4 C cl fp
    exact de_ix (DE.ue (de_var 1 r3)) de_int rfl
  · intro vs H2 Q s2 ⟨v, e, a, xs, e2, t, rl⟩ hq
    subst e e2
    exact ⟨a, xs, _, rfl, t, rl, hg.asc, by rw [List.length_map]; omega, fun v H' s' e => hq v H' s' e⟩
  · rw [all_true, if_neg (by decide)]
    refine wss_nil (wss_one (ws_if (BT.go (bt_or (bt_cmp (ce_gt (de_len T.b_len (DE.qe (de_var 0 (r.mono (.of s2))))) (de_gint T.TABLE_LIMIT))) fun _ => bt_val (de_any (bs := c.map fun _ => false) rfl T.b_any (LE.lv (LE.is (le_mU n_check_catalogue (defScope s_check_catalogue) 1 c eTab (fun _ => .bool false) rfl sc_check_catalogue.nd (DE.ue (de_var 0 (r.mono (.of s2)))) (by omega) fun y2 v2 H3 hy s3 r3 => ?_) (by rw [List.map_map]; rfl))))) (Same.refl H2) fun H3 s3 => ?_)))
    · intro s4 H4 C cl fp
      have hf2 := (hg.tab y2 hy).few
      exact DE.is (de_cmp (ce_gt (de_len T.b_len (DE.qe (de_ix (DE.ue (de_var 1 r3)) de_int (d := eRows y2.rows) rfl))) (de_gint T.ROW_LIMIT))) (by rw [List.length_map, decide_eq_false (by omega)])
    · rw [List.length_map, decide_eq_false (by omega), List.any_map, show (c.any (id ∘ fun _ => false)) = false by simp, if_neg (by decide)]
      exact wss_nil (q _ _ (s2.trans s3) rfl)
end
end J
/-! The catalogue's tables by name; rows put in and taken out. -/
namespace J
open PySem PySem.Spec PyProof.Rows L2
def spX (K : PySem.W.Frag) (R : List PyData → Except Str PyData → Prop) : Sp := fun vs H Q E => ∃ ds z, RepL H ds vs ∧ R ds z ∧ match z with
  | .ok d => ∀ v H', Same H H' → Rep H' d v → Q v H'
  | .error c => ∀ H', Same H H' → E (.ref (He.ga K c)) none H'
def plc (c : Cat) (x : Str) : Option Nat := c.findIdx? fun t => decide (t.name = x)
theorem plc_some {c : Cat} {x : Str} {k : Nat} (h : plc c x = some k) : ∃ t, c[k]? = some t ∧ findT c x = some t ∧ t.name = x := by
  obtain ⟨hk, h1, h2⟩ := List.findIdx?_eq_some_iff_getElem.mp h
  refine ⟨c[k], List.getElem?_eq_getElem hk, ?_, of_decide_eq_true h1⟩
  exact List.find?_eq_some_iff_getElem.mpr ⟨h1, k, hk, rfl, fun j hj => by simpa using h2 j hj⟩
theorem plc_none {c : Cat} {x : Str} (h : plc c x = none) : findT c x = none := by
  have z := List.findIdx?_eq_none_iff.mp h
  exact List.find?_eq_none.mpr fun t ht => by rw [z t ht]; decide
section
variable {P : Program} {w : World} {K : PySem.W.Frag} {mg : Str → Option Value} {base : Heap}
theorem spX_len {R : List PyData → Except Str PyData → Prop} {n : Nat} (h : ∀ ds d, R ds d → ds.length = n) : ∀ vs H Q E, spX K R vs H Q E → vs.length = n := fun vs H Q E ⟨ds, d, r, z, _⟩ => by
  rw [r.length]; exact h ds d z
theorem de_callX {X : Cx} {k : Nat} {f : Addr} {ps : List Str} {x : Str} {p pos : Pos} {a : Expr} {es : List Expr} {σ : L2.St} {H : Hp} {R : List PyData → Except Str PyData → Prop} {ds : List PyData} {d : PyData} (O : OkF X.prog X.w X.K X.mg X.base (L2.CX X.prog X.w) k f ps (spX X.K R)) (hr : Room k X.A) (hm : X.mg x = some (.ref f)) (ha : AE X (a :: es) σ H ds) (h : R ds (.ok d)) (hg : Gl X x := by rfl) (hdb : (x == ("__debug__" : Str)) = false := by decide)
    (he : starEach (a :: es) X.env = (false, eval a X.env) :: starEach es X.env := by rfl) (hpl : (backTo pos (starEach es X.env)).any (·.1) = false := by rfl) : DE X (.Call (.Name x p) (a :: es) [] pos) σ H d :=
  ee_call O hr hm passL ha (fun vs H2 Q s2 r hq => ⟨ds, .ok d, r, h, hq⟩) hg hdb he hpl
def placeR (ds : List PyData) (d : PyData) : Prop := ∃ c x, c.length ≤ 1000 ∧ ds = [eCat c, .str x] ∧ d = .int (match plc c x with | some k => (k : Int) | none => -1)
theorem ok_place_of (T : Tx K mg) : OkF P w K mg base (L2.CX P w) 1 (He.fAd K ("place_of", none)) ["catalogue", "name"] (spD placeR) := by
  refine mk_place_of T (spD_len fun ds d ⟨_, _, _, e, _⟩ => by subst e; rfl) (fun cdv A outer s H vs Q E hr ⟨ds, d, h, ⟨c, x, hz, e, e2⟩, q⟩ => ?_)
  subst e e2
  obtain ⟨v, u, e, r1, r2⟩ := h.two
  subst e
  refine wss_cons (ws_forR (g := gName 2) (n := c.length) (passes_of rfl) rfl T.b_range ((DE.is (d2 := .int (c.length : Int)) (de_len T.b_len (DE.qe (de_var 0 r1))) (by rw [List.length_map])).go (Same.refl H) fun v1 H1 s1 e1 => ⟨e1, fun i σ' H' => (∃ o, σ' = [some v, some u, o]) ∧ Same H H' ∧ ∀ m, m < i → ∀ t, c[m]? = some t → t.name ≠ x, ⟨⟨none, rfl⟩, s1, fun m hm => absurd hm (Nat.not_lt_zero m)⟩, ?_, ?_⟩) (by omega) (pg_name sc_place_of.nd rfl (.inl rfl)))
  · rintro i σ' H' hi ⟨⟨o, e⟩, s2, hn⟩
    subst e
    have hc : c[i]? = some c[i] := List.getElem?_eq_getElem hi
    refine wss_one (ws_if (BT.go (bt_cmp (ce_eqs (de_ix (DE.ue (de_ix (d := eTab c[i]) (DE.ue (de_var 0 (r1.mono (.of s2)))) (de_var (d := .int (i : Int)) 2 rfl) (atI_n (by rw [List.getElem?_map, hc]; rfl)))) de_int rfl) (de_var 1 (r2.mono (.of s2))))) (Same.refl H') fun H3 s3 => ?_))
    by_cases he : c[i].name = x
    · rw [decide_eq_true he, if_pos rfl]
      refine wss_one (rt_de (s2.trans s3) (de_var (d := .int (i : Int)) 2 rfl) fun v' H4 s4 r4 => q v' H4 s4 ?_)
      have : plc c x = some i := List.findIdx?_eq_some_iff_getElem.mpr ⟨hi, decide_eq_true he, fun j hj => by
        simpa using hn j hj c[j] (List.getElem?_eq_getElem (by omega))⟩
      rw [this]
      exact r4
    · rw [decide_eq_false he, if_neg (by decide)]
      refine wss_nil ⟨⟨_, rfl⟩, s2.trans s3, fun m hm t ht => ?_⟩
      rcases Nat.lt_succ_iff_lt_or_eq.mp hm with h | h
      · exact hn m h t ht
      · rw [h, hc] at ht; cases ht; exact he
  · rintro σ' H' ⟨⟨o, e⟩, s2, hn⟩
    subst e
    refine wss_one (rt_de s2 (de_neg de_int) fun v' H4 s4 r4 => q v' H4 s4 ?_)
    have : plc c x = none := List.findIdx?_eq_none_iff.mpr fun t ht => by
      obtain ⟨m, hm, e⟩ := List.getElem_of_mem ht
      exact decide_eq_false (hn m hm t (by rw [List.getElem?_eq_getElem hm, e]))
    rw [this]
    exact r4
/-! an error let out -/
theorem tkE {N : List Str} {qual : Str} {sc : Scope} {f : Addr} {cdv : Value} {A : Around} {outer : List Env} {s : Shared} {H : Hp} {E : XK} : Takes (cxOf (L2.CX P w) P w K mg base N qual sc f cdv A outer s H E) (fun cls d _ H => E cls d H) := takes_of rfl rfl rfl rfl
theorem passE {N : List Str} {qual : Str} {sc : Scope} {f : Addr} {cdv : Value} {A : Around} {outer : List Env} {s : Shared} {H : Hp} {E : XK} : Passes (L2.CX P w) (cxOf (L2.CX P w) P w K mg base N qual sc f cdv A outer s H E) E := passes_call tkE fun _ _ _ _ h => h
theorem ws_raise {N : List Str} {qual : Str} {sc : Scope} {f : Addr} {cdv : Value} {A : Around} {outer : List Env} {s : Shared} {H0 H : Hp} {E : XK} {x m : Str} {j : Nat} {p p2 pos rp : Pos} {D : Ends} {σ : L2.St} (e : PySem.W.excIn K (He.ga K x) He.veBase "ValueError.__new__" = true ∧ PySem.W.keepIn K (.ref (He.ga K x)) = true ∧ PySem.W.subIn K (.ref (He.ga K x)) (.type "BaseException") = some true ∧ PySem.W.typeIn K (.ref (He.ga K x)) = some (.type "type"))
    (hm : mg x = some (.ref (He.ga K x))) (q : E (.ref (He.ga K x)) none H) (hg : Gl (cxOf (L2.CX P w) P w K mg base N qual sc f cdv A outer s H0 E) x := by rfl) (hdb : (x == ("__debug__" : Str)) = false := by decide) :
    WS (cxOf (L2.CX P w) P w K mg base N qual sc f cdv A outer s H0 E) (.Raise (some (.Call (.Name x p) [.Constant (.str m) j p2] [] pos)) none rp) D σ H :=
  ws_of (ps_raise rfl tkE (pmk_own PySem.F.excBase_ValueError e.1 hm e.2.1 (raises_own e.2.2.1 e.2.2.2) hg hdb)) q
/-- a def that may raise, called: both ends -/
theorem we_callX {X : Cx} {k : Nat} {f : Addr} {ps : List Str} {x : Str} {p pos : Pos} {a : Expr} {es : List Expr} {σ : L2.St} {H : Hp} {R : List PyData → Except Str PyData → Prop} {ds : List PyData} {z : Except Str PyData} {E : XK} {Q : VK} (O : OkF X.prog X.w X.K X.mg X.base (L2.CX X.prog X.w) k f ps (spX X.K R)) (hr : Room k X.A) (hm : X.mg x = some (.ref f)) (hx : Passes (L2.CX X.prog X.w) X E) (ha : AE X (a :: es) σ H ds) (h : R ds z)
    (q : match z with | .ok d => ∀ v H', Same H H' → Rep H' d v → Q v H' | .error c => ∀ H', Same H H' → E (.ref (He.ga X.K c)) none H') (hg : Gl X x := by rfl) (hdb : (x == ("__debug__" : Str)) = false := by decide)
    (he : starEach (a :: es) X.env = (false, eval a X.env) :: starEach es X.env := by rfl) (hpl : (backTo pos (starEach es X.env)).any (·.1) = false := by rfl) : WE X (.Call (.Name x p) (a :: es) [] pos) σ H Q :=
  we_call O hr hm hx (ha.go (Same.refl H) fun vs H2 s2 r => ⟨ds, z, r, h, by
    cases z with
    | ok d => exact fun v H' s' r' => q v H' (s2.trans s') r'
    | error c => exact fun H' s' => q H' (s2.trans s')⟩) hg hdb he hpl
section
variable {X : Cx} {a b : Expr} {σ : L2.St} {H : Hp} {pos p2 : Pos} {lo hi : Option Expr} {l u : Option Int} {Q : VK}
theorem we_sliceN (h : WE X a σ H fun _ _ => False) (h1 : OE X lo σ H l) (h2 : OE X hi σ H u) : WE X (.Subscript a (.Slice lo hi none p2) pos) σ H Q := by
  obtain ⟨t1, p1, k1⟩ := h1
  obtain ⟨t2, p2, k2⟩ := h2
  exact we_of (pe_slice sl_tupA pe_we p1 p2) (h.mono fun _ _ z => z.elim)
theorem we_ixN (h : WE X a σ H fun _ _ => False) (hs : PlainIx b := by intro _ _; rfl) : WE X (.Subscript a b pos) σ H Q :=
  we_of (pe_ix (b := b) ix_tup pe_we pe_we hs) (h.mono fun _ _ z => z.elim)
end
def tableR (ds : List PyData) (z : Except Str PyData) : Prop := ∃ c x, c.length ≤ 1000 ∧ ds = [eCat c, .str x] ∧ z = (match findT c x with | some t => .ok (eTab t) | none => .error "UnknownTable")
theorem ok_table_at (T : Tx K mg) : OkF P w K mg base (L2.CX P w) 2 (He.fAd K ("table_at", none)) ["catalogue", "name"] (spX K tableR) := by
  refine mk_table_at T (spX_len fun ds d ⟨_, _, _, e, _⟩ => by subst e; rfl) (fun cdv A outer s H vs Q E hr ⟨ds, d, h, ⟨c, x, hz, e, e2⟩, q⟩ => ?_)
  subst e e2
  obtain ⟨v, u, e, r1, r2⟩ := h.two
  subst e
  refine wss_cons (ws_de 2 sc_table_at.nd (de_call (ok_place_of T) hr T.gplace_of passL (aa_cons (de_var 0 r1) (aa_cons (de_var 1 r2) aa_nil)) ⟨c, x, hz, rfl, rfl⟩) fun y H1 s1 ry => ?_)
  refine wss_cons (ws_if (BT.go (bt_cmp (ce_lt (de_var 2 ry) de_int)) (Same.refl H1) fun H2 s2 => ?_))
  cases hp : plc c x with
  | none =>
    rw [plc_none hp] at q
    rw [if_pos (by decide)]
    exact wss_one (ws_raise T.ex_UnknownTable T.gUnknownTable (q H2 (s1.trans s2)))
  | some k =>
    rw [hp] at ry
    obtain ⟨t, h1, h2, h3⟩ := plc_some hp
    rw [h2] at q
    have ry : Rep H1 (.int (k : Int)) y := ry
    rw [if_neg (by show ¬ decide ((k : Int) < 0) = true; rw [decide_eq_false (by omega)]; decide)]
    exact wss_nil (wss_one (rt_de (s1.trans s2) (de_ix (DE.ue (de_var 0 ((r1.mono (.of s1)).mono (.of s2)))) (de_var 2 (ry.mono (.of s2))) (atI_n (by rw [List.getElem?_map, h1]; rfl))) q))
def withRows (c : Cat) (x : Str) (rs : List Row) : Cat := c.map fun t => if t.name = x then { t with rows := rs } else t
theorem withRows_at : ∀ {c : Cat} {x : Str} {rs : List Row} {k : Nat} {t : Tab}, (c.map (·.name)).Nodup → c[k]? = some t → t.name = x → withRows c x rs = c.take k ++ ({ t with rows := rs } :: c.drop (k + 1))
  | [], _, _, _, _, _, h, _ => by cases h
  | a :: c, x, rs, 0, t, hn, h, e => by
    cases h
    have h1 : ∀ b ∈ c, b.name ≠ x := fun b hb e2 => (List.nodup_cons.mp hn).1 (by show a.name ∈ _; rw [e, ← e2]; exact List.mem_map.mpr ⟨b, hb, rfl⟩)
    show (if a.name = x then _ else a) :: withRows c x rs = _
    rw [if_pos e]
    congr 1
    unfold withRows
    exact (List.map_congr_left (g := id) fun b hb => if_neg (h1 b hb)).trans (List.map_id _)
  | a :: c, x, rs, k + 1, t, hn, h, e => by
    have h : c[k]? = some t := h
    have h1 : a.name ≠ x := fun e2 => (List.nodup_cons.mp hn).1 (by show a.name ∈ _; rw [e2, ← e]; exact List.mem_map.mpr ⟨t, List.mem_of_getElem? h, rfl⟩)
    show (if a.name = x then _ else a) :: withRows c x rs = _
    rw [if_neg h1, withRows_at (List.nodup_cons.mp hn).2 h e]
    rfl
theorem vst_tab {c : Cat} : vst (c.map eTab) = false := by
  cases c with
  | nil => rfl
  | cons t c => rfl
def withRowsR (ds : List PyData) (d : PyData) : Prop := ∃ c x rs t, findT c x = some t ∧ (c.map (·.name)).Nodup ∧ c.length ≤ 1000 ∧ ds = [eCat c, .str x, eRows rs] ∧ d = eCat (withRows c x rs)
theorem ok_with_rows (T : Tx K mg) : OkF P w K mg base (L2.CX P w) 2 (He.fAd K ("with_rows", none)) ["catalogue", "name", "rows"] (spD withRowsR) := by
  refine mk_with_rows T (spD_len fun ds d ⟨_, _, _, _, _, _, _, e, _⟩ => by subst e; rfl) (fun cdv A outer s H vs Q E hr ⟨ds, d, h, ⟨c, x, rs, t, hf, hn, hz, e, e2⟩, q⟩ => ?_)
  subst e e2
  obtain ⟨v, u, y, e, r1, r2, r3⟩ := h.three
  subst e
  refine wss_cons (ws_de 3 sc_with_rows.nd (de_call (ok_place_of T) hr T.gplace_of passL (aa_cons (de_var 0 r1) (aa_cons (de_var 1 r2) aa_nil)) ⟨c, x, hz, rfl, rfl⟩) fun z H1 s1 rz => ?_)
  cases hp : plc c x with
  | none => rw [plc_none hp] at hf; cases hf
  | some k =>
    rw [hp] at rz
    obtain ⟨t2, h1, h2, h3⟩ := plc_some hp
    have hk : k < c.length := (List.getElem?_eq_some_iff.mp h1).1
    have rz : Rep H1 (.int (k : Int)) z := rz
    subst h3
    have q1 := r1.mono (.of s1)
    refine wss_one (rt_de s1 (DE.is (de_addt (ds := (c.take k).map eTab ++ [eTab { t2 with rows := rs }]) (ds2 := (c.drop (k + 1)).map eTab) (de_addt (de_slice (ds2 := (c.take k).map eTab) (de_var 0 q1) oe_none (oe_some (de_var 3 rz)) (by rw [cut_to (by rw [List.length_map]; omega), List.map_take]) fun _ => vst_tab) (de_tup (aa_cons (de_tup (aa_cons (de_var 1 (r2.mono (.of s1))) (aa_cons (de_ix (DE.ue (de_ix (DE.ue (de_var 0 q1)) (de_var 3 rz) (atI_n (by rw [List.getElem?_map, h1]; rfl)) (d := eTab t2))) de_int (d := .int (t2.cols : Int)) rfl) (aa_cons (de_var 2 (r3.mono (.of s1))) aa_nil))) rfl (by show 3 ≤ 100000; decide)) aa_nil) rfl (by show 1 ≤ 100000; decide)) (szl (by rw [List.length_map, List.length_take]; show _ + 1 ≤ _; omega)) fun _ _ => ?_) (de_slice (ds2 := (c.drop (k + 1)).map eTab) (de_var 0 q1) (oe_some (de_add (de_var 3 rz) de_int)) oe_none (by rw [show (k : Int) + 1 = ((k + 1 : Nat) : Int) by omega, cut_from (by rw [List.length_map]; omega), List.map_drop]) fun _ => vst_tab) (szl (by rw [List.length_append, List.length_map, List.length_map, List.length_take, List.length_drop]; show _ + 1 + _ ≤ _; omega)) fun _ _ => ?_) ?_) q)
    · rw [show (c.take k).map eTab ++ [eTab { t2 with rows := rs }] = (c.take k ++ [{ t2 with rows := rs }]).map eTab by rw [List.map_append]; rfl]; exact vst_tab
    · rw [show (c.take k).map eTab ++ [eTab { t2 with rows := rs }] ++ (c.drop (k + 1)).map eTab = (c.take k ++ [{ t2 with rows := rs }] ++ c.drop (k + 1)).map eTab by rw [List.map_append, List.map_append]; rfl]; exact vst_tab
    · unfold eCat
      rw [withRows_at hn h1 rfl, List.map_append, List.map_cons, List.append_assoc]
      rfl
theorem vst_row {rs : List Row} : vst (rs.map eRow) = false := by
  cases rs with
  | nil => rfl
  | cons t c => rfl
theorem vst_ints {ns : List Int} : vst (ns.map .int) = false := by
  cases ns with
  | nil => rfl
  | cons t c => rfl
theorem findT_mem {c : Cat} {x : Str} {t : Tab} (h : findT c x = some t) : t ∈ c ∧ t.name = x := ⟨List.mem_of_find?_eq_some h, by have z := List.find?_some (show c.find? _ = some t from h); simpa using z⟩
theorem bd3 {r : Row} {k : Nat} (h : GRow k r) : TS.Bd 3 r := fun n hn => by
  rcases h.val n hn with e | e | e <;> subst e <;> decide
def withRowR (ds : List PyData) (z : Except Str PyData) : Prop := ∃ m c x r, GCat m c ∧ m < 60 ∧ (∀ t, findT c x = some t → GRow t.cols r) ∧ ds = [eCat c, .str x, eRow r] ∧
  z = (match findT c x with | none => .error "UnknownTable" | some t => if r ∈ t.rows then .error "RowError" else .ok (eCat (withRows c x (srt (t.rows ++ [r])))))
theorem ok_with_row (T : Tx K mg) : OkF P w K mg base (L2.CX P w) 4 (He.fAd K ("with_row", none)) ["catalogue", "name", "row"] (spX K withRowR) := by
  refine mk_with_row T (spX_len fun ds d ⟨_, _, _, _, _, _, _, e, _⟩ => by subst e; rfl) (fun cdv A outer s H vs Q E hr ⟨ds, d, h, ⟨m, c, x, r, hg, hm, hrow, e, e2⟩, q⟩ => ?_)
  subst e e2
  obtain ⟨v, u, y, e, r1, r2, r3⟩ := h.three
  subst e
  have hz := hg.few
  refine wss_cons (ws_expr ((de_call (ok_check_catalogue T) hr T.gcheck_catalogue passL (aa_cons (de_var 0 r1) aa_nil) ⟨m, c, hg, by omega, rfl, rfl⟩).go (Same.refl H) fun _ H1 s1 _ => ?_))
  have q1 := r1.mono (.of s1)
  have q2 := r2.mono (.of s1)
  have q3 := r3.mono (.of s1)
  cases hf : findT c x with
  | none =>
    rw [hf] at q
    exact wss_cons (ws_asg (Names2 3 4 rfl sc_with_row.nd rfl rfl ⟨.inl rfl, .inl rfl⟩ ⟨.inl rfl, .inl rfl⟩) (we_sliceN (we_callX (ok_table_at T |>.mono (by decide)) hr T.gtable_at passE (aa_cons (de_var 0 q1) (aa_cons (de_var 1 q2) aa_nil)) ⟨c, x, by omega, rfl, by rw [hf]⟩ fun H' s' => q H' (s1.trans s')) (oe_some (de_int (i := 1))) oe_none))
  | some t =>
    rw [hf] at q
    obtain ⟨ht, hn⟩ := findT_mem hf
    have gt := hg.tab t ht
    have hfew := gt.few
    have gr := hrow t hf
    refine wss_cons (ws_tup2 (d1 := .int (t.cols : Int)) (d2 := eRows t.rows) 3 4 sc_with_row.nd (de_slice (de_callX (d := eTab t) (ok_table_at T |>.mono (by decide)) hr T.gtable_at (aa_cons (de_var 0 q1) (aa_cons (de_var 1 q2) aa_nil)) ⟨c, x, by omega, rfl, by rw [hf]⟩) (oe_some (de_int (i := 1))) oe_none rfl fun _ => rfl) fun H2 a b s2 ra rb => ?_)
    have p1 := q1.mono (.of s2)
    have p2 := q2.mono (.of s2)
    have p3 := q3.mono (.of s2)
    refine wss_cons (ws_if (BT.go (bt_or (bt_not (bt_val (de_call (ok_right_row T |>.mono (by decide)) hr T.gright_row passL (aa_cons (de_var 3 ra) (aa_cons (de_var 2 p3) aa_nil)) ⟨t.cols, r, gr, gt.hi, rfl, rfl⟩))) fun _ => bt_cmp (ce_inR (hu65 hr) (de_var 2 p3) (DE.ue (de_var 4 rb)))) (Same.refl H2) fun H3 s3 => ?_))
    by_cases hin : r ∈ t.rows
    · simp only [if_pos hin] at q
      rw [decide_eq_true hin, if_pos (by decide)]
      exact wss_one (ws_raise T.ex_RowError T.gRowError (q H3 ((s1.trans s2).trans s3)))
    · simp only [if_neg hin] at q
      rw [decide_eq_false hin, if_neg (by decide)]
      have ra := ra.mono (.of s3)
      have rb := rb.mono (.of s3)
      refine wss_nil (wss_cons (ws_if (BT.go (bt_cmp (ce_ge (DE.is (d2 := .int (t.rows.length : Int)) (de_len T.b_len (DE.qe (de_var 4 rb))) (by rw [List.length_map])) (de_gint T.ROW_LIMIT))) (Same.refl H3) fun H4 s4 => ?_)))
      rw [decide_eq_false (by omega), if_neg (by decide)]
      have p1 := (p1.mono (.of s3)).mono (.of s4)
      have p2 := (p2.mono (.of s3)).mono (.of s4)
      have p3 := (p3.mono (.of s3)).mono (.of s4)
      have rb := rb.mono (.of s4)
      refine wss_nil (wss_one (rt_de (((s1.trans s2).trans s3).trans s4) (de_call (ok_with_rows T |>.mono (by decide)) hr T.gwith_rows passL (aa_cons (de_var 0 p1) (aa_cons (de_var 1 p2) (aa_cons (de_tuple T.b_tuple (LE.lv (le_srt (rs := t.rows ++ [r]) (d := t.cols) (B := 3) T.b_sorted (DE.qe (DE.is (de_addt (de_var 4 rb) (de_tup (aa_cons (de_var 2 p3) aa_nil) rfl (by show 1 ≤ 100000; decide)) (szl (by rw [List.length_map]; show _ + 1 ≤ _; omega)) fun _ _ => ?_) ?_)) (by rw [List.length_append]; show _ + 1 < _; omega) (fun _ => gt.lo) fun z hz => ?_))) aa_nil))) ⟨c, x, _, t, hf, names_slt hg.asc, by omega, rfl, rfl⟩) q))
      · rw [show t.rows.map eRow ++ [eRow r] = (t.rows ++ [r]).map eRow by rw [List.map_append]; rfl]; exact vst_row
      · rw [show t.rows.map eRow ++ [eRow r] = (t.rows ++ [r]).map eRow by rw [List.map_append]; rfl]
      · have g : GRow t.cols z := by
          rcases List.mem_append.mp hz with h | h
          · exact gt.row z h
          · rw [List.mem_singleton.mp h]; exact gr
        exact ⟨g.len, bd3 g⟩
def withoutRowR (ds : List PyData) (z : Except Str PyData) : Prop := ∃ m c x r, GCat m c ∧ m ≤ 60 ∧ ds = [eCat c, .str x, eRow r] ∧
  z = (match findT c x with | none => .error "UnknownTable" | some t => if r ∈ t.rows then .ok (eCat (withRows c x (t.rows.filter fun o => !decide (o = r)))) else .error "RowError")
theorem ok_without_row (T : Tx K mg) : OkF P w K mg base (L2.CX P w) 4 (He.fAd K ("without_row", none)) ["catalogue", "name", "row"] (spX K withoutRowR) := by
  refine mk_without_row T (spX_len fun ds d ⟨_, _, _, _, _, _, e, _⟩ => by subst e; rfl) (fun cdv A outer s H vs Q E hr ⟨ds, d, h, ⟨m, c, x, r, hg, hm, e, e2⟩, q⟩ => ?_)
  subst e e2
  obtain ⟨v, u, y, e, r1, r2, r3⟩ := h.three
  subst e
  have hz := hg.few
  refine wss_cons (ws_expr ((de_call (ok_check_catalogue T) hr T.gcheck_catalogue passL (aa_cons (de_var 0 r1) aa_nil) ⟨m, c, hg, by omega, rfl, rfl⟩).go (Same.refl H) fun _ H1 s1 _ => ?_))
  have q1 := r1.mono (.of s1)
  have q2 := r2.mono (.of s1)
  have q3 := r3.mono (.of s1)
  cases hf : findT c x with
  | none =>
    rw [hf] at q
    exact wss_cons (ws_set 3 sc_without_row.nd (we_ixN (we_callX (ok_table_at T |>.mono (by decide)) hr T.gtable_at passE (aa_cons (de_var 0 q1) (aa_cons (de_var 1 q2) aa_nil)) ⟨c, x, by omega, rfl, by rw [hf]⟩ fun H' s' => q H' (s1.trans s'))))
  | some t =>
    rw [hf] at q
    obtain ⟨ht, hn⟩ := findT_mem hf
    have gt := hg.tab t ht
    have hfew := gt.few
    refine wss_cons (ws_de (d := eRows t.rows) 3 sc_without_row.nd (de_ix (DE.ue (de_callX (d := eTab t) (ok_table_at T |>.mono (by decide)) hr T.gtable_at (aa_cons (de_var 0 q1) (aa_cons (de_var 1 q2) aa_nil)) ⟨c, x, by omega, rfl, by rw [hf]⟩)) de_int rfl) fun b H2 s2 rb => ?_)
    have p1 := q1.mono (.of s2)
    have p2 := q2.mono (.of s2)
    have p3 := q3.mono (.of s2)
    refine wss_cons (ws_if (BT.go (bt_cmp (ce_ninR (hu65 hr) (de_var 2 p3) (DE.ue (de_var 3 rb)))) (Same.refl H2) fun H3 s3 => ?_))
    by_cases hin : r ∈ t.rows
    · simp only [if_pos hin] at q
      rw [decide_eq_true hin, if_neg (by decide)]
      have p1 := p1.mono (.of s3)
      have p2 := p2.mono (.of s3)
      have p3 := p3.mono (.of s3)
      have rb := rb.mono (.of s3)
      refine wss_nil (wss_one (rt_de ((s1.trans s2).trans s3) (de_call (ok_with_rows T |>.mono (by decide)) hr T.gwith_rows passL (aa_cons (de_var 0 p1) (aa_cons (de_var 1 p2) (aa_cons (de_tuple T.b_tuple (LE.lv (le_cU n_without_row (defScope s_without_row) 4 t.rows eRow (fun o => !decide (o = r)) eRow rfl sc_without_row.nd (DE.ue (de_var 3 rb)) (by omega) fun y2 v2 H4 hy s4 r4 => ?_))) aa_nil))) ⟨c, x, _, t, hf, names_slt hg.asc, by omega, rfl, rfl⟩) q))
      intro s5 H5 C cl fp
      refine ⟨BT.is (bt_cmp (ce_ned (hu64 hr) (de_var 4 r4) (de_var 2 (p3.mono (.of s4))) (shp_row 0 y2).shaped (shp_row 0 r).shaped)) (by rw [eqv_row]), fun _ => de_var 4 r4⟩
    · simp only [if_neg hin] at q
      rw [decide_eq_false hin, if_pos (by decide)]
      exact wss_one (ws_raise T.ex_RowError T.gRowError (q H3 ((s1.trans s2).trans s3)))
end
end J
/-! Lists that grow, dicts, instances: short rules. -/
namespace J
open PySem PySem.Spec PyProof.Rows L2
theorem rd_same {H H' : Hp} {a : Addr} {u : HO} (s : Same H H') (h : Rd H a u) : Rd H' a u := h.elim (fun h => .inl (s _ _ h)) fun ⟨o, h⟩ => .inr ⟨o, s _ _ h⟩
section
variable {X : Cx} {o i e f value : Expr} {es : List Expr} {σ : L2.St} {H : Hp} {pos apos tpos cpos : Pos} {a l : Addr} {xs : List V} {kvs : List (Key × V)} {kvT : List (List Key × V)} {k : Key} {r : Row} {v z : V} {P : V → Hp → Prop} {D : Ends} {Q : VK} {d : PyData} {x : Str}
theorem ve_str (h : DE X i σ H (.str x)) : VE X i σ H (kV (.inr x)) := h.imp fun _ _ _ r => r
theorem ve_int {n : Int} (h : DE X i σ H (.int n)) : VE X i σ H (kV (.inl n)) := h.imp fun _ _ _ r => r
theorem ve_n {n : Int} (h : DE X i σ H (.int n)) : VE X i σ H (.int n) := h.imp fun _ _ _ r => r
theorem de_n {n : Int} (h : VE X i σ H (.int n)) : DE X i σ H (.int n) := h.imp fun _ _ _ r => r
theorem keyT {H : Hp} {b : Addr} (h : H b = some (.tup (r.map V.int))) : H b = some (.tup ((r.map (Sum.inl (β := Str))).map kV)) := by rw [inl_kV]; exact h
/-- xs.append(e) -/
theorem ws_app (ho : VE X o σ H (.ref l)) (hl : H l = some (.lst xs)) (hz : xs.length < 100000) (he : EE X e σ H P) (q : ∀ v H1, Same H H1 → P v H1 → D.nx σ (upd H1 l (.lst (xs ++ [v]))))
    (hbase : attributeBase o "append" X.env (eval o X.env) = eval o X.env := by rfl)
    (hfew : ((backTo cpos (starEach [e] X.env)).all (fun x => !x.1) && (backToKw cpos (keywordEach [] X.env)).all (fun x => x.1.isSome) && decide ([e].length + ([] : List Keyword).length + (if ([] : List Keyword).isEmpty then 0 else 1) < 30)) = true := by rfl)
    (hline : (apos.endLine == cpos.line) = true := by rfl) (hs : starEach [e] X.env = (false, eval e X.env) :: starEach [] X.env := by rfl) (hplain : (backTo cpos (starEach [] X.env)).any (·.1) = false := by rfl)
    (hw : swapsWith (.Call (.Attribute o "append" apos) [e] [] cpos) none pos.line X.env = pure false := by rfl) : WS X (.Expr (.Call (.Attribute o "append" apos) [e] [] cpos) pos) D σ H :=
  ws_expr (we_of (pe_bm PySem.F.plainAttrs_list PySem.F.slot_list_append PySem.F.type_list_append mt_append pe_we pa_we hbase hfew hline hs hplain) (ho.go (Same.refl H) fun x H1 s1 ex => by
    subst ex
    exact ⟨.inl ⟨rfl, _, SqL.of (s1 _ _ hl)⟩, (aa_one he hs).go s1 fun vs H2 s2 ⟨y, e1, p⟩ => by
      subst e1
      exact ⟨l, xs, y, rfl, rfl, s2 _ _ (s1 _ _ hl), szlt hz, q y H2 (s1.trans s2) p⟩⟩)) hw
/-! dicts -/
theorem ve_dgetK (hu : X.A.units + 1 < cLine) (ho : VE X o σ H (.ref a)) (hd : Rd H a (.dK kvs)) (hi : VE X i σ H (kV k)) (hv : valV kvs k = some v) (hs : NoSl i := by intro _ _; rfl) : VE X (.Subscript o i pos) σ H v := fun H1 s =>
  we_of (pe_dget hu pe_we pe_we hs) (ho.go s fun x H2 s2 ex => hi.go (s.trans s2) fun y H3 s3 ey => by
    subst ex ey
    exact ⟨a, v, rfl, .inl ⟨kvs, k, rd_same ((s.trans s2).trans s3) hd, rfl, hv.symm⟩, s2.trans s3, rfl⟩)
theorem ve_dgetT (hu : X.A.units + 1 < cLine) (ho : VE X o σ H (.ref a)) (hd : Rd H a (.dT kvT)) (hi : DE X i σ H (eRow r)) (hv : valV kvT (r.map Sum.inl) = some v) (hs : NoSl i := by intro _ _; rfl) : VE X (.Subscript o i pos) σ H v := fun H1 s =>
  we_of (pe_dget hu pe_we pe_we hs) (ho.go s fun x H2 s2 ex => hi.go (s.trans s2) fun y H3 s3 ry => by
    obtain ⟨b, ey, hb⟩ := ry.tupI
    subst ex ey
    exact ⟨a, v, rfl, .inr ⟨kvT, _, b, rd_same ((s.trans s2).trans s3) hd, rfl, keyT hb, hv.symm⟩, s2.trans s3, rfl⟩)
theorem ve_dget2K (hu : X.A.units + 1 < cLine) (ho : VE X o σ H (.ref a)) (hd : Rd H a (.dK kvs)) (hi : VE X i σ H (kV k)) (hf : VE X f σ H z) (m : M2 X o "get" apos i f cpos) : VE X (.Call (.Attribute o "get" apos) [i, f] [] cpos) σ H ((valV kvs k).getD z) := fun H1 s =>
  we_of (pe_dget2 hu pe_we pe_we pe_we m) (ho.go s fun x H2 s2 ex => by
    subst ex
    exact ⟨a, rfl, .inl ⟨kvs, rd_same (s.trans s2) hd⟩, hi.go (s.trans s2) fun y H3 s3 ey => hf.go ((s.trans s2).trans s3) fun y2 H4 s4 ez => by
      subst ey ez
      exact ⟨_, .inl ⟨kvs, k, rd_same (((s.trans s2).trans s3).trans s4) hd, rfl, rfl⟩, (s2.trans s3).trans s4, rfl⟩⟩)
theorem ve_dget2T (hu : X.A.units + 1 < cLine) (ho : VE X o σ H (.ref a)) (hd : Rd H a (.dT kvT)) (hi : DE X i σ H (eRow r)) (hf : VE X f σ H z) (m : M2 X o "get" apos i f cpos) : VE X (.Call (.Attribute o "get" apos) [i, f] [] cpos) σ H ((valV kvT (r.map Sum.inl)).getD z) := fun H1 s =>
  we_of (pe_dget2 hu pe_we pe_we pe_we m) (ho.go s fun x H2 s2 ex => by
    subst ex
    exact ⟨a, rfl, .inr ⟨kvT, rd_same (s.trans s2) hd⟩, hi.go (s.trans s2) fun y H3 s3 ry => hf.go ((s.trans s2).trans s3) fun y2 H4 s4 ez => by
      obtain ⟨b, ey, hb⟩ := ry.tupI
      subst ey ez
      exact ⟨_, .inr ⟨kvT, _, b, rd_same (((s.trans s2).trans s3).trans s4) hd, rfl, keyT (s4 _ _ hb), rfl⟩, (s2.trans s3).trans s4, rfl⟩⟩)
theorem ce_dinK (hu : X.A.units + 1 < cLine) (hi : VE X i σ H (kV k)) (ho : VE X o σ H (.ref a)) (hd : Rd H a (.dK kvs)) : CE X .In i o σ H (valV kvs k).isSome := fun H1 s =>
  wc_of (pc_din hu pe_we pe_we) (hi.go s fun y H2 s2 ey => ho.go (s.trans s2) fun x H3 s3 ex => by
    subst ex ey
    exact ⟨a, _, rfl, .inl ⟨kvs, k, rd_same ((s.trans s2).trans s3) hd, rfl, rfl⟩, s2.trans s3, rfl⟩)
theorem ce_dninK (hu : X.A.units + 1 < cLine) (hi : VE X i σ H (kV k)) (ho : VE X o σ H (.ref a)) (hd : Rd H a (.dK kvs)) : CE X .NotIn i o σ H (!(valV kvs k).isSome) := fun H1 s =>
  wc_of (pc_dnotin hu pe_we pe_we) (hi.go s fun y H2 s2 ey => ho.go (s.trans s2) fun x H3 s3 ex => by
    subst ex ey
    exact ⟨a, _, rfl, .inl ⟨kvs, k, rd_same ((s.trans s2).trans s3) hd, rfl, rfl⟩, s2.trans s3, rfl⟩)
theorem ce_dninT (hu : X.A.units + 1 < cLine) (hi : DE X i σ H (eRow r)) (ho : VE X o σ H (.ref a)) (hd : Rd H a (.dT kvT)) : CE X .NotIn i o σ H (!(valV kvT (r.map Sum.inl)).isSome) := fun H1 s =>
  wc_of (pc_dnotin hu pe_we pe_we) (hi.go s fun y H2 s2 ry => ho.go (s.trans s2) fun x H3 s3 ex => by
    obtain ⟨b, ey, hb⟩ := ry.tupI
    subst ex ey
    exact ⟨a, _, rfl, .inr ⟨kvT, _, b, rd_same ((s.trans s2).trans s3) hd, rfl, keyT (s3 _ _ hb), rfl⟩, s2.trans s3, rfl⟩)
theorem ws_dputK (hu : X.A.units + 1 < cLine) (mp : Mono P) (hv : EE X value σ H P) (ho : VE X o σ H (.ref a)) (hd : H a = some (.dK kvs)) (hi : VE X i σ H (kV k)) (hz : kvs.length < 100000) (q : ∀ v H1, Same H H1 → P v H1 → D.nx σ (upd H1 a (.dK (putK kvs k v)))) (hs : swapsWith value (some (.Subscript o i tpos)) pos.line X.env = pure false := by rfl) :
    WS X (.Assign [.Subscript o i tpos] value pos) D σ H :=
  ws_of (ps_dput hu pe_we pe_we pe_we hs) (hv.go (Same.refl H) fun v H1 s1 p => ho.go s1 fun x H2 s2 ex => hi.go (s1.trans s2) fun y H3 s3 ey => by
    subst ex ey
    exact ⟨a, _, rfl, .inl ⟨kvs, k, ((s1.trans s2).trans s3) _ _ hd, rfl, szlt hz, rfl⟩, q v H3 ((s1.trans s2).trans s3) (mp _ _ _ (s2.trans s3) p)⟩)
theorem ws_dputT (hu : X.A.units + 1 < cLine) (mp : Mono P) (hv : EE X value σ H P) (ho : VE X o σ H (.ref a)) (hd : H a = some (.dT kvT)) (hi : DE X i σ H (eRow r)) (hz : kvT.length < 100000) (q : ∀ v H1, Same H H1 → P v H1 → D.nx σ (upd H1 a (.dT (putK kvT (r.map Sum.inl) v)))) (hs : swapsWith value (some (.Subscript o i tpos)) pos.line X.env = pure false := by rfl) :
    WS X (.Assign [.Subscript o i tpos] value pos) D σ H :=
  ws_of (ps_dput hu pe_we pe_we pe_we hs) (hv.go (Same.refl H) fun v H1 s1 p => ho.go s1 fun x H2 s2 ex => hi.go (s1.trans s2) fun y H3 s3 ry => by
    obtain ⟨b, ey, hb⟩ := ry.tupI
    subst ex ey
    exact ⟨a, _, rfl, .inr ⟨kvT, _, b, ((s1.trans s2).trans s3) _ _ hd, rfl, keyT hb, szlt hz, rfl⟩, q v H3 ((s1.trans s2).trans s3) (mp _ _ _ (s2.trans s3) p)⟩)
theorem we_newK (q : ∀ p, H p = none → Q (.ref p) (upd H p (.dK []))) : WE X (.Dict [] [] pos) σ H Q := we_of pe_dnewK q
theorem we_newT (q : ∀ p, H p = none → Q (.ref p) (upd H p (.dT []))) : WE X (.Dict [] [] pos) σ H Q := we_of pe_dnewT q
/-! instances -/
theorem ve_fld {C dx : Addr} {fs : List (Str × V)} (ho : VE X o σ H (.ref a)) (ha : H a = some (.ins C dx fs)) (c : Cls X.K C) (n : NoAttr X.K C x) (hv : fs.lookup x = some v) (hb : attributeBase o x X.env (eval o X.env) = eval o X.env := by rfl) : VE X (.Attribute o x pos) σ H v := fun H1 s =>
  we_of (pe_fld pe_we hb) (ho.go s fun y H2 s2 ey => by
    subst ey
    exact ⟨a, C, dx, fs, v, rfl, (s.trans s2) _ _ ha, c, n, hv, s2, rfl⟩)
theorem ws_fld {C dx : Addr} {fs : List (Str × V)} (mp : Mono P) (hv : EE X value σ H P) (ho : VE X o σ H (.ref a)) (ha : H a = some (.ins C dx fs)) (c : Cls X.K C) (n : NoAttr X.K C x) (hz : fs.length < 1000) (q : ∀ v H1, Same H H1 → P v H1 → D.nx σ (upd H1 a (.ins C dx (putF x v fs)))) (hs : swapsWith value (some (.Attribute o x tpos)) pos.line X.env = pure false := by rfl) :
    WS X (.Assign [.Attribute o x tpos] value pos) D σ H :=
  ws_of (ps_fld pe_we pe_we hs) (hv.go (Same.refl H) fun v H1 s1 p => ho.go s1 fun y H2 s2 ey => by
    subst ey
    exact ⟨a, C, dx, fs, rfl, (s1.trans s2) _ _ ha, c, n, hz, q v H2 (s1.trans s2) (mp _ _ _ s2 p)⟩)
/-- .. the value by hand -/
theorem ws_fldW {C dx : Addr} {fs : List (Str × V)} (q : WE X value σ H fun v H1 => VE X o σ H1 (.ref a) ∧ H1 a = some (.ins C dx fs) ∧ Cls X.K C ∧ NoAttr X.K C x ∧ fs.length < 1000 ∧ ∀ H2, Same H1 H2 → D.nx σ (upd H2 a (.ins C dx (putF x v fs)))) (hs : swapsWith value (some (.Attribute o x tpos)) pos.line X.env = pure false := by rfl) :
    WS X (.Assign [.Attribute o x tpos] value pos) D σ H :=
  ws_of (ps_fld pe_we pe_we hs) (q.mono fun v H1 ⟨ho, ha, c, n, hz, q⟩ => ho.go (Same.refl H1) fun y H2 s2 ey => by
    subst ey
    exact ⟨a, C, dx, fs, rfl, s2 _ _ ha, c, n, hz, q H2 s2⟩)
variable {CX : CXT} {j : Nat} {g C dx : Addr} {ps : List Str} {sp : Sp} {E : XK} {m : Str} {Pr : List V → Hp → Prop} {fs : List (Str × V)}
theorem we_meth {pl : Sem Bool} (O : OkF X.prog X.w X.K X.mg X.base CX j g ps sp) (hr : Room j X.A) (ho : VE X o σ H (.ref a)) (ha : H a = some (.ins C dx fs)) (c : Cls X.K C) (hm : Meth X.K C m g) (hn : fs.lookup m = none) (hx : Passes CX X E) (he : AA X (e :: es) σ H Pr) (q : ∀ vs H2, Same H H2 → Pr vs H2 → sp (.ref a :: vs) H2 Q E)
    (hst : starEach (e :: es) X.env = (false, eval e X.env) :: starEach es X.env := by rfl) (hpl : (backTo pos (starEach es X.env)).any (·.1) = false := by rfl)
    (ht : eval (.Call (.Attribute o m apos) (e :: es) [] pos) X.env = (do
      let ov ← eval o X.env
      standAt apos.atName
      let (f, first) ← holding [ov] (getMethod ov m pl)
      callWith pos f first (backTo pos (starEach (e :: es) X.env)) (backToKw pos (keywordEach [] X.env))) := by rfl) : WE X (.Call (.Attribute o m apos) (e :: es) [] pos) σ H Q := by
  obtain ⟨fd, F, b, kp⟩ := O
  refine we_of (pe_meth pe_we c hm F hr b .nil hx pa_we hst hpl ht) (ho.go (Same.refl H) fun y H2 s2 ey => ?_)
  subst ey
  refine ⟨a, dx, fs, rfl, s2 _ _ ha, hn, he.go s2 fun vs H3 s3 p => ?_⟩
  rw [List.append_nil]
  exact q vs H3 (s2.trans s3) p
theorem we_meth0 {pl : Sem Bool} (O : OkF X.prog X.w X.K X.mg X.base CX j g ps sp) (hr : Room j X.A) (ho : VE X o σ H (.ref a)) (ha : H a = some (.ins C dx fs)) (c : Cls X.K C) (hm : Meth X.K C m g) (hn : fs.lookup m = none) (hx : Passes CX X E) (q : ∀ H2, Same H H2 → sp [.ref a] H2 Q E)
    (ht : eval (.Call (.Attribute o m apos) [] [] pos) X.env = (do
      let ov ← eval o X.env
      standAt apos.atName
      let (f, first) ← holding [ov] (getMethod ov m pl)
      callWith pos f first (backTo pos (starEach [] X.env)) (backToKw pos (keywordEach [] X.env))) := by rfl) : WE X (.Call (.Attribute o m apos) [] [] pos) σ H Q := by
  obtain ⟨fd, F, b, kp⟩ := O
  refine we_of (pe_meth0 pe_we c hm F hr b .nil hx ht) (ho.go (Same.refl H) fun y H2 s2 ey => ?_)
  subst ey
  exact ⟨a, dx, fs, rfl, s2 _ _ ha, hn, q H2 s2⟩
theorem we_make {p : Pos} (M : Mk X.K C g) (O : OkF X.prog X.w X.K X.mg X.base CX j g ps sp) (hr : Room (j + 1) X.A) (hm : X.mg x = some (.ref C)) (hx : Passes CX X E) (he : AA X (e :: es) σ H Pr)
    (q : ∀ vs H2, Same H H2 → Pr vs H2 → ∀ y dx, H2 y = none → H2 dx = none → dx ≠ y → sp (.ref y :: vs) (upd (upd H2 dx (.own y)) y (.ins C dx [])) (fun v H3 => v = .non ∧ Q (.ref y) H3) E)
    (hg : Gl X x := by rfl) (hdb : (x == ("__debug__" : Str)) = false := by decide) (hst : starEach (e :: es) X.env = (false, eval e X.env) :: starEach es X.env := by rfl) (hpl : (backTo pos (starEach es X.env)).any (·.1) = false := by rfl) : WE X (.Call (.Name x p) (e :: es) [] pos) σ H Q := by
  obtain ⟨fd, F, b, kp⟩ := O
  refine we_of (pe_make M F hr hg hm b .nil hx pa_we hdb hst hpl) (he.go (Same.refl H) fun vs H3 s3 p y dx h1 h2 h3 => ?_)
  rw [List.append_nil]
  exact q vs H3 s3 p y dx h1 h2 h3
/-- a method's call that keeps all -/
theorem ee_meth {pl : Sem Bool} {Pv : V → Hp → Prop} (O : OkF X.prog X.w X.K X.mg X.base CX j g ps sp) (hr : Room j X.A) (ho : VE X o σ H (.ref a)) (ha : H a = some (.ins C dx fs)) (c : Cls X.K C) (hm : Meth X.K C m g) (hn : fs.lookup m = none) (hx : Passes CX X E) (he : AA X (e :: es) σ H Pr) (q : ∀ vs H2 Q, Same H H2 → Pr vs H2 → (∀ v H3, Same H2 H3 → Pv v H3 → Q v H3) → sp (.ref a :: vs) H2 Q E)
    (hst : starEach (e :: es) X.env = (false, eval e X.env) :: starEach es X.env := by rfl) (hpl : (backTo pos (starEach es X.env)).any (·.1) = false := by rfl)
    (ht : eval (.Call (.Attribute o m apos) (e :: es) [] pos) X.env = (do
      let ov ← eval o X.env
      standAt apos.atName
      let (f, first) ← holding [ov] (getMethod ov m pl)
      callWith pos f first (backTo pos (starEach (e :: es) X.env)) (backToKw pos (keywordEach [] X.env))) := by rfl) : EE X (.Call (.Attribute o m apos) (e :: es) [] pos) σ H Pv := fun H1 s =>
  we_meth O hr (ho.up s) (s _ _ ha) c hm hn hx (fun H2 s2 => he H2 (s.trans s2)) (fun vs H2 s2 p => q vs H2 _ (s.trans s2) p fun v H3 s3 z => ⟨s2.trans s3, z⟩) hst hpl ht
end
end J
/-! The patterns. -/
namespace J
open PySem PySem.Spec PyProof.Rows L2
theorem same_out {H H1 H' : Hp} {M : List Addr} (s : Same H H1) (b : SameB M H1 H') (n : ∀ a ∈ M, H a = none) : Same H H' := fun a o h => b a o (s a o h) fun m => by rw [n a m] at h; cases h
theorem kp1 {H H' : Hp} {l : Addr} {u : HO} (b : SameB [l] H H') (h : H l = some u) (z : loose u = true) : Kp H H' := b.kp fun x hx => by cases List.mem_singleton.mp hx; exact ⟨u, h, z⟩
theorem fold_take {α β : Type} {f : β → α → β} {b : β} {xs : List α} {j : Nat} {x : α} (h : xs[j]? = some x) : (xs.take (j + 1)).foldl f b = f ((xs.take j).foldl f b) x := by
  rw [List.take_add_one, h, List.foldl_append]
  rfl
theorem addNew_in {f : List Str} {v : Str} (h : v ∈ f) : addNew f v = f := if_pos h
theorem addNew_not {f : List Str} {v : Str} (h : v ∉ f) : addNew f v = f ++ [v] := if_neg h
theorem addNew_len (f : List Str) (v : Str) : (addNew f v).length ≤ f.length + 1 := by
  unfold addNew
  split
  · omega
  · rw [List.length_append]; exact Nat.le_refl _
theorem fold_len : ∀ (xs : List Str) (f : List Str), (xs.foldl addNew f).length ≤ f.length + xs.length
  | [], f => Nat.le_refl _
  | x :: xs, f => by
    have h1 := fold_len xs (addNew f x)
    have h2 := addNew_len f x
    rw [List.foldl_cons, List.length_cons]
    omega
theorem strs_of {H : Hp} {ns : List Str} : RepL H (ns.map .str) (ns.map V.str) := RepL.ofStrs
theorem flat_len {as : List Atm} (h : ∀ a ∈ as, a.vars.length ≤ 4) : (as.flatMap (·.vars)).length ≤ 4 * as.length := by
  induction as with
  | nil => exact Nat.zero_le _
  | cons a as ih =>
    rw [List.flatMap_cons, List.length_append, List.length_cons]
    have h1 := h a List.mem_cons_self
    have h2 := ih fun b hb => h b (List.mem_cons_of_mem _ hb)
    omega
section
variable {P : Program} {w : World} {K : PySem.W.Frag} {mg : Str → Option Value} {base : Heap}
def SmallP (p : Pat) : Prop := p.atoms.length ≤ 3 ∧ (∀ a ∈ p.atoms, a.vars.length ≤ 4) ∧ p.head.length ≤ 100
def allVarsR (ds : List PyData) (d : PyData) : Prop := ∃ p, SmallP p ∧ ds = [ePat p] ∧ d = eStrs (pvars p)
theorem ok_all_variables (T : Tx K mg) : OkF P w K mg base (L2.CX P w) 1 (He.fAd K ("all_variables", none)) ["pattern"] (spD allVarsR) := by
  refine mk_all_variables T (spD_len fun ds d ⟨_, _, e, _⟩ => by subst e; rfl) (fun cdv A outer s H vs Q E hr ⟨ds, d, h, ⟨p, hp, e, e2⟩, q⟩ => ?_)
  subst e e2
  obtain ⟨v, e, r⟩ := h.onlyOne
  subst e
  obtain ⟨hp1, hp2, _⟩ := hp
  refine wss_cons (ws_set 1 sc_all_variables.nd (LE.go (le_lst aa_nil (by decide)) (Same.refl H) fun l xs H1 s1 hn hl rl => ?_))
  obtain rfl : xs = [] := rl
  have r1 := r.mono (.of s1)
  refine wss_cons (ws_forU (passes_of rfl) rfl (DE.ue (de_ix (DE.ue (de_var 0 r1)) de_int (d := eAtms p.atoms) rfl)) (Names2 2 3 rfl sc_all_variables.nd rfl rfl ⟨.inl rfl, .inl rfl⟩ ⟨.inl rfl, .inl rfl⟩)
    (fun H2 i σ' H' => (∃ o1 o2 o3, σ' = [some v, some (.ref l), o1, o2, o3]) ∧ SameB [l] H2 H' ∧ H2 l = some (.lst []) ∧ H' l = some (.lst ((((p.atoms.take i).flatMap (·.vars)).foldl addNew []).map V.str))) (fun H2 s2 => ⟨⟨none, none, none, rfl⟩, .refl _ _, s2 _ _ hl, s2 _ _ hl⟩) (fun H2 i σ' H' ⟨_, b, h1, _⟩ => kp1 b h1 rfl) ?_ ?_)
  · rintro H2 i d u σ' H' s2 hd rd ⟨⟨o1, o2, o3, eσ⟩, b, h1, h2⟩
    subst eσ
    obtain ⟨a, ha, e⟩ := map_at hd
    subst e
    have hfew := hp2 a (List.mem_of_getElem? ha)
    refine takes_tup2 (R := fun σ2 => WSs _ _ _ σ2 H') rd (fun x y rx ry => ?_) _ fun _ z => z
    refine wss_one (ws_forU (passes_of rfl) rfl (DE.ue (de_var 3 ry)) (pg_name (i := 4) sc_all_variables.nd rfl (.inl rfl)) (fun H3 j σ3 H4 => (∃ o, σ3 = [some v, some (.ref l), some x, some y, o]) ∧ SameB [l] H3 H4 ∧ SameB [l] H2 H4 ∧ (∃ ys, H3 l = some (.lst ys)) ∧ H4 l = some (.lst (((a.vars.take j).foldl addNew (((p.atoms.take i).flatMap (·.vars)).foldl addNew [])).map V.str)))
      (fun H3 s3 => ⟨⟨_, rfl⟩, .refl _ _, b.trans (.of s3), ⟨_, s3 _ _ h2⟩, s3 _ _ h2⟩) (fun H3 j σ3 H4 ⟨_, b2, _, ⟨ys, h3⟩, _⟩ => kp1 b2 h3 rfl) ?_ ?_)
    · rintro H3 j d2 u2 σ3 H4 s3 hd2 rd2 ⟨⟨o, eσ⟩, b2, b3, h3, h4⟩
      subst eσ
      obtain ⟨z, hz, e⟩ := map_at hd2
      subst e
      have hsz : ((a.vars.take j).foldl addNew (((p.atoms.take i).flatMap (·.vars)).foldl addNew [])).length ≤ 16 := by
        refine Nat.le_trans (fold_len _ _) ?_
        have q1 := fold_len ((p.atoms.take i).flatMap (·.vars)) []
        have q2 : ((p.atoms.take i).flatMap (·.vars)).length ≤ 4 * (p.atoms.take i).length := flat_len fun c hc => hp2 c (List.mem_of_mem_take hc)
        rw [List.length_take] at q2
        rw [List.length_take]
        simp only [List.length_nil] at q1
        omega
      refine wss_one (ws_if (BT.go (bt_cmp (ce_nins (de_var 4 rd2) (LV.qe (ve_lv (ve_var 1) (SqL.of h4) strs_of)))) (Same.refl H4) fun H5 s5 => ?_))
      by_cases hin : z ∈ (a.vars.take j).foldl addNew (((p.atoms.take i).flatMap (·.vars)).foldl addNew [])
      · rw [if_neg (by rw [List.contains_iff_mem.mpr hin]; decide)]
        refine wss_nil ⟨⟨_, rfl⟩, b2.trans (.of s5), b3.trans (.of s5), h3, ?_⟩
        rw [fold_take hz, addNew_in hin]
        exact s5 _ _ h4
      · rw [if_pos (by simpa using hin)]
        refine wss_one (ws_app (ve_var 1) (s5 _ _ h4) (by rw [List.length_map]; omega) (de_var 4 (rd2.mono (.of s5))) fun y2 H6 s6 r6 => ?_)
        refine ⟨⟨_, rfl⟩, (b2.trans (.of (s5.trans s6))).trans (.upd List.mem_cons_self), (b3.trans (.of (s5.trans s6))).trans (.upd List.mem_cons_self), h3, ?_⟩
        cases (show y2 = _ from r6)
        rw [fold_take hz, upd_same, addNew_not hin, List.map_append]
        rfl
    · rintro H3 σ3 H4 s3 ⟨⟨o, eσ⟩, b2, b3, h3, h4⟩
      subst eσ
      refine ⟨⟨_, _, _, rfl⟩, b3, h1, ?_⟩
      rw [List.take_add_one, ha]
      rw [List.length_map, List.take_length] at h4
      rw [h4]
      simp
  · rintro H2 σ' H' s2 ⟨⟨o1, o2, o3, eσ⟩, b, h1, h2⟩
    subst eσ
    rw [List.length_map, List.take_length] at h2
    exact wss_one (rt_de (same_out (s1.trans s2) b fun a ha => by rw [List.mem_singleton.mp ha]; exact hn) (de_tuple T.b_tuple (ve_lv (ve_var 1) (SqL.of h2) strs_of)) q)
theorem putK_few {κ : Type} [DecidableEq κ] (c : List (κ × V)) (k : κ) (x : V) : (putK c k x).length ≤ c.length + 1 := by
  unfold putK
  split
  · rw [List.length_map]; omega
  · rw [List.length_append]; exact Nat.le_refl _
def rightAtomsR (ds : List PyData) (d : PyData) : Prop := ∃ c p, GPat c p ∧ ds = [eAtms p.atoms] ∧ d = .bool true
def colOf (c : Cat) (x : Str) : Nat := match findT c x with | some t => t.cols | none => 0
theorem colOf_at {c : Cat} {p : Pat} (h : GPat c p) {a : Atm} (ha : a ∈ p.atoms) : a.vars.length = colOf c a.tab := by
  obtain ⟨t, h1, h2⟩ := h.fit a ha
  unfold colOf
  rw [h1, ← h2]
theorem ok_right_atoms (T : Tx K mg) : OkF P w K mg base (L2.CX P w) 2 (He.fAd K ("right_atoms", none)) ["atoms"] (spD rightAtomsR) := by
  refine mk_right_atoms T (spD_len fun ds d ⟨_, _, _, e, _⟩ => by subst e; rfl) (fun cdv A outer s H vs Q E hr ⟨ds, d, h, ⟨c, p, hp, e, e2⟩, q⟩ => ?_)
  subst e e2
  obtain ⟨v, e, r⟩ := h.onlyOne
  subst e
  have hu := hu_of hr
  refine wss_cons (ws_set 1 sc_right_atoms.nd (we_newK fun l hn => ?_))
  have r0 := r.mono (.new (o := .dK []) hn)
  refine wss_cons (ws_forU (passes_of rfl) rfl (DE.ue (de_var 0 r0)) (Names2 2 3 rfl sc_right_atoms.nd rfl rfl ⟨.inl rfl, .inl rfl⟩ ⟨.inl rfl, .inl rfl⟩)
    (fun H2 i σ' H' => (∃ o1 o2 o3, σ' = [some v, some (.ref l), o1, o2, o3]) ∧ SameB [l] H2 H' ∧ H2 l = some (.dK []) ∧ ∃ kvs, H' l = some (.dK kvs) ∧ kvs.length ≤ i ∧ ∀ x u, valV kvs (.inr x) = some u → u = .int (colOf c x : Int)) (fun H2 s2 => ⟨⟨none, none, none, rfl⟩, .refl _ _, s2 _ _ upd_same, [], s2 _ _ upd_same, Nat.le_refl _, fun x u z => by cases z⟩) (fun H2 i σ' H' ⟨_, b, h1, _⟩ => kp1 b h1 rfl) ?_ ?_)
  · rintro H2 i d u σ' H' s2 hd rd ⟨⟨o1, o2, o3, eσ⟩, b, h1, kvs, h2, h3, h4⟩
    subst eσ
    obtain ⟨a, ha, e⟩ := map_at hd
    subst e
    have hi : i < 3 := Nat.lt_of_lt_of_le (List.getElem?_eq_some_iff.mp ha).1 hp.few
    have ha := List.mem_of_getElem? ha
    have g1 := hp.lo a ha
    have g2 := hp.hi a ha
    refine takes_tup2 (R := fun σ2 => WSs _ _ _ σ2 H') rd (fun x y rx ry => ?_) _ fun _ z => z
    have lenE : ∀ H3, Same H' H3 → ∀ p1 p2 pos, DE (cxOf (L2.CX P w) P w K mg base n_right_atoms "right_atoms" (defScope s_right_atoms) (He.fAd K ("right_atoms", none)) cdv A outer s H E) (.Call (.Name "len" p1) [.Name "variables" p2] [] pos) [some v, some (.ref l), some x, some y, o3] H3 (.int (a.vars.length : Int)) := fun H3 s3 p1 p2 pos => DE.is (de_len T.b_len (DE.qe (de_var 3 (ry.mono (.of s3))))) (by rw [List.length_map])
    refine wss_cons (ws_if (BT.go (bt_or (bt_not (bt_val (de_call (ok_is_name T) hr T.gis_name passL (aa_cons (de_var 2 rx) aa_nil) ⟨a.tab, ok_tab (hp.nm a ha), rfl, rfl⟩))) fun _ => bt_not (bt_chain de_int (lenE H' (Same.refl _) _ _ _) (de_gint T.PLACE_LIMIT))) (Same.refl H') fun H3 s3 => ?_))
    rw [decide_eq_true (show (1 : Int) ≤ (a.vars.length : Int) by omega), decide_eq_true (show (a.vars.length : Int) ≤ 4 by omega), if_neg (by decide)]
    refine wss_nil (wss_cons (ws_if (BT.go (bt_not (bt_val (de_all (bs := a.vars.map fun _ => true) rfl T.b_all (LE.lv (LE.is (le_mU n_right_atoms (defScope s_right_atoms) 4 a.vars .str (fun _ => .bool true) rfl sc_right_atoms.nd (DE.ue (de_var 3 (ry.mono (.of s3)))) (by omega) fun y2 v2 H4 hy s4 r4 => ?_) (by rw [List.map_map]; rfl)))))) (Same.refl H3) fun H4 s4 => ?_)))
    · intro s5 H5 C cl fp
      exact de_call (ok_is_name T) hr T.gis_name passL (aa_cons (de_var 4 r4) aa_nil) ⟨y2, ok_vr (hp.var a ha y2 hy), rfl, rfl⟩
    · rw [all_true, if_neg (by decide)]
      have s34 := s3.trans s4
      have hl4 := s34 _ _ h2
      refine wss_nil (wss_cons (ws_if (BT.go (bt_cmp (ce_ne (i := (a.vars.length : Int)) (de_n ((ve_dget2K hu (ve_var 1) (.inl hl4) (ve_str (de_var 2 (rx.mono (.of s34)))) (ve_n (lenE H4 s34 _ _ _)) ⟨rfl, rfl, rfl, rfl⟩).imp fun v5 H5 _ e5 => ?_)) (lenE H4 s34 _ _ _))) (Same.refl H4) fun H5 s5 => ?_)))
      · rw [e5]
        cases hv : valV kvs (.inr a.tab) with
        | none => rfl
        | some u => rw [h4 _ _ hv, ← colOf_at hp ha]; rfl
      · rw [if_neg (by simp)]
        have s35 := s34.trans s5
        refine wss_nil (wss_one (ws_dputK hu mono_rep (lenE H5 s35 _ _ _) (ve_var 1) (s35 _ _ h2) (ve_str (de_var 2 (rx.mono (.of s35)))) (by omega) fun v6 H6 s6 r6 => ?_))
        cases (show v6 = _ from r6)
        refine ⟨⟨_, _, _, rfl⟩, (b.trans (.of (s35.trans s6))).trans (.upd List.mem_cons_self), h1, _, upd_same, ?_, fun x2 u hu2 => ?_⟩
        · have := putK_few kvs (Sum.inr a.tab) (V.int a.vars.length)
          omega
        · rw [valV_put] at hu2
          split at hu2
          · rename_i e6
            cases e6
            cases hu2
            rw [← colOf_at hp ha]
          · exact h4 _ _ hu2
  · rintro H2 σ' H' s2 ⟨⟨o1, o2, o3, eσ⟩, b, h1, kvs, h2, h3, h4⟩
    subst eσ
    have k : Kp H H' := (Kp.new hn).trans ((Kp.of s2).trans (kp1 b h1 rfl))
    have hone := hp.one
    refine wss_one (rt_de (H0 := H) (same_out (M := [l]) ((Same.new hn).trans s2) b fun a ha => by rw [List.mem_singleton.mp ha]; exact hn) (DE.is (de_cmp (ce_gt (de_len T.b_len (DE.qe (de_var 0 (r.mono k)))) de_int)) (by rw [List.length_map, decide_eq_true (by omega)])) q)
def checkPatR (ds : List PyData) (d : PyData) : Prop := ∃ c p, GPat c p ∧ ds = [ePat p] ∧ d = .none
theorem ok_check_pattern (T : Tx K mg) : OkF P w K mg base (L2.CX P w) 3 (He.fAd K ("check_pattern", none)) ["pattern"] (spD checkPatR) := by
  refine mk_check_pattern T (spD_len fun ds d ⟨_, _, _, e, _⟩ => by subst e; rfl) (fun cdv A outer s H vs Q E hr ⟨ds, d, h, ⟨c, p, hp, e, e2⟩, q⟩ => ?_)
  subst e e2
  obtain ⟨v, e, r⟩ := h.onlyOne
  subst e
  have hf := hp.few
  have hv := hp.vlen
  have hh := hp.hlen
  refine wss_cons (ws_tup2 (d1 := eStrs p.head) (d2 := eAtms p.atoms) 1 2 sc_check_pattern.nd (de_var 0 r) fun H1 x y s1 rx ry => ?_)
  refine wss_cons (ws_de 3 sc_check_pattern.nd (de_call (ok_all_variables T |>.mono (by decide)) hr T.gall_variables passL (aa_cons (de_var 0 (r.mono (.of s1))) aa_nil) ⟨p, ⟨hp.few, hp.hi, by omega⟩, rfl, rfl⟩) fun z H2 s2 rz => ?_)
  refine wss_cons (ws_de 4 sc_check_pattern.nd (DE.is (d2 := .bool true) (de_and (de_call (ok_right_atoms T) hr T.gright_atoms passL (aa_cons (de_var 2 (ry.mono (.of s2))) aa_nil) ⟨c, p, hp, rfl, rfl⟩) fun _ => de_all (bs := p.head.map fun _ => true) rfl T.b_all (LE.lv (LE.is (le_mU n_check_pattern (defScope s_check_pattern) 5 p.head .str (fun _ => .bool true) rfl sc_check_pattern.nd (DE.ue (de_var 1 (rx.mono (.of s2)))) (by omega) fun y2 v2 H4 hy s4 r4 => ?_) (by rw [List.map_map]; rfl)))) (by rw [all_true]; rfl)) fun g H3 s3 rg => ?_)
  · intro s5 H5 C cl fp
    exact DE.is (de_cmp (ce_ins (de_var 5 r4) (DE.qe (de_var 3 (rz.mono (.of s4)))))) (by rw [List.contains_iff_mem.mpr (hp.head y2 hy)])
  have s23 := s2.trans s3
  refine wss_cons (ws_if (BT.go (bt_or (bt_not (bt_val (de_var 4 rg))) fun _ => bt_val (de_any (bs := (List.range p.head.length).map fun _ => false) rfl T.b_any (LE.lv (LE.is (le_mR n_check_pattern (defScope s_check_pattern) 6 p.head.length (fun _ => .bool false) rfl sc_check_pattern.nd T.b_range (DE.is (de_len T.b_len (DE.qe (de_var 1 (rx.mono (.of s23))))) (by rw [List.length_map])) (by omega) fun i H4 hi s4 => ?_) (by rw [List.map_map]; rfl))))) (Same.refl H3) fun H4 s4 => ?_))
  · intro s5 H5 C cl fp
    have rx4 := rx.mono (.of (s23.trans s4))
    have h1 : p.head[i]? = some p.head[i] := List.getElem?_eq_getElem hi
    refine DE.is (de_cmp (ce_ins (x := p.head[i]) (ys := p.head.take i) (de_ix (DE.ue (de_var 1 rx4)) (de_var (d := .int (i : Int)) 6 rfl) (atI_n (by rw [List.getElem?_map, h1]; rfl))) (UE.qe (ue_slice (DE.ue (de_var 1 rx4)) oe_none (oe_some (de_var (d := .int (i : Int)) 6 rfl)) (by rw [cut_to (by rw [List.length_map]; omega), List.map_take]))))) ?_
    have : ¬ p.head[i] ∈ p.head.take i := fun hm => by
      obtain ⟨j, hj, e⟩ := List.getElem_of_mem hm
      rw [List.length_take] at hj
      rw [List.getElem_take] at e
      exact absurd ((List.getElem_inj hp.nodup).mp e) (by omega)
    rw [show (p.head.take i).contains p.head[i] = false from Bool.eq_false_iff.mpr fun z => this (List.contains_iff_mem.mp z)]
  rw [List.any_map, show ((List.range p.head.length).any (id ∘ fun _ => false)) = false by simp, if_neg (by decide)]
  refine wss_nil (wss_one (ws_if (BT.go (bt_or (bt_cmp (ce_gt (de_len T.b_len (DE.qe (de_var 2 (ry.mono (.of (s23.trans s4)))))) (de_gint T.ATOM_LIMIT))) fun _ => bt_cmp (ce_gt (de_len T.b_len (DE.qe (de_var 3 (rz.mono (.of (s3.trans s4)))))) (de_gint T.VARIABLE_LIMIT))) (Same.refl H4) fun H5 s5 => ?_)))
  rw [List.length_map, List.length_map, decide_eq_false (by omega), decide_eq_false (by omega), if_neg (by decide)]
  exact wss_nil (q _ _ (((s1.trans s23).trans s4).trans s5) rfl)
def checkFitR (ds : List PyData) (d : PyData) : Prop := ∃ m c p, GCat m c ∧ m ≤ 60 ∧ GPat c p ∧ ds = [eCat c, ePat p] ∧ d = .none
theorem ok_check_fit (T : Tx K mg) : OkF P w K mg base (L2.CX P w) 4 (He.fAd K ("check_fit", none)) ["catalogue", "pattern"] (spD checkFitR) := by
  refine mk_check_fit T (spD_len fun ds d ⟨_, _, _, _, _, _, e, _⟩ => by subst e; rfl) (fun cdv A outer s H vs Q E hr ⟨ds, d, h, ⟨m, c, p, hg, hm, hp, e, e2⟩, q⟩ => ?_)
  subst e e2
  obtain ⟨v, u, e, r1, r2⟩ := h.two
  subst e
  have hz := hg.few
  refine wss_cons (ws_expr ((de_call (ok_check_catalogue T) hr T.gcheck_catalogue passL (aa_cons (de_var 0 r1) aa_nil) ⟨m, c, hg, by omega, rfl, rfl⟩).go (Same.refl H) fun _ H1 s1 _ => ?_))
  refine wss_cons (ws_expr ((de_call (ok_check_pattern T) hr T.gcheck_pattern passL (aa_cons (de_var 1 (r2.mono (.of s1))) aa_nil) ⟨c, p, hp, rfl, rfl⟩).go (Same.refl H1) fun _ H2 s2 _ => ?_))
  have s12 := s1.trans s2
  refine wss_one (ws_forU (passes_of rfl) rfl (DE.ue (de_ix (DE.ue (de_var 1 (r2.mono (.of s12)))) de_int (d := eAtms p.atoms) rfl)) (Names2 2 3 rfl sc_check_fit.nd rfl rfl ⟨.inl rfl, .inl rfl⟩ ⟨.inl rfl, .inl rfl⟩)
    (fun H2 i σ' H' => (∃ o1 o2, σ' = [some v, some u, o1, o2]) ∧ Same H2 H') (fun H2 s2 => ⟨⟨none, none, rfl⟩, .refl _⟩) (fun H2 i σ' H' ⟨_, b⟩ => .of b) ?_ ?_)
  · rintro H3 i d y σ' H' s3 hd rd ⟨⟨o1, o2, eσ⟩, b⟩
    subst eσ
    obtain ⟨a, ha, e⟩ := map_at hd
    subst e
    have ha := List.mem_of_getElem? ha
    obtain ⟨t, f1, f2⟩ := hp.fit a ha
    refine takes_tup2 (R := fun σ2 => WSs _ _ _ σ2 H') rd (fun x y rx ry => ?_) _ fun _ z => z
    have r1' := r1.mono (.of ((s12.trans s3).trans b))
    refine wss_one (ws_if (BT.go (bt_cmp (ce_ne (i := (t.cols : Int)) (de_ix (DE.ue (de_callX (d := eTab t) (ok_table_at T |>.mono (by decide)) hr T.gtable_at (aa_cons (de_var 0 r1') (aa_cons (de_var 2 rx) aa_nil)) ⟨c, a.tab, by omega, rfl, by rw [f1]⟩)) de_int rfl) (de_len T.b_len (DE.qe (de_var 3 ry))))) (Same.refl H') fun H4 s4 => ?_))
    rw [List.length_map, f2, if_neg (by simp)]
    exact wss_nil ⟨⟨_, _, rfl⟩, b.trans s4⟩
  · rintro H3 σ' H' s3 ⟨⟨o1, o2, eσ⟩, b⟩
    exact q _ _ ((s12.trans s3).trans b) rfl
end
end J
/-! Texts, of which only the length is told. -/
namespace J
open PySem PySem.Spec PyProof.Rows L2
theorem join_len {x : Str} {ys : List Str} {n k : Nat} (h1 : ∀ y ∈ ys, y.length ≤ n) (h2 : ys.length ≤ k) : (Txt.join x ys).length ≤ k * n + k * x.length := by
  show (PySem.Builtin.Str.glued x ys).length ≤ _
  rw [PySem.size_glued]
  have h3 : ∀ zs : List Str, (∀ y ∈ zs, y.length ≤ n) → (zs.map (·.length)).sum ≤ zs.length * n := by
    intro zs
    induction zs with
    | nil => intro _; exact Nat.zero_le _
    | cons z zs ih =>
      intro h
      rw [List.map_cons, List.sum_cons, List.length_cons, Nat.succ_mul]
      have := h z List.mem_cons_self
      have := ih fun y hy => h y (List.mem_cons_of_mem _ hy)
      omega
  have h4 := h3 ys h1
  have h5 := Nat.mul_le_mul_right n h2
  have h6 : (ys.length - 1) * x.length ≤ k * x.length := Nat.mul_le_mul_right _ (by omega)
  omega
theorem sum_len {ys : List Str} {n k : Nat} (h1 : ∀ y ∈ ys, y.length ≤ n) (h2 : ys.length ≤ k) : (ys.map (·.length)).sum ≤ k * n := by
  have h3 : ∀ zs : List Str, (∀ y ∈ zs, y.length ≤ n) → (zs.map (·.length)).sum ≤ zs.length * n := by
    intro zs
    induction zs with
    | nil => intro _; exact Nat.zero_le _
    | cons z zs ih =>
      intro h
      rw [List.map_cons, List.sum_cons, List.length_cons, Nat.succ_mul]
      have := h z List.mem_cons_self
      have := ih fun y hy => h y (List.mem_cons_of_mem _ hy)
      omega
  exact Nat.le_trans (h3 ys h1) (Nat.mul_le_mul_right n h2)
abbrev SE (X : Cx) (e : Expr) (σ : L2.St) (H : Hp) (n : Nat) : Prop := EE X e σ H fun v _ => ∃ y : Str, v = .str y ∧ y.length ≤ n
/-- a list of k texts at most, none above n -/
abbrev SL (X : Cx) (e : Expr) (σ : L2.St) (H : Hp) (k n : Nat) : Prop := EE X e σ H fun v H2 => ∃ (a : Addr) (ys : List Str), v = .ref a ∧ (SqL X.K H2 a (ys.map V.str) ∨ SqT X.K H2 a (ys.map V.str)) ∧ ys.length ≤ k ∧ ∀ y ∈ ys, y.length ≤ n
section
variable {X : Cx} {a b c e : Expr} {es : List Expr} {σ : L2.St} {H : Hp} {pos : Pos} {n m k : Nat} {x : Str} {ds : List PyData}
theorem se_de (h : DE X e σ H (.str x)) (hz : x.length ≤ n) : SE X e σ H n := h.imp fun v _ _ r => ⟨x, r, hz⟩
theorem SE.up2 (h : SE X e σ H n) (hz : n ≤ m) : SE X e σ H m := EE.imp h fun v _ _ ⟨y, e, z⟩ => ⟨y, e, Nat.le_trans z hz⟩
theorem se_add (ha : SE X a σ H n) (hb : SE X b σ H m) (hz : n + m ≤ 100000) : SE X (.BinOp a .Add b pos) σ H (n + m) :=
  ee_op op_add_str (fun _ _ _ _ h => h) ha hb (fun _ _ H2 _ ⟨x, e1, z1⟩ ⟨y, e2, z2⟩ => ⟨x, y, e1, e2, szl (by omega), Same.refl H2, x ++ y, rfl, by rw [Str.length_append]; omega⟩) fun _ _ _ _ _ k ⟨i, j, h1, h2, c, q⟩ => ⟨i, j, h1, h2, c, k _ _ q⟩
theorem de_fmtS (h : DE X e σ H (.str x)) (hz : x.length ≤ 100000) : DE X (.FormattedValue e (-1) none pos) σ H (.str x) := fun H1 s =>
  we_of (pe_fmt pe_we) (h.go s fun v H2 s2 r => .inl ⟨x, r, szl hz, s2, rfl⟩)
theorem de_fmtI {i : Int} (h : DE X e σ H (.int i)) (hz : i.natAbs.log2 < 1920) : DE X (.FormattedValue e (-1) none pos) σ H (.str (toString i)) := fun H1 s =>
  we_of (pe_fmt pe_we) (h.go s fun v H2 s2 r => .inr ⟨i, r, hz, s2, rfl⟩)
theorem se_js4 {d : Expr} {n2 n3 n4 : Nat} (h1 : SE X a σ H n) (h2 : SE X b σ H n2) (h3 : SE X c σ H n3) (h4 : SE X d σ H n4) (hz : n + n2 + n3 + n4 ≤ 100000) : SE X (.JoinedStr [a, b, c, d] pos) σ H (n + n2 + n3 + n4) := fun H1 s =>
  we_of (pe_joined (.cons pe_we (.cons pe_we (.cons pe_we (.cons pe_we .nil))))) (EE.go h1 s fun v1 H2 s2 ⟨y1, e1, z1⟩ => ⟨y1, e1, szl (by rw [Str.length_append]; show 0 + _ ≤ _; omega), EE.go h2 (s.trans s2) fun v2 H3 s3 ⟨y2, e2, z2⟩ => ⟨y2, e2, szl (by rw [Str.length_append, Str.length_append]; show 0 + _ + _ ≤ _; omega),
    EE.go h3 ((s.trans s2).trans s3) fun v3 H4 s4 ⟨y3, e3, z3⟩ => ⟨y3, e3, szl (by rw [Str.length_append, Str.length_append, Str.length_append]; show 0 + _ + _ + _ ≤ _; omega), EE.go h4 (((s.trans s2).trans s3).trans s4) fun v4 H5 s5 ⟨y4, e4, z4⟩ => ⟨y4, e4, szl (by rw [Str.length_append, Str.length_append, Str.length_append, Str.length_append]; show 0 + _ + _ + _ + _ ≤ _; omega),
      ((s2.trans s3).trans s4).trans s5, _, rfl, by rw [Str.length_append, Str.length_append, Str.length_append, Str.length_append]; show 0 + _ + _ + _ + _ ≤ _; omega⟩⟩⟩⟩)
theorem ue_tup {j : Nat} (h : AE X es σ H ds) (hz : ds.length ≤ 100000) : UE X (.Tuple es j pos) σ H ds := fun H1 s =>
  we_of (pe_tup pa_we) (h.go s fun vs H2 s2 r => ⟨by rw [r.length]; exact szl hz, fun q hq => ⟨s2.trans (.new hq), q, vs, rfl, SqT.of upd_same, r.mono (.new hq)⟩⟩)
theorem se_join {apos : Pos} {lx m : Nat} (ha : DE X a σ H (.str x)) (hb : SL X b σ H k n) (hx : x.length = lx) (hz : k * n + k * lx ≤ m) (hm : m ≤ 16777216) (hs : starEach [b] X.env = (false, eval b X.env) :: starEach [] X.env := by rfl)
    (hbase : attributeBase a "join" X.env (eval a X.env) = eval a X.env := by rfl) (hline : (apos.endLine == pos.line) = true := by rfl)
    (hfew : ((backTo pos (starEach [b] X.env)).all (fun x => !x.1) && (backToKw pos (keywordEach [] X.env)).all (fun x => x.1.isSome)
      && decide (([b] : List Expr).length + ([] : List Keyword).length + (if ([] : List Keyword).isEmpty then 0 else 1) < 30)) = true := by rfl) (hpl : (backTo pos (starEach [] X.env)).any (·.1) = false := by rfl) : SE X (.Call (.Attribute a "join" apos) [b] [] pos) σ H m := fun H1 s =>
  we_of (pe_bm F.plainAttrs_str F.slot_str_join F.type_str_join mt_join pe_we (pa_cons pe_we pa_nil hs) hbase hfew hline hs hpl) (ha.go s fun v H2 s2 r => ⟨by cases (show v = _ from r); exact rfl, EE.go hb (s.trans s2) fun u H3 s3 ⟨q, ys, e2, t, h1, h2⟩ =>
    ⟨x, q, ys, r, by rw [e2], t, by
      have := sum_len h2 h1
      have := Nat.mul_le_mul_right x.length h1
      rw [hx] at this ⊢
      omega, s2.trans s3, _, rfl, Nat.le_trans (join_len h2 h1) (by rw [hx]; exact hz)⟩⟩)
theorem sl_le {ys : List Str} (h : QE X e σ H (ys.map .str)) (h1 : ys.length ≤ k) (h2 : ∀ y ∈ ys, y.length ≤ n) : SL X e σ H k n := h.imp fun v H2 _ ⟨a, xs, e, t, r⟩ => ⟨a, ys, e, by rw [← RepL.strs r]; exact t, h1, h2⟩
end
def ts (n : Int) : Str := (toString n : String)
theorem ts_len {n : Int} (h : dig3 n) : (ts n).length ≤ 3 := by rcases h with e | e | e <;> subst e <;> decide
theorem log4 {n : Nat} (h : n ≤ 4) : (n : Int).natAbs.log2 < 1920 := by
  match n, h with
  | 0, _ => decide
  | 1, _ => decide
  | 2, _ => decide
  | 3, _ => decide
  | 4, _ => decide
theorem log3 {n : Int} (h : dig3 n) : n.natAbs.log2 < 1920 := by rcases h with e | e | e <;> subst e <;> decide
theorem ts_len4 {n : Nat} (h : n ≤ 4) : (ts (n : Int)).length ≤ 3 := by
  match n, h with
  | 0, _ => decide
  | 1, _ => decide
  | 2, _ => decide
  | 3, _ => decide
  | 4, _ => decide
section
variable {P : Program} {w : World} {K : PySem.W.Frag} {mg : Str → Option Value} {base : Heap}
def spS (pre : List PyData → Prop) (n : Nat) : Sp := fun vs H Q _ => ∃ ds, RepL H ds vs ∧ pre ds ∧ ∀ v H', Same H H' → (∃ y : Str, v = .str y ∧ y.length ≤ n) → Q v H'
theorem spS_len {pre : List PyData → Prop} {k n : Nat} (h : ∀ ds, pre ds → ds.length = n) : ∀ vs H Q E, spS pre k vs H Q E → vs.length = n := fun vs H Q E ⟨ds, r, z, _⟩ => by
  rw [r.length]; exact h ds z
theorem rt_ee {X : Cx} {e : Expr} {σ : L2.St} {H0 H : Hp} {Pv : V → Hp → Prop} {pos : Pos} {D : Ends} (s : Same H0 H) (h : EE X e σ H Pv) (q : ∀ v H', Same H0 H' → Pv v H' → D.rt v H') : WS X (.Return (some e) pos) D σ H :=
  ws_ret (h.go (Same.refl H) fun v H2 s2 r2 => q v H2 (s.trans s2) r2)
theorem se_call {X : Cx} {k : Nat} {f : Addr} {ps : List Str} {pre : List PyData → Prop} {n : Nat} {x : Str} {p pos : Pos} {a : Expr} {es : List Expr} {σ : L2.St} {H : Hp} {ds : List PyData} (O : OkF X.prog X.w X.K X.mg X.base (L2.CX X.prog X.w) k f ps (spS pre n)) (hr : Room k X.A) (hm : X.mg x = some (.ref f)) (ha : AE X (a :: es) σ H ds) (h : pre ds) (hg : Gl X x := by rfl) (hdb : (x == ("__debug__" : Str)) = false := by decide)
    (he : starEach (a :: es) X.env = (false, eval a X.env) :: starEach es X.env := by rfl) (hpl : (backTo pos (starEach es X.env)).any (·.1) = false := by rfl) : SE X (.Call (.Name x p) (a :: es) [] pos) σ H n :=
  ee_call O hr hm passL ha (fun vs H2 Q s2 r hq => ⟨ds, r, h, fun v H3 s3 z => hq v H3 s3 z⟩) hg hdb he hpl
/-- str of a row's numbers -/
theorem le_digits {X : Cx} {elt iter : Expr} {scope : Scope} {pos tp : Pos} {σ : L2.St} {H : Hp} {x : Str} {r : Row} {k : Nat} (N : List Str) (sc : Scope) (j : Nat) (hc : X.calm = true) (hN : X.N.Nodup) (hg : GRow k r) (hk : k ≤ 4) (hit : UE X iter σ H (r.map .int))
    (hb : ∀ y v H2, y ∈ r → Same H H2 → Rep H2 (.int y) v → Blk X scope fun Y => DE Y elt (σ.set j (some v)) H2 (.str (ts y)))
    (ok : blkC N sc scope [(x, j)] = true := by decide +kernel) (h1 : X.N = N := by rfl) (h2 : X.env.scope = sc := by rfl) (hi : X.N[j]? = some x := by rfl) (hl : scope.names.lookup x = some .local := by rfl) (hs : ∀ x, foldedSetIterable iter X.env x = pure x := by intro _; rfl) :
    LE X (.ListComp elt [⟨.Name x tp, iter, [], 0⟩] scope pos) σ H ((r.map ts).map .str) :=
  LE.is (le_mU N sc j r .int (fun n => .str (ts n)) hc hN hit (by rw [hg.len]; omega) hb ok h1 h2 hi hl hs) (by rw [List.map_map]; rfl)
def writeCatP (ds : List PyData) : Prop := ∃ m c, GCat m c ∧ m ≤ 60 ∧ ds = [eCat c]
theorem ok_write_catalogue (T : Tx K mg) : OkF P w K mg base (L2.CX P w) 4 (He.fAd K ("write_catalogue", none)) ["catalogue"] (spS writeCatP 50000) := by
  refine mk_write_catalogue T (spS_len fun ds ⟨_, _, _, _, e⟩ => by subst e; rfl) (fun cdv A outer s H vs Q E hr ⟨ds, h, ⟨m, c, hg, hm, e⟩, q⟩ => ?_)
  subst e
  obtain ⟨v, e, r⟩ := h.onlyOne
  subst e
  have hz := hg.few
  refine wss_cons (ws_expr ((de_call (ok_check_catalogue T) hr T.gcheck_catalogue passL (aa_cons (de_var 0 r) aa_nil) ⟨m, c, hg, by omega, rfl, rfl⟩).go (Same.refl H) fun _ H1 s1 _ => ?_))
  refine wss_cons (ws_set 1 sc_write_catalogue.nd (LE.go (le_lst aa_nil (by decide)) (Same.refl H1) fun l xs H2 s2 hn hl rl => ?_))
  obtain rfl : xs = [] := rl
  have r2 := r.mono (.of (s1.trans s2))
  refine wss_cons (ws_forU (passes_of rfl) rfl (DE.ue (de_var 0 r2)) (Names3 2 3 4 rfl sc_write_catalogue.nd rfl rfl rfl ⟨.inl rfl, .inl rfl⟩ ⟨.inl rfl, .inl rfl⟩ ⟨.inl rfl, .inl rfl⟩)
    (fun H3 i σ' H' => (∃ o1 o2 o3 o4, σ' = [some v, some (.ref l), o1, o2, o3, o4, none, none]) ∧ SameB [l] H3 H' ∧ H3 l = some (.lst []) ∧ ∃ ys : List Str, H' l = some (.lst (ys.map V.str)) ∧ ys.length ≤ i * 61 ∧ ∀ y ∈ ys, y.length ≤ 60)
    (fun H3 s3 => ⟨⟨none, none, none, none, rfl⟩, .refl _ _, s3 _ _ hl, [], s3 _ _ hl, Nat.zero_le _, nofun⟩) (fun H2 i σ' H' ⟨_, b, h1, _⟩ => kp1 b h1 rfl) ?_ ?_)
  · rintro H3 i d u σ' H' s3 hd rd ⟨⟨o1, o2, o3, o4, eσ⟩, b, h1, ys, h2, h3, h4⟩
    subst eσ
    obtain ⟨t, ht, e⟩ := map_at hd
    subst e
    have hi : i < c.length := (List.getElem?_eq_some_iff.mp ht).1
    have ht := List.mem_of_getElem? ht
    have gt := hg.tab t ht
    have gfew := gt.few
    have ghi := gt.hi
    have gn := okW_len _ (ok_tab (hg.nm t ht))
    refine takes_tup3 (R := fun σ2 => WSs _ _ _ σ2 H') rd (fun x y z rx ry rz => ?_) _ fun _ z => z
    refine wss_cons (ws_app (ve_var 1) h2 (by rw [List.length_map]; omega) (se_js4 (n := 6) (n2 := 20) (n3 := 1) (n4 := 3) (se_de de_str (by decide)) (se_de (de_fmtS (de_var 2 rx) (by omega)) gn) (se_de de_str (by decide)) (se_de (x := ts (t.cols : Int)) (de_fmtI (de_var 3 ry) (log4 ghi)) (ts_len4 ghi)) (by decide)) fun y2 H4 s4 ⟨w2, ew, zw⟩ => ?_)
    have rx4 : Rep (upd H4 l (.lst (ys.map V.str ++ [y2]))) (eRows t.rows) z := rz.mono ((Kp.of s4).trans (.upd (s4 _ _ h2) rfl))
    have h4l : (upd H4 l (.lst (ys.map V.str ++ [y2]))) l = some (.lst ((ys ++ [w2]).map V.str)) := by rw [upd_same, ew, List.map_append]; rfl
    refine wss_one (ws_forU (passes_of rfl) rfl (DE.ue (de_var 4 rx4)) (pg_name (i := 5) sc_write_catalogue.nd rfl (.inl rfl)) (fun H5 j σ3 H6 => (∃ o, σ3 = [some v, some (.ref l), some x, some y, some z, o, none, none]) ∧ SameB [l] H5 H6 ∧ SameB [l] H3 H6 ∧ (∃ zs, H5 l = some (.lst zs)) ∧ ∃ ws : List Str, H6 l = some (.lst (ws.map V.str)) ∧ ws.length ≤ i * 61 + 1 + j ∧ ∀ y ∈ ws, y.length ≤ 60)
      (fun H5 s5 => ⟨⟨_, rfl⟩, .refl _ _, (b.trans (.of s4)).trans ((SameB.upd List.mem_cons_self).trans (.of s5)), ⟨_, s5 _ _ h4l⟩, ys ++ [w2], s5 _ _ h4l, by rw [List.length_append]; show _ + 1 ≤ _; omega, fun y hy => (List.mem_append.mp hy).elim (h4 y) fun e => by rw [List.mem_singleton.mp e]; omega⟩) (fun H3 j σ3 H4 ⟨_, b2, _, ⟨ys, h3⟩, _⟩ => kp1 b2 h3 rfl) ?_ ?_)
    · rintro H5 j d2 u2 σ3 H6 s5 hd2 rd2 ⟨⟨o, eσ⟩, b2, b3, h5, ws, h6, h7, h8⟩
      subst eσ
      obtain ⟨row, hrow, e⟩ := map_at hd2
      subst e
      have hj : j < t.rows.length := (List.getElem?_eq_some_iff.mp hrow).1
      have gr := gt.row row (List.mem_of_getElem? hrow)
      refine wss_one (ws_app (ve_var 1) h6 (by rw [List.length_map]; omega) (se_join (x := " ") (k := 5) (n := 3) (m := 20) de_str (sl_le (ys := "row" :: row.map ts) (LE.qe (LE.is (le_cat (le_lst (aa_cons de_str aa_nil) (by decide)) (le_digits n_write_catalogue (defScope s_write_catalogue) 6 rfl sc_write_catalogue.nd gr ghi (DE.ue (de_var 5 rd2)) fun y5 v5 H7 hy5 s7 r7 => ?_) (by rw [List.length_map, List.length_map, gr.len]; show 1 + _ ≤ _; omega)) rfl)) (by rw [List.length_cons, List.length_map, gr.len]; omega) fun y5 hy5 => ?_) rfl (by decide) (by decide)) fun y6 H7 s7 ⟨w3, ew3, zw3⟩ => ?_)
      · intro s8 H8 C cl fp
        exact de_strI T.b_str (de_var 6 r7) (log3 (gr.val y5 hy5))
      · rcases List.mem_cons.mp hy5 with e | e
        · rw [e]; decide
        · obtain ⟨n, hn, e⟩ := List.mem_map.mp e
          rw [← e]; exact ts_len (gr.val n hn)
      · refine ⟨⟨_, rfl⟩, (b2.trans (.of s7)).trans (.upd List.mem_cons_self), (b3.trans (.of s7)).trans (.upd List.mem_cons_self), h5, ws ++ [w3], by rw [upd_same, ew3, List.map_append]; rfl, by rw [List.length_append]; show _ + 1 ≤ _; omega, fun y hy => (List.mem_append.mp hy).elim (h8 y) fun e => by rw [List.mem_singleton.mp e]; exact Nat.le_trans zw3 (by decide)⟩
    · rintro H5 σ3 H6 s5 ⟨⟨o, eσ⟩, b2, b3, h5, ws, h6, h7, h8⟩
      subst eσ
      rw [List.length_map] at h7
      exact ⟨⟨_, _, _, _, rfl⟩, b3, h1, ws, h6, by omega, h8⟩
  · rintro H3 σ' H' s3 ⟨⟨o1, o2, o3, o4, eσ⟩, b, h1, ys, h2, h3, h4⟩
    subst eσ
    rw [List.length_map] at h3
    refine wss_one (rt_ee (same_out (M := [l]) ((s1.trans s2).trans s3) b fun a ha => by rw [List.mem_singleton.mp ha]; exact s1.free hn) (se_join (x := "") (k := 183) (n := 61) (m := 50000) de_str (sl_le (ys := ys.map (· ++ "\n")) (LE.qe (LE.is (le_mL n_write_catalogue (defScope s_write_catalogue) 7 ys .str (fun y => .str (y ++ "\n")) rfl sc_write_catalogue.nd (ve_lv (ve_var 1) (SqL.of h2) strs_of) (by omega) fun y5 v5 H7 hy5 s7 r7 => ?_) (by rw [List.map_map]; rfl))) (by rw [List.length_map]; omega) fun y5 hy5 => ?_) rfl (by decide) (by decide)) q)
    · intro s8 H8 C cl fp
      exact de_adds (de_var 7 r7) de_str (szl (by have := h4 y5 hy5; show _ + 1 ≤ _; omega))
    · obtain ⟨y6, hy6, e⟩ := List.mem_map.mp hy5
      rw [← e, Str.length_append]
      have := h4 y6 hy6
      show _ + 1 ≤ _
      omega
theorem pg2_blk {X : Cx} {scope : Scope} {t1 t2 : Str} {p1 p2 pos : Pos} {k : Nat} (i j : Nat) (hc : X.calm = true) (hN : X.N.Nodup) (h1 : X.N[i]? = some t1) (h2 : X.N[j]? = some t2) (l1 : scope.names.lookup t1 = some .local) (l2 : scope.names.lookup t2 = some .local) : Blk X scope fun Y => PG Y (.Tuple [.Name t1 p1, .Name t2 p2] k pos) (gTup X.K 2 (gCons (gName i) (gCons (gName j) gNil))) := fun _ _ _ _ _ =>
  Names2 i j hc hN h1 h2 ⟨.inl (lookup_relS_keep (sc := X.env.scope) (k := .local) (by decide) l1), .inr (lookup_relS_keep (sc := X.env.scope) (k := .local) (by decide) l1)⟩ ⟨.inl (lookup_relS_keep (sc := X.env.scope) (k := .local) (by decide) l2), .inr (lookup_relS_keep (sc := X.env.scope) (k := .local) (by decide) l2)⟩
def writePatP (ds : List PyData) : Prop := ∃ c p, GPat c p ∧ ds = [ePat p]
def atmS (a : Atm) : Str := a.tab ++ "(" ++ Txt.join ", " a.vars ++ ")"
theorem atmS_len {c : Cat} {p : Pat} (h : GPat c p) {a : Atm} (ha : a ∈ p.atoms) : (Txt.join ", " a.vars).length ≤ 88 ∧ (atmS a).length ≤ 110 := by
  have h1 : (Txt.join ", " a.vars).length ≤ 4 * 20 + 4 * 2 := join_len (fun y hy => okW_len _ (ok_vr (h.var a ha y hy))) (h.hi a ha)
  have h2 := okW_len _ (ok_tab (h.nm a ha))
  refine ⟨h1, ?_⟩
  unfold atmS
  rw [Str.length_append, Str.length_append, Str.length_append]
  show _ + 1 + _ + 1 ≤ _
  omega
theorem ok_write_pattern (T : Tx K mg) : OkF P w K mg base (L2.CX P w) 4 (He.fAd K ("write_pattern", none)) ["pattern"] (spS writePatP 2000) := by
  refine mk_write_pattern T (spS_len fun ds ⟨_, _, _, e⟩ => by subst e; rfl) (fun cdv A outer s H vs Q E hr ⟨ds, h, ⟨c, p, hp, e⟩, q⟩ => ?_)
  subst e
  obtain ⟨v, e, r⟩ := h.onlyOne
  subst e
  have hf := hp.few
  have hh := hp.hlen
  refine wss_cons (ws_expr ((de_call (ok_check_pattern T) hr T.gcheck_pattern passL (aa_cons (de_var 0 r) aa_nil) ⟨c, p, hp, rfl, rfl⟩).go (Same.refl H) fun _ H1 s1 _ => ?_))
  refine wss_cons (ws_tup2 (d1 := eStrs p.head) (d2 := eAtms p.atoms) 1 2 sc_write_pattern.nd (de_var 0 (r.mono (.of s1))) fun H2 x y s2 rx ry => ?_)
  have hb : (Txt.join ", " (p.atoms.map atmS)).length ≤ 3 * 110 + 3 * 2 := join_len (fun y hy => by
    obtain ⟨a, ha, e⟩ := List.mem_map.mp hy
    rw [← e]; exact (atmS_len hp ha).2) (by rw [List.length_map]; exact hf)
  have hd : (Txt.join ", " p.head).length ≤ 3 * 20 + 3 * 2 := join_len (fun y hy => okW_len _ (ok_vr (hp.vars (hp.head y hy)))) hh
  have hsum : ((p.atoms.map atmS).map (·.length)).sum ≤ 3 * 110 := sum_len (fun y hy => by
    obtain ⟨a, ha, e⟩ := List.mem_map.mp hy
    rw [← e]; exact (atmS_len hp ha).2) (by rw [List.length_map]; exact hf)
  have hsum2 : (p.head.map (·.length)).sum ≤ 3 * 20 := sum_len (fun y hy => okW_len _ (ok_vr (hp.vars (hp.head y hy)))) hh
  refine wss_cons (ws_de (d := .str (Txt.join ", " (p.atoms.map atmS))) 3 sc_write_pattern.nd (de_join de_str (LE.qe (LE.is (le_lcU (own := [("name", 4), ("variables", 5)]) p.atoms eAtm (fun _ => true) (fun a => .str (atmS a)) rfl sc_write_pattern.nd (DE.ue (de_var 2 ry)) (by omega) (blkOk_by (N := n_write_pattern) (sc := defScope s_write_pattern) (by decide +kernel))
    (pg2_blk 4 5 rfl sc_write_pattern.nd rfl rfl rfl rfl) (fun a u H3 ha s3 r3 => takes_tup2 r3 fun x1 y1 rx1 ry1 => ⟨rfl, fun _ _ _ _ _ => bts_nil, fun _ s4 H4 C cl fp => ?_⟩)) (by rw [filter_true, List.map_map]; rfl))) ?_) fun z H3 s3 rz => ?_)
  · have h1 := (atmS_len hp ha).1
    have h2 := okW_len _ (ok_tab (hp.nm a ha))
    have h3 : (a.vars.map (·.length)).sum ≤ 4 * 20 := sum_len (fun y hy => okW_len _ (ok_vr (hp.var a ha y hy))) (hp.hi a ha)
    have h4 := hp.hi a ha
    exact de_adds (de_adds (de_adds (de_var 4 rx1) de_str (szl (by show _ + 1 ≤ _; omega))) (de_join de_str (DE.qe (de_var 5 ry1)) (by show _ + _ * 2 ≤ _; omega)) (szl (by rw [Str.length_append]; show _ + 1 + _ ≤ _; omega))) de_str (szl (by rw [Str.length_append, Str.length_append]; show _ + 1 + _ + 1 ≤ _; omega))
  · rw [List.length_map]; show _ + _ * 2 ≤ _; omega
  · refine wss_one (rt_ee ((s1.trans s2).trans s3) (se_join (x := " ") (k := 3) (n := 336) (m := 2000) de_str (sl_le (ys := [Txt.join ", " p.head, "<-", Txt.join ", " (p.atoms.map atmS)].filter fun w => !decide (w = "")) (LE.qe (LE.is (le_cU n_write_pattern (defScope s_write_pattern) 6 [Txt.join ", " p.head, "<-", Txt.join ", " (p.atoms.map atmS)] .str (fun w => !decide (w = "")) .str rfl sc_write_pattern.nd (ue_tup (aa_cons (de_join de_str (DE.qe (de_var 1 (rx.mono (.of s3)))) (by show _ + _ * 2 ≤ _; omega)) (aa_cons de_str (aa_cons (de_var 3 rz) aa_nil))) (by show 3 ≤ 100000; decide)) (by show 3 < 100000; decide) fun y5 v5 H7 hy5 s7 r7 => ?_) rfl)) (List.length_filter_le _ _) fun y5 hy5 => ?_) rfl (by decide) (by decide)) q)
    · intro s8 H8 C cl fp
      exact ⟨bt_cmp (ce_nes (de_var 6 r7) de_str), fun _ => de_var 6 r7⟩
    · have z := (List.mem_filter.mp hy5).1
      rcases List.mem_cons.mp z with e | z
      · rw [e]; omega
      · rcases List.mem_cons.mp z with e | z
        · rw [e]; decide
        · rw [List.mem_singleton.mp z]; exact hb
end
end J
/-! Ascending rows: the search in one, what is common to some. -/
namespace J
open PySem PySem.Spec PyProof.Rows L2
section
variable {X : Cx} {c o i e value : Expr} {body : List Stmt} {σ : L2.St} {H : Hp} {pos tpos : Pos} {D : Ends} {l : Addr} {xs : List V} {P : V → Hp → Prop} {k : Nat}
theorem ws_while (hp : PassesOwn (model X.prog X.w) X.A X.env X.xe) (Pv : Nat → L2.St → Hp → Prop) (m : Nat) (h0 : Pv m σ H)
    (hs : ∀ m σ H, Pv m σ H → WT X c σ H fun b H1 => if b = true then WSs X body { D with nx := fun σ' H' => ∃ m', m' < m ∧ Pv m' σ' H', ct := fun σ' H' => ∃ m', m' < m ∧ Pv m' σ' H', bk := D.nx } σ H1 else D.nx σ H1) : WS X (.While c body [] pos) D σ H :=
  ws_of (ps_while hp pt_we pss_we) ⟨Pv, ⟨m, h0⟩, fun m σ H p => (hs m σ H p).mono fun b H1 q => by
    cases b with
    | true => exact ⟨_, fun _ _ z => z, q⟩
    | false => exact q⟩
theorem ixN_nat2 {n j : Nat} (hj : j < n) : ixN n (j : Int) = some j := by
  unfold ixN
  rw [if_pos (by omega), if_pos (by omega)]
  rfl
/-- xs[i] = e -/
theorem ws_lset (mp : Mono P) (hv : EE X value σ H P) (ho : VE X o σ H (.ref l)) (hl : H l = some (.lst xs)) (hi : DE X i σ H (.int (k : Int))) (hk : k < xs.length) (q : ∀ v H1, Same H H1 → P v H1 → D.nx σ (upd H1 l (.lst (xs.set k v))))
    (ha : ∀ v, assign (.Subscript o i tpos) X.env v = (do
      let ov ← holding [v] (eval o X.env)
      let iv ← holding [v, ov] (eval i X.env)
      standAt tpos
      holding [v, ov, iv] (setItem ov iv v)
      release [v, ov, iv] []) := by intro _; rfl)
    (hs : swapsWithSole [.Subscript o i tpos] value pos.line X.env = pure false := by rfl) (hw : swappedStores [.Subscript o i tpos] value X.env = pure none := by rfl)
    (h1 : (assignEach [.Subscript o i tpos] X.env).map (·.2) = [assign (.Subscript o i tpos) X.env] := by rfl) : WS X (.Assign [.Subscript o i tpos] value pos) D σ H :=
  ws_asg (pg_sub pe_we pe_we set_list ha) (hv.go (Same.refl H) fun v H1 s1 p => ho.go s1 fun x H2 s2 ex => hi.go (s1.trans s2) fun y H3 s3 ey => by
    cases (show x = _ from ex)
    cases (show y = _ from ey)
    exact ⟨l, xs, _, k, rfl, rfl, ((s1.trans s2).trans s3) _ _ hl, ixN_nat2 hk, q v H3 ((s1.trans s2).trans s3) (mp _ _ _ (s2.trans s3) p)⟩) hs hw h1
end
/-- the first place from start on whose number is not below n -/
def pf (row : List Int) (start : Nat) (n : Int) : Nat := start + ((row.drop start).takeWhile fun x => decide (x < n)).length
theorem tw_len {n : Int} : ∀ (l : List Int) (m : Nat), m ≤ l.length → (∀ i, i < m → ∀ x, l[i]? = some x → x < n) → (∀ x, l[m]? = some x → n ≤ x) → (l.takeWhile fun x => decide (x < n)).length = m
  | [], m, h, _, _ => (Nat.le_zero.mp h).symm
  | a :: l, 0, _, _, h3 => by
    rw [List.takeWhile_cons, if_neg (by simpa using h3 a rfl)]
    rfl
  | a :: l, m + 1, h1, h2, h3 => by
    rw [List.takeWhile_cons, if_pos (by simpa using h2 0 (Nat.succ_pos m) a rfl), List.length_cons, tw_len l m (Nat.le_of_succ_le_succ h1) (fun i hi x hx => h2 (i + 1) (Nat.succ_lt_succ hi) x hx) h3]
theorem pf_is {row : List Int} {start r : Nat} {n : Int} (h0 : start ≤ r) (h1 : r ≤ row.length) (h2 : ∀ i, start ≤ i → i < r → ∀ x, row[i]? = some x → x < n) (h3 : ∀ x, row[r]? = some x → n ≤ x) : r = pf row start n := by
  unfold pf
  rw [tw_len (row.drop start) (r - start) (by rw [List.length_drop]; omega) (fun i hi x hx => h2 (start + i) (by omega) (by omega) x (by rw [List.getElem?_drop] at hx; exact hx)) (fun x hx => h3 x (by rw [List.getElem?_drop, show start + (r - start) = r by omega] at hx; exact hx))]
  omega
section
variable {P : Program} {w : World} {K : PySem.W.Frag} {mg : Str → Option Value} {base : Heap}
def placeFromR (ds : List PyData) (d : PyData) : Prop := ∃ (row : List Int) (st : Nat) (n : Int), row.Pairwise (· < ·) ∧ st ≤ row.length ∧ row.length < 1000 ∧ ds = [eRow row, .int (st : Int), .int n] ∧ d = .int (pf row st n : Int)
theorem ok_place_from (T : Tx K mg) : OkF P w K mg base (L2.CX P w) 1 (He.fAd K ("place_from", none)) ["row", "start", "n"] (spD placeFromR) := by
  refine mk_place_from T (spD_len fun ds d ⟨_, _, _, _, _, _, e, _⟩ => by subst e; rfl) (fun cdv A outer s H vs Q E hr ⟨ds, d, h, ⟨row, st, n, ha, hs, hz, e, e2⟩, q⟩ => ?_)
  subst e e2
  obtain ⟨v, u, y, e, r1, r2, r3⟩ := h.three
  subst e
  refine wss_cons (ws_de 3 sc_place_from.nd (de_var 1 r2) fun z1 H1 s1 rz1 => ?_)
  cases (show z1 = _ from rz1)
  refine wss_cons (ws_de (d := .int (row.length : Int)) 4 sc_place_from.nd (DE.is (de_len T.b_len (DE.qe (de_var 0 (r1.mono (.of s1))))) (by rw [List.length_map])) fun z2 H2 s2 rz2 => ?_)
  cases (show z2 = _ from rz2)
  refine wss_cons (ws_while (passes_of rfl) (fun m σ' H' => ∃ (lo hi : Nat) (o : Option V), σ' = [some v, some u, some y, some (.int (lo : Int)), some (.int (hi : Int)), o] ∧ Same H H' ∧ m = hi - lo ∧ lo ≤ hi ∧ hi ≤ row.length ∧ st ≤ lo ∧ (∀ i, st ≤ i → i < lo → ∀ x, row[i]? = some x → x < n) ∧ ∀ i, hi ≤ i → ∀ x, row[i]? = some x → n ≤ x)
    (row.length - st) ⟨st, row.length, none, rfl, s1.trans s2, rfl, hs, Nat.le_refl _, Nat.le_refl _, fun i h1 h2 => by omega, fun i h1 x hx => by rw [List.getElem?_eq_none h1] at hx; cases hx⟩ ?_)
  rintro m σ' H' ⟨lo, hi, o, eσ, s3, em, h1, h2, h3, h4, h5⟩
  subst eσ
  refine BT.go (bt_cmp (ce_lt (de_var (d := .int (lo : Int)) 3 rfl) (de_var (d := .int (hi : Int)) 4 rfl))) (Same.refl H') fun H3 s4 => ?_
  by_cases hlt : lo < hi
  · rw [decide_eq_true (by omega), if_pos rfl]
    refine wss_cons (ws_de (d := .int (((lo + hi) / 2 : Nat) : Int)) 5 sc_place_from.nd (DE.is (de_fdiv (de_add (de_var (d := .int (lo : Int)) 3 rfl) (de_var (d := .int (hi : Int)) 4 rfl)) de_int ⟨by decide, by decide⟩) (congrArg PyData.int (by omega))) fun z3 H4 s5 rz3 => ?_)
    cases (show z3 = _ from rz3)
    have hm : (lo + hi) / 2 < row.length := by omega
    have hx : row[(lo + hi) / 2]? = some row[(lo + hi) / 2] := List.getElem?_eq_getElem hm
    have s6 := (s3.trans s4).trans s5
    refine wss_one (ws_if (BT.go (bt_cmp (ce_lt (i := row[(lo + hi) / 2]) (de_ix (DE.ue (de_var 0 (r1.mono (.of s6)))) (de_var (d := .int (((lo + hi) / 2 : Nat) : Int)) 5 rfl) (atI_n (by rw [List.getElem?_map, hx]; rfl))) (de_var 2 (r3.mono (.of s6))))) (Same.refl H4) fun H5 s7 => ?_))
    by_cases hc : row[(lo + hi) / 2] < n
    · rw [decide_eq_true hc, if_pos rfl]
      refine wss_one (ws_de (d := .int (((lo + hi) / 2 + 1 : Nat) : Int)) 3 sc_place_from.nd (DE.is (de_add (de_var (d := .int (((lo + hi) / 2 : Nat) : Int)) 5 rfl) de_int) (congrArg PyData.int (by omega))) fun z4 H6 s8 rz4 => ?_)
      cases (show z4 = _ from rz4)
      refine ⟨_, ?_, (lo + hi) / 2 + 1, hi, _, rfl, (s6.trans s7).trans s8, rfl, by omega, h2, by omega, fun i hi1 hi2 x hx2 => ?_, h5⟩
      · omega
      · rcases Nat.lt_or_ge i ((lo + hi) / 2) with hl | hl
        · have h0 : i < row.length := by omega
          rw [List.getElem?_eq_getElem h0] at hx2
          cases hx2
          have := List.pairwise_iff_getElem.mp ha i ((lo + hi) / 2) h0 hm hl
          omega
        · have e : i = (lo + hi) / 2 := by omega
          subst e
          rw [hx] at hx2; cases hx2; exact hc
    · rw [decide_eq_false hc, if_neg (by decide)]
      refine wss_one (ws_de (d := .int (((lo + hi) / 2 : Nat) : Int)) 4 sc_place_from.nd (de_var 5 rfl) fun z4 H6 s8 rz4 => ?_)
      cases (show z4 = _ from rz4)
      refine ⟨_, ?_, lo, (lo + hi) / 2, _, rfl, (s6.trans s7).trans s8, rfl, by omega, by omega, h3, h4, fun i hi1 x hx2 => ?_⟩
      · omega
      · rcases Nat.lt_or_ge ((lo + hi) / 2) i with hl | hl
        · have h0 : i < row.length := by
            rcases Nat.lt_or_ge i row.length with h | h
            · exact h
            · rw [List.getElem?_eq_none h] at hx2; cases hx2
          rw [List.getElem?_eq_getElem h0] at hx2
          cases hx2
          have := List.pairwise_iff_getElem.mp ha ((lo + hi) / 2) i hm h0 hl
          omega
        · have e : i = (lo + hi) / 2 := by omega
          subst e
          rw [hx] at hx2; cases hx2; omega
  · rw [decide_eq_false (by omega), if_neg (by decide)]
    have e : hi = lo := by omega
    subst e
    refine wss_one (rt_de (s3.trans s4) (de_var (d := .int (hi : Int)) 3 rfl) fun v' H4 s5 r5 => q v' H4 s5 ?_)
    rw [← pf_is h3 h2 h4 fun x hx => h5 hi (Nat.le_refl _) x hx]
    exact r5
end
/-! common, in plain -/
structure CS where
  pl : List Nat
  fd : List Int
  k : Nat
  ag : Nat
def rowAt (rows : List Row) (j : Nat) : Row := rows.getD j []
def cgo (rows : List Row) (s : CS) : Bool := (List.range rows.length).all fun j => decide (s.pl.getD j 0 < (rowAt rows j).length)
def cstep (rows : List Row) (s : CS) : CS :=
  let goal := (rowAt rows s.k).getD (s.pl.getD s.k 0) 0
  if s.ag + 1 = rows.length then ⟨s.pl.set s.k (pf (rowAt rows s.k) (s.pl.getD s.k 0) (goal + 1)), s.fd ++ [goal], s.k, 0⟩
  else
    let k2 := (s.k + 1) % rows.length
    let p2 := pf (rowAt rows k2) (s.pl.getD k2 0) goal
    ⟨s.pl.set k2 p2, s.fd, k2, if (decide (p2 < (rowAt rows k2).length) && !decide ((rowAt rows k2).getD p2 0 = goal)) = true then 0 else s.ag + 1⟩
def crun (rows : List Row) : Nat → CS → Option (List Int)
  | 0, _ => none
  | m + 1, s => if cgo rows s = true then crun rows m (cstep rows s) else some s.fd
def cini (n : Nat) : CS := ⟨List.replicate n 0, [], 0, 0⟩
def sub3 (a b c : Bool) : List Int := [0, 1, 2].filter fun x => if x = 0 then a else if x = 1 then b else c
theorem sub3_of (S : Int → Bool) : only3 S = sub3 (S 0) (S 1) (S 2) := rfl
theorem common1 : ∀ a b c : Bool, crun [sub3 a b c] 30 (cini 1) = some (sub3 a b c) := by decide +kernel
theorem common2 : ∀ a b c a2 b2 c2 : Bool, crun [sub3 a b c, sub3 a2 b2 c2] 30 (cini 2) = some (sub3 (a && a2) (b && b2) (c && c2)) := by decide +kernel
theorem common3 : ∀ a b c a2 b2 c2 a3 b3 c3 : Bool, crun [sub3 a b c, sub3 a2 b2 c2, sub3 a3 b3 c3] 30 (cini 3) = some (sub3 (a && (a2 && a3)) (b && (b2 && b3)) (c && (c2 && c3))) := by decide +kernel
theorem common_is {Ss : List (Int → Bool)} (h1 : Ss ≠ []) (h2 : Ss.length ≤ 3) : crun (Ss.map only3) 30 (cini (Ss.map only3).length) = some (only3 fun x => Ss.all fun S => S x) := by
  match Ss, h1, h2 with
  | [S], _, _ =>
    have z := common1 (S 0) (S 1) (S 2)
    rw [← sub3_of] at z
    rw [show (fun x => [S].all fun S => S x) = S from funext fun x => by simp]
    exact z
  | [S, S2], _, _ =>
    have z := common2 (S 0) (S 1) (S 2) (S2 0) (S2 1) (S2 2)
    rw [← sub3_of, ← sub3_of] at z
    rw [show (fun x => [S, S2].all fun S => S x) = (fun x => S x && S2 x) from funext fun x => by simp]
    exact z
  | [S, S2, S3], _, _ =>
    have z := common3 (S 0) (S 1) (S 2) (S2 0) (S2 1) (S2 2) (S3 0) (S3 1) (S3 2)
    rw [← sub3_of, ← sub3_of, ← sub3_of] at z
    rw [show (fun x => [S, S2, S3].all fun S => S x) = (fun x => S x && (S2 x && S3 x)) from funext fun x => by simp]
    exact z
  | _ :: _ :: _ :: _ :: _, _, h => exact absurd h (by simp)
end J
/-! common, walked. -/
namespace J
open PySem PySem.Spec PyProof.Rows L2
theorem getD_at {α : Type} {l : List α} {j : Nat} (d : α) (h : j < l.length) : l[j]? = some (l.getD j d) := by
  rw [List.getElem?_eq_getElem h, List.getD_eq_getElem?_getD, List.getElem?_eq_getElem h]
  rfl
theorem dec_nat {a b : Nat} : decide ((a : Int) < (b : Int)) = decide (a < b) := decide_eq_decide.mpr Int.ofNat_lt
theorem rep_zero : ∀ n : Nat, (List.replicate n [V.int 0]).flatten = ((List.replicate n (0 : Nat)).map fun i : Nat => V.int (i : Int))
  | 0 => rfl
  | n + 1 => by
    rw [List.replicate_succ, List.flatten_cons, rep_zero n, List.replicate_succ]
    rfl
abbrev vN (ns : List Nat) : List V := ns.map fun i : Nat => V.int (i : Int)
theorem vN_rep {H : Hp} {ns : List Nat} : RepL H (ns.map fun i : Nat => PyData.int (i : Int)) (vN ns) := by
  have z := RepL.ofInts (H := H) (ns := ns.map fun i : Nat => (i : Int))
  rw [List.map_map, List.map_map] at z
  exact z
theorem set_vN {ns : List Nat} {k p : Nat} : (vN ns).set k (.int (p : Int)) = vN (ns.set k p) := (List.map_set (f := fun i : Nat => V.int (i : Int)) (l := ns) (i := k) (a := p)).symm
theorem cstep_pos {rows : List Row} {c : CS} {goal : Int} (hg : (rowAt rows c.k).getD (c.pl.getD c.k 0) 0 = goal) (h : c.ag + 1 = rows.length) : cstep rows c = ⟨c.pl.set c.k (pf (rowAt rows c.k) (c.pl.getD c.k 0) (goal + 1)), c.fd ++ [goal], c.k, 0⟩ := by
  unfold cstep
  rw [hg]
  exact if_pos h
theorem cstep_neg {rows : List Row} {c : CS} {goal : Int} {k2 p2 : Nat} (hg : (rowAt rows c.k).getD (c.pl.getD c.k 0) 0 = goal) (h : ¬ c.ag + 1 = rows.length) (h1 : k2 = (c.k + 1) % rows.length) (h2 : p2 = pf (rowAt rows k2) (c.pl.getD k2 0) goal) :
    cstep rows c = ⟨c.pl.set k2 p2, c.fd, k2, if (decide (p2 < (rowAt rows k2).length) && !decide ((rowAt rows k2).getD p2 0 = goal)) = true then 0 else c.ag + 1⟩ := by
  subst h2 h1
  unfold cstep
  rw [hg]
  exact if_neg h
theorem pf_le {row : List Int} {st : Nat} {n : Int} (h : st ≤ row.length) : pf row st n ≤ row.length := by
  unfold pf
  have := (List.takeWhile_sublist (fun x : Int => decide (x < n)) (l := row.drop st)).length_le
  rw [List.length_drop] at this
  omega
section
variable {P : Program} {w : World} {K : PySem.W.Frag} {mg : Str → Option Value} {base : Heap}
def commonS (K : PySem.W.Frag) : Sp := fun vs H Q _ => ∃ (l : Addr) (xs : List V) (rows : List Row) (res : List Int), vs = [.ref l] ∧ SqL K H l xs ∧ RepL H (rows.map eRow) xs ∧ (∀ r ∈ rows, r.Pairwise (· < ·) ∧ r.length ≤ 100) ∧ rows.length ≤ 100 ∧ rows ≠ [] ∧ (∃ m, m ≤ 100 ∧ crun rows m (cini rows.length) = some res) ∧ ∀ v H', Same H H' → Rep H' (eRow res) v → Q v H'
theorem ok_common (T : Tx K mg) : OkF P w K mg base (L2.CX P w) 2 (He.fAd K ("common", none)) ["rows"] (commonS K) := by
  refine mk_common T (fun vs H Q E ⟨_, _, _, _, e, _⟩ => by subst e; rfl) (fun cdv A outer s H vs Q E hr ⟨l, xs, rows, res, e, t, rl, ha, hz, hne, ⟨m0, hm0, hrun⟩, q⟩ => ?_)
  subst e
  have hpos : 0 < rows.length := List.length_pos_iff.mpr hne
  have lenE : ∀ H1 σ2 p1 p2 pos, Same H H1 → σ2[0]? = some (some (V.ref l)) → DE (cxOf (L2.CX P w) P w K mg base n_common "common" (defScope s_common) (He.fAd K ("common", none)) cdv A outer s H E) (.Call (.Name "len" p1) [.Name "rows" p2] [] pos) σ2 H1 (.int (rows.length : Int)) := fun H1 σ2 p1 p2 pos s1 h0 => DE.is (de_len T.b_len (LV.qe (ve_lv (ve_var 0 h0) (s1.seq t) (rl.mono (.of s1))))) (by rw [List.length_map])
  refine wss_cons (ws_if (BT.go (bt_cmp (ce_eq (lenE H _ _ _ _ (.refl H) rfl) de_int)) (Same.refl H) fun H1 s1 => ?_))
  rw [decide_eq_false (by omega), if_neg (by decide)]
  refine wss_nil (wss_cons (ws_set 1 sc_common.nd (we_op op_rep ((le_lst (ds := [.int 0]) (aa_cons de_int aa_nil) (by decide)).go (Same.refl H1) fun l0 ys H2 s2 hn0 hl0 rl0 => (lenE H2 _ _ _ _ (s1.trans s2) rfl).go (Same.refl H2) fun v0 H3 s3 e0 => ?_))))
  cases (show v0 = _ from e0)
  cases (show ys = [V.int 0] from rl0.ints (ns := [0]))
  refine ⟨l0, rows.length, [V.int 0], rfl, rfl, s3 _ _ hl0, by omega, by omega, szl (by show 1 * rows.length ≤ _; omega), fun lp hnp => ?_⟩
  rw [show (rows.length : Int).toNat = rows.length from rfl, rep_zero]
  have s13 := (s1.trans s2).trans s3
  refine wss_cons (ws_set 2 sc_common.nd (LE.go (le_lst aa_nil (by decide)) (Same.refl _) fun lf ys2 H4 s4 hn4 hl4 rl4 => ?_))
  obtain rfl : ys2 = [] := rl4
  have hHp : H lp = none := s13.free hnp
  have hHf : H lf = none := (s13.trans (Same.new hnp)).free hn4
  have hlp4 : H4 lp = some (.lst (vN (List.replicate rows.length 0))) := s4 _ _ upd_same
  have hpf : lp ≠ lf := fun e => by rw [← e, upd_same] at hn4; cases hn4
  have s14 : Same H H4 := (s13.trans (Same.new hnp)).trans s4
  refine wss_cons (ws_de (d := .int 0) 3 sc_common.nd de_int fun v5 H5 s5 e5 => ?_)
  cases (show v5 = _ from e5)
  refine wss_cons (ws_de (d := .int 0) 4 sc_common.nd de_int fun v6 H6 s6 e6 => ?_)
  cases (show v6 = _ from e6)
  refine wss_cons (ws_while (passes_of rfl) (fun m σ' H' => ∃ (c : CS) (o : Option V), σ' = [some (.ref l), some (.ref lp), some (.ref lf), some (.int (c.k : Int)), some (.int (c.ag : Int)), o, none] ∧ Same H H' ∧ H' lp = some (.lst (vN c.pl)) ∧ H' lf = some (.lst (c.fd.map V.int)) ∧ c.pl.length = rows.length ∧ c.k < rows.length ∧ crun rows m c = some res ∧ c.fd.length + m ≤ 100)
    m0 ⟨cini rows.length, none, rfl, (s14.trans s5).trans s6, s6 _ _ (s5 _ _ hlp4), s6 _ _ (s5 _ _ hl4), List.length_replicate, hpos, hrun, by show 0 + m0 ≤ 100; omega⟩ ?_)
  rintro m σ' H' ⟨c, o, eσ, s7, h1, h2, h3, h4, h6, h7⟩
  subst eσ
  cases m with
  | zero => cases h6
  | succ m =>
  have plE : ∀ H1 σ2 j e1 p1 pos, Same H H1 → σ2[1]? = some (some (V.ref lp)) → H1 lp = some (.lst (vN c.pl)) → j < rows.length → PlainIx e1 → DE (cxOf (L2.CX P w) P w K mg base n_common "common" (defScope s_common) (He.fAd K ("common", none)) cdv A outer s H E) e1 σ2 H1 (.int (j : Int)) → DE (cxOf (L2.CX P w) P w K mg base n_common "common" (defScope s_common) (He.fAd K ("common", none)) cdv A outer s H E) (.Subscript (.Name "places" p1) e1 pos) σ2 H1 (.int (c.pl.getD j 0 : Int)) := fun H1 σ2 j e1 p1 pos s1 h0 hp hj pi he => de_ixl (ve_lv (ve_var 1 h0) (SqL.of hp) vN_rep) he (atI_n (by rw [List.getElem?_map, getD_at 0 (by omega : j < c.pl.length)]; rfl)) pi
  have rowE : ∀ H1 σ2 j e1 p1 pos, Same H H1 → σ2[0]? = some (some (V.ref l)) → j < rows.length → PlainIx e1 → DE (cxOf (L2.CX P w) P w K mg base n_common "common" (defScope s_common) (He.fAd K ("common", none)) cdv A outer s H E) e1 σ2 H1 (.int (j : Int)) → DE (cxOf (L2.CX P w) P w K mg base n_common "common" (defScope s_common) (He.fAd K ("common", none)) cdv A outer s H E) (.Subscript (.Name "rows" p1) e1 pos) σ2 H1 (eRow (rowAt rows j)) := fun H1 σ2 j e1 p1 pos s1 h0 hj pi he => de_ixl (ve_lv (ve_var 0 h0) (s1.seq t) (rl.mono (.of s1))) he (atI_n (by rw [List.getElem?_map, getD_at [] hj]; rfl)) pi
  refine BT.go (BT.is (m := cgo rows c) (bt_val (de_all (bs := (List.range rows.length).map fun j => decide (c.pl.getD j 0 < (rowAt rows j).length)) rfl T.b_all (LE.lv (LE.is (le_mR n_common (defScope s_common) 6 rows.length (fun j => .bool (decide (c.pl.getD j 0 < (rowAt rows j).length))) rfl sc_common.nd T.b_range (lenE H' _ _ _ _ s7 rfl) (by omega) fun j H8 hj s8 => ?_) (by rw [List.map_map]; rfl))))) (by rw [List.all_map]; rfl)) (Same.refl H') fun H8 s8 => ?_
  · intro s9 H9 C cl fp
    exact DE.is (de_cmp (ce_lt (de_ixl (ve_lv (ve_var 1) (SqL.of (s8 _ _ h1)) vN_rep) (de_var (d := .int (j : Int)) 6 rfl) (atI_n (by rw [List.getElem?_map, getD_at 0 (by omega : j < c.pl.length)]; rfl))) (de_len T.b_len (DE.qe (de_ixl (ve_lv (ve_var 0) ((s7.trans s8).seq t) (rl.mono (.of (s7.trans s8)))) (de_var (d := .int (j : Int)) 6 rfl) (d := eRow (rowAt rows j)) (atI_n (by rw [List.getElem?_map, getD_at [] hj]; rfl))))))) (by rw [List.length_map, dec_nat])
  have h1 := s8 _ _ h1
  have h2 := s8 _ _ h2
  have s7 := s7.trans s8
  unfold crun at h6
  by_cases hg : cgo rows c = true
  · rw [if_pos hg] at h6 ⊢
    have hlt : ∀ j, j < rows.length → c.pl.getD j 0 < (rowAt rows j).length := fun j hj => of_decide_eq_true (List.all_eq_true.mp hg j (List.mem_range.mpr hj))
    have hasc : ∀ j, j < rows.length → (rowAt rows j).Pairwise (· < ·) ∧ (rowAt rows j).length ≤ 100 := fun j hj => ha _ (List.mem_of_getElem? (getD_at [] hj))
    generalize hgl : (rowAt rows c.k).getD (c.pl.getD c.k 0) 0 = goal at *
    refine wss_cons (ws_de (d := .int goal) 5 sc_common.nd (de_ix (DE.ue (rowE H8 _ c.k _ _ _ s7 rfl h4 (plainIx) (de_var (d := .int (c.k : Int)) 3 rfl))) (plE H8 _ c.k _ _ _ s7 rfl h1 h4 (plainIx) (de_var (d := .int (c.k : Int)) 3 rfl)) (atI_n (by rw [List.getElem?_map, getD_at 0 (hlt c.k h4), hgl]; rfl))) fun v9 H9 s9 e9 => ?_)
    cases (show v9 = _ from e9)
    refine wss_cons (ws_de (d := .int ((c.ag + 1 : Nat) : Int)) 4 sc_common.nd (DE.is (de_add (de_var (d := .int (c.ag : Int)) 4 rfl) de_int) (congrArg PyData.int (by omega))) fun v10 H10 s10 e10 => ?_)
    cases (show v10 = _ from e10)
    have s7 := (s7.trans s9).trans s10
    have h1 := s10 _ _ (s9 _ _ h1)
    have h2 := s10 _ _ (s9 _ _ h2)
    refine wss_one (ws_if (BT.go (bt_cmp (ce_eq (de_var (d := .int ((c.ag + 1 : Nat) : Int)) 4 rfl) (lenE H10 _ _ _ _ s7 rfl))) (Same.refl H10) fun H11 s11 => ?_))
    have s7 := s7.trans s11
    have h1 := s11 _ _ h1
    have h2 := s11 _ _ h2
    by_cases hag : c.ag + 1 = rows.length
    · rw [decide_eq_true (by omega), if_pos rfl]
      refine wss_cons (ws_app (ve_var 2) h2 (by rw [List.length_map]; omega) (de_var (d := .int goal) 5 rfl) fun y2 H12 s12 r12 => ?_)
      cases (show y2 = _ from r12)
      have h1 : (upd H12 lf (.lst (c.fd.map V.int ++ [.int goal]))) lp = some (.lst (vN c.pl)) := by rw [upd_ne hpf]; exact s12 _ _ h1
      have s7 : Same H (upd H12 lf (.lst (c.fd.map V.int ++ [.int goal]))) := (s7.trans s12).mut hHf
      have h2 : (upd H12 lf (.lst (c.fd.map V.int ++ [.int goal]))) lf = some (.lst ((c.fd ++ [goal]).map V.int)) := by rw [upd_same, List.map_append]; rfl
      generalize upd H12 lf (.lst (c.fd.map V.int ++ [.int goal])) = H13 at *
      refine wss_cons (ws_de (d := .int (goal + 1)) 5 sc_common.nd (de_add (de_var (d := .int goal) 5 rfl) de_int) fun v14 H14 s14' e14 => ?_)
      cases (show v14 = _ from e14)
      refine wss_cons (ws_de (d := .int ((0 : Nat) : Int)) 4 sc_common.nd de_int fun v15 H15 s15 e15 => ?_)
      cases (show v15 = _ from e15)
      have s7 := (s7.trans s14').trans s15
      have h1 := s15 _ _ (s14' _ _ h1)
      have h2 := s15 _ _ (s14' _ _ h2)
      refine wss_one (ws_lset mono_rep (de_call (d := .int (pf (rowAt rows c.k) (c.pl.getD c.k 0) (goal + 1) : Int)) (ok_place_from T) hr T.gplace_from passL (aa_cons (rowE H15 _ c.k _ _ _ s7 rfl h4 plainIx (de_var (d := .int (c.k : Int)) 3 rfl)) (aa_cons (plE H15 _ c.k _ _ _ s7 rfl h1 h4 plainIx (de_var (d := .int (c.k : Int)) 3 rfl)) (aa_cons (de_var (d := .int (goal + 1)) 5 rfl) aa_nil))) ⟨rowAt rows c.k, c.pl.getD c.k 0, goal + 1, (hasc c.k h4).1, Nat.le_of_lt (hlt c.k h4), by have := (hasc c.k h4).2; omega, rfl, rfl⟩)
        (ve_var 1) h1 (de_var (d := .int (c.k : Int)) 3 rfl) (by rw [List.length_map, h3]; exact h4) fun v16 H16 s16 e16 => ?_)
      cases (show v16 = _ from e16)
      refine ⟨m, Nat.lt_succ_self m, cstep rows c, some (.int (goal + 1)), ?_, (s7.trans s16).mut hHp, ?_, ?_, ?_, ?_, h6, ?_⟩
      · rw [cstep_pos hgl hag]; rfl
      · rw [cstep_pos hgl hag, upd_same, set_vN]
      · rw [cstep_pos hgl hag, upd_ne (Ne.symm hpf)]; exact s16 _ _ h2
      · rw [cstep_pos hgl hag, List.length_set]; exact h3
      · rw [cstep_pos hgl hag]; exact h4
      · rw [cstep_pos hgl hag, List.length_append]; show _ + 1 + m ≤ 100; omega
    · rw [decide_eq_false (by omega), if_neg (by decide)]
      obtain ⟨k2, hk2⟩ : ∃ k2, k2 = (c.k + 1) % rows.length := ⟨_, rfl⟩
      have hk2l : k2 < rows.length := by rw [hk2]; exact Nat.mod_lt _ hpos
      obtain ⟨p2, hp2⟩ : ∃ p2, p2 = pf (rowAt rows k2) (c.pl.getD k2 0) goal := ⟨_, rfl⟩
      refine wss_cons (ws_de (d := .int (k2 : Int)) 3 sc_common.nd (DE.is (de_mod (de_add (de_var (d := .int (c.k : Int)) 3 rfl) de_int) (lenE H11 _ _ _ _ s7 rfl) (by omega)) (congrArg PyData.int (by rw [hk2, Int.natCast_emod]; rfl))) fun v12 H12 s12 e12 => ?_)
      cases (show v12 = _ from e12)
      have s7 := s7.trans s12
      have h1 := s12 _ _ h1
      have h2 := s12 _ _ h2
      refine wss_cons (ws_lset mono_rep (de_call (d := .int (pf (rowAt rows k2) (c.pl.getD k2 0) goal : Int)) (ok_place_from T) hr T.gplace_from passL (aa_cons (rowE H12 _ k2 _ _ _ s7 rfl hk2l plainIx (de_var (d := .int (k2 : Int)) 3 rfl)) (aa_cons (plE H12 _ k2 _ _ _ s7 rfl h1 hk2l plainIx (de_var (d := .int (k2 : Int)) 3 rfl)) (aa_cons (de_var (d := .int goal) 5 rfl) aa_nil))) ⟨rowAt rows k2, c.pl.getD k2 0, goal, (hasc k2 hk2l).1, Nat.le_of_lt (hlt k2 hk2l), by have := (hasc k2 hk2l).2; omega, rfl, rfl⟩)
        (ve_var 1) h1 (de_var (d := .int (k2 : Int)) 3 rfl) (by rw [List.length_map, h3]; exact hk2l) fun v16 H16 s16 e16 => ?_)
      cases (show v16 = _ from e16)
      rw [← hp2, set_vN]
      have s7 : Same H (upd H16 lp (.lst (vN (c.pl.set k2 p2)))) := (s7.trans s16).mut hHp
      have h1 : (upd H16 lp (.lst (vN (c.pl.set k2 p2)))) lp = some (.lst (vN (c.pl.set k2 p2))) := upd_same
      have h2 : (upd H16 lp (.lst (vN (c.pl.set k2 p2)))) lf = some (.lst (c.fd.map V.int)) := by rw [upd_ne (Ne.symm hpf)]; exact s16 _ _ h2
      generalize upd H16 lp (.lst (vN (c.pl.set k2 p2))) = H17 at *
      have hpl2 : ∀ H1 σ2 e1 p1 pos, Same H H1 → σ2[1]? = some (some (V.ref lp)) → H1 lp = some (.lst (vN (c.pl.set k2 p2))) → PlainIx e1 → DE (cxOf (L2.CX P w) P w K mg base n_common "common" (defScope s_common) (He.fAd K ("common", none)) cdv A outer s H E) e1 σ2 H1 (.int (k2 : Int)) → DE (cxOf (L2.CX P w) P w K mg base n_common "common" (defScope s_common) (He.fAd K ("common", none)) cdv A outer s H E) (.Subscript (.Name "places" p1) e1 pos) σ2 H1 (.int (p2 : Int)) := fun H1 σ2 e1 p1 pos s1 h0 hp pi he => de_ixl (ve_lv (ve_var 1 h0) (SqL.of hp) vN_rep) he (atI_n (by rw [List.getElem?_map, List.getElem?_set_self (by omega)]; rfl)) pi
      refine wss_one (ws_if (BT.go (bt_and (k := decide (p2 < (rowAt rows k2).length)) (m := !decide ((rowAt rows k2).getD p2 0 = goal)) (BT.is (bt_cmp (ce_lt (hpl2 H17 _ _ _ _ s7 rfl h1 plainIx (de_var (d := .int (k2 : Int)) 3 rfl)) (de_len T.b_len (DE.qe (rowE H17 _ k2 _ _ _ s7 rfl hk2l plainIx (de_var (d := .int (k2 : Int)) 3 rfl)))))) (by rw [List.length_map, dec_nat])) fun hlt2 => bt_cmp (ce_ne (de_ix (DE.ue (rowE H17 _ k2 _ _ _ s7 rfl hk2l plainIx (de_var (d := .int (k2 : Int)) 3 rfl))) (hpl2 H17 _ _ _ _ s7 rfl h1 plainIx (de_var (d := .int (k2 : Int)) 3 rfl)) (d := .int ((rowAt rows k2).getD p2 0)) (atI_n (by rw [List.getElem?_map, getD_at 0 (of_decide_eq_true hlt2)]; rfl))) (de_var (d := .int goal) 5 rfl))) (Same.refl H17) fun H18 s18 => ?_))
      have s7 := s7.trans s18
      have h1 := s18 _ _ h1
      have h2 := s18 _ _ h2
      have fin : ∀ (H19 : Hp) (ag2 : Nat), Same H H19 → H19 lp = some (.lst (vN (c.pl.set k2 p2))) → H19 lf = some (.lst (c.fd.map V.int)) → ag2 = (if (decide (p2 < (rowAt rows k2).length) && !decide ((rowAt rows k2).getD p2 0 = goal)) = true then 0 else c.ag + 1) → ∃ m', m' < m + 1 ∧ ∃ (c' : CS) (o : Option V), [some (.ref l), some (.ref lp), some (.ref lf), some (.int (k2 : Int)), some (.int (ag2 : Int)), some (.int goal), none] = [some (.ref l), some (.ref lp), some (.ref lf), some (.int (c'.k : Int)), some (.int (c'.ag : Int)), o, none] ∧ Same H H19 ∧ H19 lp = some (.lst (vN c'.pl)) ∧ H19 lf = some (.lst (c'.fd.map V.int)) ∧ c'.pl.length = rows.length ∧ c'.k < rows.length ∧ crun rows m' c' = some res ∧ c'.fd.length + m' ≤ 100 := fun H19 ag2 s19 a1 a2 a3 => by
        refine ⟨m, Nat.lt_succ_self m, cstep rows c, some (.int goal), ?_, s19, ?_, ?_, ?_, ?_, h6, ?_⟩
        · rw [cstep_neg hgl hag hk2 hp2, a3]
        · rw [cstep_neg hgl hag hk2 hp2]; exact a1
        · rw [cstep_neg hgl hag hk2 hp2]; exact a2
        · rw [cstep_neg hgl hag hk2 hp2, List.length_set]; exact h3
        · rw [cstep_neg hgl hag hk2 hp2]; exact hk2l
        · rw [cstep_neg hgl hag hk2 hp2]; show c.fd.length + m ≤ 100; omega
      by_cases hb : (decide (p2 < (rowAt rows k2).length) && !decide ((rowAt rows k2).getD p2 0 = goal)) = true
      · rw [if_pos hb]
        refine wss_one (ws_de (d := .int ((0 : Nat) : Int)) 4 sc_common.nd de_int fun v19 H19 s19 e19 => ?_)
        cases (show v19 = _ from e19)
        exact fin H19 0 (s7.trans s19) (s19 _ _ h1) (s19 _ _ h2) (if_pos hb).symm
      · rw [if_neg hb]
        exact wss_nil (fin H18 (c.ag + 1) s7 h1 h2 (if_neg hb).symm)
  · rw [if_neg hg] at h6 ⊢
    cases h6
    exact wss_one (rt_de s7 (de_tuple T.b_tuple (ve_lv (ve_var 2) (SqL.of h2) RepL.ofInts)) q)
end
end J
/-! A comprehension over two sources whose items are all False. -/
namespace J
open PySem PySem.Spec PyProof.Rows L2
section
variable {X : Cx} {elt iter iter1 : Expr} {scope : Scope} {pos tp tp1 : Pos} {σ : L2.St} {H : Hp} {x y : Str} {α β : Type}
theorem snoc_rep {m : Nat} {d : PyData} : List.replicate m d ++ [d] = List.replicate (m + 1) d := by
  rw [← List.replicate_succ']
theorem lv_c2F (N : List Str) (sc : Scope) (j j1 : Nat) (xs : List α) (enc : α → PyData) (ys : List β) (enc1 : β → PyData) (hw : (σ.set j1 none).set j none = σ) (hj : j ≠ j1) (hc : X.calm = true) (hN : X.N.Nodup) (hit : LV X iter σ H (xs.map enc)) (hz : xs.length * ys.length + ys.length < 100000)
    (a1 : Addr) (us : List V) (t1 : SqT X.K H a1 us) (r1 : RepL H (ys.map enc1) us) (hit1 : ∀ a v H2, a ∈ xs → Same H H2 → Rep H2 (enc a) v → Blk X scope fun Y => VE Y iter1 (σ.set j (some v)) H2 (.ref a1))
    (hb : ∀ a v b u H2, a ∈ xs → b ∈ ys → Same H H2 → Rep H2 (enc a) v → Rep H2 (enc1 b) u → Blk X scope fun Y => DE Y elt ((σ.set j (some v)).set j1 (some u)) H2 (.bool false))
    (ok : blkC N sc scope [(x, j), (y, j1)] = true := by decide +kernel) (h1 : X.N = N := by rfl) (h2 : X.env.scope = sc := by rfl) (hi : X.N[j]? = some x := by rfl) (hl : scope.names.lookup x = some .local := by rfl) (hi1 : X.N[j1]? = some y := by rfl) (hl1 : scope.names.lookup y = some .local := by rfl)
    (hs : ∀ x, foldedSetIterable iter X.env x = pure x := by intro _; rfl) (hs1 : ∀ env x, foldedSetIterable iter1 env x = pure x := by intro _ _; rfl) :
    LV X (.ListComp elt [⟨.Name x tp, iter, [], 0⟩, ⟨.Name y tp1, iter1, [], 0⟩] scope pos) σ H (List.replicate (xs.length * ys.length) (.bool false)) := fun H1 s => by
  have hwipe : wipe σ ([(x, j), (y, j1)].map (·.2)) = σ := hw
  have hw1 : σ.set j1 none = σ := by
    conv => lhs; rw [← hw]
    rw [List.set_comm _ _ hj, List.set_set]; exact hw
  refine we_of (pe_lc2 (own := [(x, j), (y, j1)]) (vs1 := [j1]) (wi1 := iTup X.K (tBlk X scope iter1)) hc hN (pi_list pe_we) (by subst h1 h2; exact blkOk_by ok) (by intro i hi; rw [List.mem_singleton.mp hi]; exact List.mem_cons_of_mem _ List.mem_cons_self) (pg_blk hN hi hl) (pts_blk (ifs := [])) (fun s H C cl fp => pi_tup (pe_blk s H C cl fp)) (pg_blk hN hi1 hl1) (pts_blk (ifs := [])) pe_blk hs hs1) (hit.go s fun v H2 s2 ⟨a, vs, e1, t, r⟩ => ?_)
  refine ⟨a, e1, ⟨vs, t⟩, fun D hD => ?_⟩
  rw [hwipe]
  have hlen : vs.length = xs.length := by rw [r.length, List.length_map]
  refine ⟨fun i m H' => m = vs.length - i ∧ i ≤ vs.length ∧ Cv H2 D (List.replicate (i * ys.length) (.bool false)) H', ⟨_, rfl, Nat.zero_le _, by rw [Nat.zero_mul]; exact Cv.start hD⟩, ?_⟩
  rintro i m H' ⟨rfl, hi', c⟩
  by_cases hlt : i < vs.length
  · refine .inr ⟨⟨vs, vs[i], c.1.seq t, List.getElem?_eq_getElem hlt⟩, fun H'' => i + 1 ≤ vs.length ∧ Cv H2 D (List.replicate ((i + 1) * ys.length) (.bool false)) H'', fun H'' z => ⟨vs.length - (i + 1), by omega, rfl, z.1, z.2⟩, fun x0 H'' y0 => ?_⟩
    obtain ⟨eH, hx⟩ := y0
    subst eH
    have hx := hx vs (c.1.seq t)
    obtain ⟨d, hd, rd⟩ := r.get hx
    obtain ⟨a0, ha0, e⟩ := map_at hd
    subst e
    have ha0 := List.mem_of_getElem? ha0
    refine ⟨?_, ?_⟩
    · show ((σ.set j (some x0)).set j1 none).set j none = σ
      rw [List.set_comm _ _ hj, List.set_set]; exact hw
    intro s0 H0 C cl fp
    constructor
    intro pins st I
    refine thn ((bts_nil H'' (Same.refl H'')).run pins st I) fun k st2 ⟨H3, I3, s3, e3⟩ => ⟨H3, I3, ?_⟩
    subst e3
    rw [if_pos rfl]
    intro s0 H0 C cl fp
    refine EE.go (hit1 a0 x0 H'' ha0 ((s.trans s2).trans c.1) (rd.mono (.of c.1)) s0 H0 C cl fp) s3 fun u H4 s4 e2 => ?_
    have hs4 : Same H H4 := (((s.trans s2).trans c.1).trans s3).trans s4
    refine ⟨a1, e2, ⟨us, sqt_same hs4 t1⟩, ?_⟩
    have hlen1 : us.length = ys.length := by rw [r1.length, List.length_map]
    have c4 : Cv H2 D (List.replicate (i * ys.length) (.bool false)) H4 := by
      obtain ⟨c1, acc, c2, c3⟩ := c
      exact ⟨(c1.trans s3).trans s4, acc, s4 _ _ (s3 _ _ c2), c3.mono (.of (s3.trans s4))⟩
    refine ⟨fun j' m' H5 => m' = us.length - j' ∧ j' ≤ us.length ∧ Cv H2 D (List.replicate (i * ys.length + j') (.bool false)) H5, ⟨_, rfl, Nat.zero_le _, c4⟩, ?_⟩
    rintro j' m' H5 ⟨rfl, hj', c5⟩
    have hs5 : Same H H5 := (s.trans s2).trans c5.1
    have t5 : SqT X.K H5 a1 us := sqt_same hs5 t1
    by_cases hlt1 : j' < us.length
    · refine .inr ⟨⟨us, us[j'], t5, List.getElem?_eq_getElem hlt1⟩, fun H6 => j' + 1 ≤ us.length ∧ Cv H2 D (List.replicate (i * ys.length + (j' + 1)) (.bool false)) H6, fun H6 z => ⟨us.length - (j' + 1), by omega, rfl, z.1, z.2⟩, fun x1 H6 y1 => ?_⟩
      obtain ⟨eH, hx1⟩ := y1
      subst eH
      have hx1 := hx1 us t5
      obtain ⟨d1, hd1, rd1⟩ := r1.get hx1
      obtain ⟨b0, hb0, e⟩ := map_at hd1
      subst e
      have hb0 := List.mem_of_getElem? hb0
      have e6 : wipe (σ.set j (some x0)) [j1] = σ.set j (some x0) := by
        show (σ.set j (some x0)).set j1 none = _
        rw [List.set_comm _ _ hj, hw1]
      rw [e6]
      refine ⟨?_, ?_⟩
      · show ((σ.set j (some x0)).set j1 (some x1)).set j1 none = _
        rw [List.set_set]; exact e6
      have z := cv_turn (X := X) (elt := elt) (ifs := []) (scope := scope) (σ2 := (σ.set j (some x0)).set j1 (some x1)) (f := true) (d := .bool false) hD c5 (by
        rw [List.length_replicate]
        have h7 : i + 1 ≤ xs.length := by omega
        have := Nat.mul_le_mul_right ys.length h7
        rw [Nat.succ_mul] at this
        omega) (fun _ _ _ _ _ => bts_nil) fun _ => hb a0 x0 b0 x1 H6 ha0 hb0 hs5 ((rd.mono (.of c5.1))) (rd1.mono (.of hs5))
      rw [if_pos rfl, snoc_rep] at z
      intro s0 H0 C cl fp
      constructor
      intro pins st I
      refine thn ((z s0 H0 C cl fp).run pins st I) fun k st2 ⟨H7, I7, z7⟩ => ⟨H7, I7, ?_⟩
      cases k with
      | true =>
        rw [if_pos rfl] at z7 ⊢
        exact fun s0 H0 C cl fp => (z7 s0 H0 C cl fp).mono fun y H8 ⟨acc, a1, a2, a3⟩ => ⟨acc, a1, a2, hlt1, a3⟩
      | false =>
        rw [if_neg Bool.false_ne_true] at z7 ⊢
        exact ⟨hlt1, z7⟩
    · have e : j' = us.length := by omega
      subst e
      refine .inl ⟨⟨us, t5, Nat.le_refl _⟩, hlt, ?_⟩
      rw [Nat.succ_mul, ← hlen1]
      rw [← hlen1] at c5
      exact c5
  · have e : i = vs.length := by omega
    subst e
    refine .inl ⟨⟨vs, c.1.seq t, Nat.le_refl _⟩, ?_⟩
    rw [hlen] at c
    obtain ⟨c1, acc, c2, c3⟩ := c
    exact ⟨s2.trans c1, D, acc, rfl, SqL.of c2, c3⟩
end
end J
/-! The trie. -/
namespace J
open PySem PySem.Spec PyProof.Rows L2
section
variable {X : Cx} {a b : Expr} {σ : L2.St} {H : Hp} {pos : Pos} {k m : Bool}
theorem de_or (h1 : DE X a σ H (.bool k)) (h2 : k = false → DE X b σ H (.bool m)) : DE X (.BoolOp .Or [a, b] pos) σ H (.bool (k || m)) := fun H1 s => we_of (pe_or pe_we (pe_one pe_we)) (h1.go s fun v H2 s2 r => ⟨k, r, by
    cases k with
    | true => exact iteT ⟨s2, rfl⟩
    | false => exact iteF ((h2 rfl).go (s.trans s2) fun v H3 s3 r => ⟨s2.trans s3, r⟩)⟩)
theorem ee_newK : EE X (.Dict [] [] pos) σ H fun v H2 => ∃ b, v = .ref b ∧ H b = none ∧ H2 b = some (.dK []) := fun H1 s => we_newK fun p hp => ⟨.new hp, p, rfl, s.free hp, upd_same⟩
end
/-- what follows, by less -/
theorem wss_nx {X : Cx} {sts : List Stmt} {D : Ends} {σ : L2.St} {H : Hp} (R : L2.St → Hp → Prop) (h : WSs X sts { D with nx := R } σ H) (k : ∀ σ' H', R σ' H' → D.nx σ' H') : WSs X sts D σ H := ⟨fun pins s I => thn (h.run pins s I) fun f s1 q => by
  cases f with
  | next => obtain ⟨σ', H', I', q⟩ := q; exact ⟨σ', H', I', k σ' H' q⟩
  | brk => exact q
  | cont => exact q
  | ret v => exact q⟩
structure Nodes (H0 H : Hp) (f : Row → Option Addr) : Prop where
  inj : ∀ p q a, f p = some a → f q = some a → p = q
  new : ∀ p a, f p = some a → H0 a = none
  cl : ∀ p x, (f (p ++ [x])).isSome = true → (f p).isSome = true
  dig : ∀ p a, f p = some a → ∀ n ∈ p, dig3 n
  node : ∀ p a, f p = some a → ∃ (kvs : List (Key × V)) (xs : List Int), H a = some (.dK kvs) ∧ kvs.map (·.1) = xs.map Sum.inl ∧ xs.Nodup ∧ (∀ x, x ∈ xs ↔ (f (p ++ [x])).isSome = true) ∧ ∀ x b, f (p ++ [x]) = some b → valV kvs (.inl x) = some (.ref b)
theorem Nodes.mono {H0 H H' : Hp} {f : Row → Option Addr} (n : Nodes H0 H f) (h : ∀ p a o, f p = some a → H a = some o → H' a = some o) : Nodes H0 H' f :=
  ⟨n.inj, n.new, n.cl, n.dig, fun p a e => let ⟨kvs, xs, h1, r⟩ := n.node p a e; ⟨kvs, xs, h p a _ e h1, r⟩⟩
theorem valV_keys {kvs : List (Key × V)} {xs : List Int} {x : Int} (h : kvs.map (·.1) = xs.map Sum.inl) (hx : x ∉ xs) : valV kvs (.inl x) = none := by
  cases e : valV kvs (.inl x) with
  | none => rfl
  | some v =>
    have z := valV_in e
    rw [h] at z
    obtain ⟨y, hy, e2⟩ := List.mem_map.mp z
    cases e2
    exact absurd hy hx
/-- a new node below the node of p -/
theorem Nodes.add {H0 H H' : Hp} {f : Row → Option Addr} {p : Row} {x : Int} {cur b : Addr} {kvs : List (Key × V)} (n : Nodes H0 H f) (hp : f p = some cur) (hx : f (p ++ [x]) = none) (dx : dig3 x) (hk : H cur = some (.dK kvs)) (hb : H0 b = none) (hbn : H b = none) (h1 : H' b = some (.dK [])) (h2 : H' cur = some (.dK (putK kvs (.inl x) (.ref b))))
    (h3 : ∀ c o, c ≠ cur → c ≠ b → H c = some o → (∃ q, f q = some c) → H' c = some o) : Nodes H0 H' (fun q => if q = p ++ [x] then some b else f q) := by
  have fb : ∀ q, f q ≠ some b := fun q e => by
    obtain ⟨_, _, z, _⟩ := n.node q b e
    rw [hbn] at z; cases z
  refine ⟨fun q r a e1 e2 => ?_, fun q a e => ?_, fun q y e => ?_, fun q a e => ?_, fun q a e => ?_⟩
  · split at e1 <;> split at e2
    · rename_i h h'; rw [h, h']
    · cases e1; exact absurd e2 (fb r)
    · cases e2; exact absurd e1 (fb q)
    · exact n.inj q r a e1 e2
  · split at e
    · cases e; exact hb
    · exact n.new q a e
  · by_cases hq : q = p ++ [x]
    · rw [if_pos hq]; rfl
    · rw [if_neg hq]
      by_cases hy : q ++ [y] = p ++ [x]
      · have := (List.append_inj' hy rfl).1
        rw [this, hp]; rfl
      · rw [if_neg hy] at e; exact n.cl q y e
  · split at e
    · rename_i h
      subst h
      intro m hm
      rcases List.mem_append.mp hm with h | h
      · exact n.dig p cur hp m h
      · rw [List.mem_singleton.mp h]; exact dx
    · exact n.dig q a e
  · by_cases hq : q = p ++ [x]
    · rw [if_pos hq] at e
      cases e
      refine ⟨[], [], h1, rfl, List.nodup_nil, fun y => ⟨fun z => (nomatch z), fun z => ?_⟩, fun y c z => ?_⟩
      · have hne : q ++ [y] ≠ p ++ [x] := fun e => by
          rw [hq] at e
          have := congrArg List.length e
          simp at this
        rw [if_neg hne] at z
        have := n.cl q y z
        rw [hq, hx] at this; cases this
      · have hne : q ++ [y] ≠ p ++ [x] := fun e => by
          rw [hq] at e
          have := congrArg List.length e
          simp at this
        rw [if_neg hne] at z
        have := n.cl q y (by rw [z]; rfl)
        rw [hq, hx] at this; cases this
    · rw [if_neg hq] at e
      obtain ⟨kv2, xs, a1, a2, a3, a4, a5⟩ := n.node q a e
      by_cases hqp : q = p
      · subst hqp
        rw [hp] at e
        cases e
        rw [hk] at a1
        cases a1
        have hxn : x ∉ xs := fun z => by rw [a4, hx] at z; cases z
        refine ⟨_, xs ++ [x], h2, ?_, ?_, fun y => ?_, fun y c z => ?_⟩
        · rw [putK_new _ (valV_keys a2 hxn), List.map_append, a2, List.map_append]; rfl
        · exact List.nodup_append.mpr ⟨a3, List.nodup_cons.mpr ⟨nofun, List.nodup_nil⟩, fun u hu v hv e => hxn (by rw [← List.mem_singleton.mp hv, ← e]; exact hu)⟩
        · rw [List.mem_append, List.mem_singleton, a4]
          by_cases hy : y = x
          · rw [hy, if_pos rfl]; exact ⟨fun _ => rfl, fun _ => .inr rfl⟩
          · rw [if_neg (fun e => hy (by have := (List.append_inj' e rfl).2; cases this; rfl))]
            exact ⟨fun z => z.elim id fun e => absurd e hy, .inl⟩
        · rw [valV_put]
          by_cases hy : y = x
          · rw [hy, if_pos rfl] at z
            cases z
            rw [hy, if_pos rfl]
          · rw [if_neg (fun e => hy (by have := (List.append_inj' e rfl).2; cases this; rfl))] at z
            rw [if_neg (fun e => hy (by cases e; rfl))]
            exact a5 y c z
      · have hne : a ≠ cur := fun e2 => hqp (n.inj q p a e (by rw [hp, e2]))
        have hne2 : a ≠ b := fun e2 => fb q (by rw [e, e2])
        refine ⟨kv2, xs, h3 a _ hne hne2 a1 ⟨q, e⟩, a2, a3, fun y => ?_, fun y c z => ?_⟩
        · rw [if_neg (show ¬ q ++ [y] = p ++ [x] from fun e => hqp (List.append_inj' e rfl).1)]; exact a4 y
        · rw [if_neg (show ¬ q ++ [y] = p ++ [x] from fun e => hqp (List.append_inj' e rfl).1)] at z; exact a5 y c z
section
variable {P : Program} {w : World} {K : PySem.W.Frag} {mg : Str → Option Value} {base : Heap}
abbrev trieF (n0 : Addr) (sz dp : Int) : List (Str × V) := [("top", .ref n0), ("size", .int sz), ("depth", .int dp)]
def putS (K : PySem.W.Frag) : Sp := fun vs H Q _ => ∃ (a l n0 dx : Addr) (H0 : Hp) (f : Row → Option Addr) (sz dp : Int) (es : Row), vs = [.ref a, .ref l] ∧ H l = some (.lst (es.map V.int)) ∧ (∀ n ∈ es, dig3 n) ∧ es.length ≤ 10 ∧
  H a = some (.ins (He.ga K "Trie") dx (trieF n0 sz dp)) ∧ Nodes H0 H f ∧ f [] = some n0 ∧ Same H0 H ∧ H0 a = none ∧
  ∀ H' f' sz', (∀ b o, H b = some o → b ≠ a → (∀ p, f p ≠ some b) → H' b = some o) → Nodes H0 H' f' → f' [] = some n0 → (∀ p, (f' p).isSome = true ↔ (f p).isSome = true ∨ p <+: es) → H' a = some (.ins (He.ga K "Trie") dx (trieF n0 sz' dp)) → Q .non H'
theorem ok_Trie_put (T : Tx K mg) : OkF P w K mg base (L2.CX P w) 1 (He.fAd K ("Trie", some "put")) ["self", "entries"] (putS K) := by
  refine mk_Trie_put T (fun vs H Q E ⟨_, _, _, _, _, _, _, _, _, e, _⟩ => by subst e; rfl) (fun cdv A outer s H vs Q E hr ⟨a, l, n0, dx, H0, f, sz, dp, es, e, hl, hdig, hlen, ha, hn, hf0, hS, hHa, q⟩ => ?_)
  subst e
  have hu := hu_of hr
  have hal : l ≠ a := fun e => by rw [e, ha] at hl; cases hl
  have hfl : ∀ p, f p ≠ some l := fun p e => by
    obtain ⟨_, _, z, _⟩ := hn.node p l e
    rw [hl] at z; cases z
  have hfa : ∀ p, f p ≠ some a := fun p e => by
    obtain ⟨_, _, z, _⟩ := hn.node p a e
    rw [ha] at z; cases z
  refine wss_cons (ws_set 2 sc_Trie_put.nd (EE.go (ve_fld (ve_var 0) ha T.clTrie T.no_Trie_top rfl) (Same.refl H) fun v1 H1 s1 e1 => ?_))
  subst e1
  refine wss_one (ws_forR (g := gName 3) (n := es.length) (passes_of rfl) rfl T.b_range ((DE.is (d2 := .int (es.length : Int)) (de_len T.b_len (LV.qe (ve_lv (ve_var 1) (SqL.of (s1 _ _ hl)) RepL.ofInts))) (by rw [List.length_map])).go (Same.refl H1) fun v2 H2 s2 e2 => ⟨e2, fun i σ' H' => ∃ (f' : Row → Option Addr) (sz' : Int) (cur : Addr) (o : Option V), σ' = [some (.ref a), some (.ref l), some (.ref cur), o] ∧ (∀ b o, H b = some o → b ≠ a → (∀ p, f p ≠ some b) → H' b = some o) ∧ Nodes H0 H' f' ∧ f' [] = some n0 ∧ (∀ p, (f' p).isSome = true ↔ (f p).isSome = true ∨ p <+: es.take i) ∧ f' (es.take i) = some cur ∧ (∀ p c, f' p = some c → f p = some c ∨ H c = none) ∧ (∀ p c, f p = some c → f' p = some c) ∧ H' a = some (.ins (He.ga K "Trie") dx (trieF n0 sz' dp)), ?_, ?_, ?_⟩) (by omega) (pg_name sc_Trie_put.nd rfl (.inl rfl)))
  · have s12 := s1.trans s2
    refine ⟨f, sz, n0, none, rfl, fun b o h _ _ => s12 b o h, hn.mono fun _ _ _ _ h => s12 _ _ h, hf0, fun p => ⟨.inl, fun z => z.elim id fun z => ?_⟩, by rw [List.take_zero]; exact hf0, fun _ _ z => .inl z, fun _ _ z => z, s12 _ _ ha⟩
    rw [List.take_zero, List.prefix_nil] at z
    rw [z, hf0]; rfl
  · rintro i σ' H' hi ⟨f', sz', cur, o, eσ, hfr, hn', hf0', hdom, hcur, hor, hkp, ha'⟩
    subst eσ
    have hl' := hfr _ _ hl hal hfl
    have hx : es[i]? = some es[i] := List.getElem?_eq_getElem hi
    have etk : es.take (i + 1) = es.take i ++ [es[i]] := by rw [List.take_add_one, hx]; rfl
    have hdx : dig3 es[i] := hdig _ (List.getElem_mem hi)
    have hS' : Same H0 H' := fun b o h => hfr b o (hS b o h) (fun e => by rw [e, hHa] at h; cases h) fun p e => by rw [hn.new p b e] at h; cases h
    obtain ⟨kvs, xs, k1, k2, k3, k4, k5⟩ := hn'.node _ _ hcur
    have hxs : xs.length ≤ 3 := List.Nodup.length_le_of_subset (l₂ := [0, 1, 2]) k3 fun x hx => by
      have z := (k4 x).mp hx
      obtain ⟨b, hb⟩ := Option.isSome_iff_exists.mp z
      rcases hn'.dig _ _ hb x (List.mem_append_right _ List.mem_cons_self) with e | e | e <;> rw [e] <;> decide
    have hkl : kvs.length = xs.length := by
      have := congrArg List.length k2
      rwa [List.length_map, List.length_map] at this
    have entE : ∀ H3 cur2 p1 p2 pos, Same H' H3 ∨ H3 l = some (.lst (es.map V.int)) → DE (cxOf (L2.CX P w) P w K mg base n_Trie_put "Trie.put" (defScope s_Trie_put) (He.fAd K ("Trie", some "put")) cdv A outer s H E) (.Subscript (.Name "entries" p1) (.Name "k" p2) pos) [some (.ref a), some (.ref l), some (.ref cur2), some (.int (i : Int))] H3 (.int es[i]) := fun H3 cur2 p1 p2 pos s3 => de_ixl (ve_lv (ve_var 1) (SqL.of (s3.elim (fun s => s _ _ hl') id)) RepL.ofInts) (de_var (d := .int (i : Int)) 3 rfl) (atI_n (by rw [List.getElem?_map, hx]; rfl))
    refine wss_cons (ws_if (BT.go (bt_cmp (ce_dninK hu (ve_int (entE H' cur _ _ _ (.inl (Same.refl _)))) (ve_var 2) (.inl k1))) (Same.refl H') fun H3 s3 => ?_))
    cases hfx : f' (es.take i ++ [es[i]]) with
    | some b =>
      rw [k5 _ _ hfx, if_neg (by simp)]
      refine wss_nil (wss_one (ws_set 2 sc_Trie_put.nd (EE.go (ve_dgetK hu (ve_var 2) (.inl (s3 _ _ k1)) (ve_int (entE H3 cur _ _ _ (.inl s3))) (k5 _ _ hfx)) (Same.refl H3) fun v4 H4 s4 e4 => ?_)))
      subst e4
      have s34 := s3.trans s4
      refine ⟨f', sz', b, _, rfl, fun b o h h1 h2 => s34 _ _ (hfr b o h h1 h2), hn'.mono fun _ _ _ _ h => s34 _ _ h, hf0', fun p => ?_, by rw [etk]; exact hfx, hor, hkp, s34 _ _ ha'⟩
      rw [hdom, etk, List.prefix_concat_iff]
      refine ⟨fun z => z.elim .inl fun z => .inr (.inr z), fun z => z.elim .inl fun z => z.elim (fun e => ?_) .inr⟩
      have := (hdom (es.take i ++ [es[i]])).mp (by rw [hfx]; rfl)
      rw [e]; exact this
    | none =>
      have hxn : es[i] ∉ xs := fun z => by rw [k4, hfx] at z; cases z
      rw [valV_keys k2 hxn, if_pos (by decide)]
      refine wss_cons (ws_dputK hu (P := fun v H2 => ∃ b, v = .ref b ∧ H3 b = none ∧ H2 b = some (.dK [])) (fun v H H' s ⟨b, h1, h2, h3⟩ => ⟨b, h1, h2, s _ _ h3⟩) ee_newK (ve_var 2) (s3 _ _ k1) (ve_int (entE H3 cur _ _ _ (.inl s3))) (by omega) fun v4 H4 s4 ⟨b, e4, hb3, hb4⟩ => ?_)
      subst e4
      have hbH' : H' b = none := s3.free hb3
      have hbc : b ≠ cur := fun e => by rw [e, k1] at hbH'; cases hbH'
      have hba : b ≠ a := fun e => by rw [e, ha'] at hbH'; cases hbH'
      have hac : a ≠ cur := fun e => by rw [e, k1] at ha'; cases ha'
      have hlc : l ≠ cur := fun e => by rw [e, k1] at hl'; cases hl'
      have s34 := s3.trans s4
      generalize hH5 : upd H4 cur (.dK (putK kvs (Sum.inl es[i]) (.ref b))) = H5
      have c5 : H5 cur = some (.dK (putK kvs (Sum.inl es[i]) (.ref b))) := by rw [← hH5]; exact upd_same
      have o5 : ∀ c o, c ≠ cur → H' c = some o → H5 c = some o := fun c o h1 h2 => by rw [← hH5, upd_ne h1]; exact s34 _ _ h2
      have b5 : H5 b = some (.dK []) := by rw [← hH5, upd_ne hbc]; exact hb4
      have curno : ∀ b o, H b = some o → b ≠ a → (∀ p, f p ≠ some b) → b ≠ cur := fun b o h h1 h2 e => by
        subst e
        rcases hor _ _ hcur with z | z
        · exact h2 _ z
        · rw [h] at z; cases z
      have hbHn : H b = none := by
        cases e : H b with
        | none => rfl
        | some o =>
          by_cases e2 : ∃ p, f p = some b
          · obtain ⟨p, hp⟩ := e2
            obtain ⟨_, _, z, _⟩ := hn'.node _ _ (hkp p b hp)
            rw [hbH'] at z; cases z
          · have := hfr b o e hba fun p hp => e2 ⟨p, hp⟩
            rw [hbH'] at this; cases this
      have hb0 : H0 b = none := by
        cases e : H0 b with
        | none => rfl
        | some o => have := hS b o e; rw [hbHn] at this; cases this
      have n5 : Nodes H0 H5 (fun q => if q = es.take i ++ [es[i]] then some b else f' q) := hn'.add hcur hfx hdx k1 hb0 hbH' b5 c5 fun c o h1 h2 h3 h4 => o5 c o h1 h3
      have a5 : H5 a = some (.ins (He.ga K "Trie") dx (trieF n0 sz' dp)) := o5 a _ hac ha'
      have hl5 := o5 l _ hlc hl'
      refine wss_nx (fun σ6 H6 => ∃ sz6 : Int, σ6 = [some (.ref a), some (.ref l), some (.ref cur), some (.int (i : Int))] ∧ (∀ c o, c ≠ a → H5 c = some o → H6 c = some o) ∧ H6 a = some (.ins (He.ga K "Trie") dx (trieF n0 sz6 dp))) (wss_one (ws_if (BT.go (bt_cmp (ce_eq (de_add (de_var (d := .int (i : Int)) 3 rfl) de_int) (DE.is (d2 := .int (es.length : Int)) (de_len T.b_len (LV.qe (ve_lv (ve_var 1) (SqL.of hl5) RepL.ofInts))) (by rw [List.length_map])))) (Same.refl H5) fun H6 s6 => ?_))) ?_
      · by_cases hlast : (i : Int) + 1 = (es.length : Int)
        · rw [decide_eq_true hlast, if_pos rfl]
          refine wss_one (ws_fld mono_rep (de_add (de_n (ve_fld (ve_var 0) (s6 _ _ a5) T.clTrie T.no_Trie_size rfl)) de_int) (ve_var 0) (s6 _ _ a5) T.clTrie T.no_Trie_size (by show 3 < 1000; decide) fun v7 H7 s7 r7 => ?_)
          cases (show v7 = _ from r7)
          exact ⟨sz' + 1, rfl, fun c o h1 h2 => by rw [upd_ne h1]; exact s7 _ _ (s6 _ _ h2), by rw [upd_same]; rfl⟩
        · rw [decide_eq_false hlast, if_neg (by decide)]
          exact wss_nil ⟨sz', rfl, fun c o h1 h2 => s6 _ _ h2, s6 _ _ a5⟩
      · rintro σ6 H6 ⟨sz6, eσ, h6, a6⟩
        subst eσ
        refine wss_one (ws_set 2 sc_Trie_put.nd (EE.go (ve_dgetK hu (ve_var 2) (.inl (h6 cur _ (Ne.symm hac) c5)) (ve_int (entE H6 cur _ _ _ (.inr (h6 l _ hal (o5 l _ hlc hl'))))) (by rw [valV_put, if_pos rfl])) (Same.refl H6) fun v7 H7 s7 e7 => ?_))
        subst e7
        refine ⟨_, sz6, b, _, rfl, fun c o h1 h2 h3 => s7 _ _ (h6 c o h2 (o5 c o (curno c o h1 h2 h3) (hfr c o h1 h2 h3))), n5.mono fun p c o h1 h2 => s7 _ _ (h6 c o (fun e => ?_) h2), ?_, fun p => ?_, ?_, fun p c h => ?_, fun p c h => ?_, s7 _ _ a6⟩
        · obtain ⟨_, _, z, _⟩ := n5.node p c h1
          rw [e, a5] at z; cases z
        · rw [if_neg (show ¬ ([] : Row) = es.take i ++ [es[i]] from fun e => nomatch (List.append_eq_nil_iff.mp e.symm).2)]; exact hf0'
        · rw [etk, List.prefix_concat_iff]
          by_cases hp : p = es.take i ++ [es[i]]
          · rw [if_pos hp]; exact ⟨fun _ => .inr (.inl hp), fun _ => rfl⟩
          · rw [if_neg hp, hdom]
            exact ⟨fun z => z.elim .inl fun z => .inr (.inr z), fun z => z.elim .inl fun z => z.elim (fun e => absurd e hp) .inr⟩
        · rw [etk, if_pos rfl]
        · by_cases hp : p = es.take i ++ [es[i]]
          · rw [if_pos hp] at h; cases h; exact .inr hbHn
          · rw [if_neg hp] at h; exact hor p c h
        · by_cases hp : p = es.take i ++ [es[i]]
          · have := hkp p c h
            rw [hp, hfx] at this; cases this
          · rw [if_neg hp]; exact hkp p c h
  · rintro σ' H' ⟨f', sz', cur, o, eσ, hfr, hn', hf0', hdom, hcur, hor, hkp, ha'⟩
    exact q H' f' sz' hfr hn' hf0' (fun p => by rw [hdom, List.take_length]) ha'
def TrieAt (K : PySem.W.Frag) (H : Hp) (a : Addr) (ks : List Row) : Prop := ∃ (f : Row → Option Addr) (n0 dx : Addr) (sz dp : Int), H a = some (.ins (He.ga K "Trie") dx (trieF n0 sz dp)) ∧ Nodes (fun _ => none) H f ∧ f [] = some n0 ∧ ∀ p, (f p).isSome = true ↔ p = [] ∨ ∃ k ∈ ks, p <+: k
theorem TrieAt.mono {H H' : Hp} {a : Addr} {ks : List Row} (t : TrieAt K H a ks) (s : Same H H') : TrieAt K H' a ks :=
  let ⟨f, n0, dx, sz, dp, h1, h2, h3, h4⟩ := t
  ⟨f, n0, dx, sz, dp, s _ _ h1, h2.mono fun _ _ _ _ h => s _ _ h, h3, h4⟩
theorem Nodes.pre {H0 H : Hp} {f : Row → Option Addr} (n : Nodes H0 H f) (p : Row) : ∀ q : Row, (f (p ++ q)).isSome = true → (f p).isSome = true := by
  have z : ∀ r : Row, (f (p ++ r.reverse)).isSome = true → (f p).isSome = true := fun r => by
    induction r with
    | nil => rw [List.reverse_nil, List.append_nil]; exact id
    | cons x r ih => exact fun h => ih (n.cl (p ++ r.reverse) x (by rw [List.append_assoc, ← List.reverse_cons]; exact h))
  intro q h
  exact z q.reverse (by rw [List.reverse_reverse]; exact h)
def nodeAtS (K : PySem.W.Frag) : Sp := fun vs H Q _ => ∃ (a n0 dx : Addr) (vp : V) (f : Row → Option Addr) (sz dp : Int) (pre : Row), vs = [.ref a, vp] ∧ H a = some (.ins (He.ga K "Trie") dx (trieF n0 sz dp)) ∧ Nodes (fun _ => none) H f ∧ f [] = some n0 ∧ Rep H (eRow pre) vp ∧
  ∀ v H', Same H H' → v = (match f pre with | some b => V.ref b | none => V.non) → Q v H'
theorem ok_Trie_node_at (T : Tx K mg) : OkF P w K mg base (L2.CX P w) 1 (He.fAd K ("Trie", some "node_at")) ["self", "prefix"] (nodeAtS K) := by
  refine mk_Trie_node_at T (fun vs H Q E ⟨_, _, _, _, _, _, _, _, e, _⟩ => by subst e; rfl) (fun cdv A outer s H vs Q E hr ⟨a, n0, dx, vp, f, sz, dp, pre, e, ha, hn, hf0, rp, q⟩ => ?_)
  subst e
  have hu := hu_of hr
  refine wss_cons (ws_set 2 sc_Trie_node_at.nd (EE.go (ve_fld (ve_var 0) ha T.clTrie T.no_Trie_top rfl) (Same.refl H) fun v1 H1 s1 e1 => ?_))
  subst e1
  refine wss_cons (ws_forU (passes_of rfl) rfl (DE.ue (de_var 1 (rp.mono (.of s1)))) (pg_name (i := 3) sc_Trie_node_at.nd rfl (.inl rfl)) (fun H2 i σ' H' => Same H2 H' ∧ ∃ cur o, σ' = [some (.ref a), some vp, some (.ref cur), o] ∧ f (pre.take i) = some cur) (fun H2 s2 => ⟨.refl _, n0, none, rfl, by rw [List.take_zero]; exact hf0⟩) (fun H2 i σ' H' z => .of z.1) ?_ ?_)
  · rintro H2 i d v σ' H' s2 hd rd ⟨s3, cur, o, eσ, hcur⟩
    subst eσ
    obtain ⟨x, hx, e⟩ := map_at hd
    subst e
    have s13 := (s1.trans s2).trans s3
    have etk : pre.take (i + 1) = pre.take i ++ [x] := by rw [List.take_add_one, hx]; rfl
    obtain ⟨kvs, xs, k1, k2, k3, k4, k5⟩ := hn.node _ _ hcur
    refine wss_cons (ws_if (BT.go (bt_cmp (ce_dninK hu (ve_int (de_var 3 rd)) (ve_var 2) (.inl (s13 _ _ k1)))) (Same.refl H') fun H4 s4 => ?_))
    cases hfx : f (pre.take i ++ [x]) with
    | some b =>
      rw [k5 _ _ hfx, if_neg (by simp)]
      refine wss_nil (wss_one (ws_set 2 sc_Trie_node_at.nd (EE.go (ve_dgetK hu (ve_var 2) (.inl (s4 _ _ (s13 _ _ k1))) (ve_int (de_var 3 (rd.mono (.of s4)))) (k5 _ _ hfx)) (Same.refl H4) fun v5 H5 s5 e5 => ?_)))
      subst e5
      exact ⟨(s3.trans s4).trans s5, b, _, rfl, by rw [etk]; exact hfx⟩
    | none =>
      rw [valV_keys k2 (fun z => by rw [k4, hfx] at z; cases z), if_pos (by decide)]
      refine wss_one (rt_ee (s13.trans s4) (de_non) fun v' H5 s5 r5 => q v' H5 s5 ?_)
      have : f pre = none := by
        cases hp : f pre with
        | none => rfl
        | some b =>
          have z := hn.pre (pre.take (i + 1)) (pre.drop (i + 1)) (by rw [List.take_append_drop, hp]; rfl)
          rw [etk, hfx] at z; cases z
      rw [this]; exact r5
  · rintro H2 σ' H' s2 ⟨s3, cur, o, eσ, hcur⟩
    subst eσ
    rw [List.length_map, List.take_length] at hcur
    exact wss_one (rt_ee ((s1.trans s2).trans s3) (ve_var 2) fun v' H5 s5 e5 => q v' H5 s5 (by rw [hcur]; exact e5))
def childS (K : PySem.W.Frag) : Sp := fun vs H Q _ => ∃ (a : Addr) (vp : V) (ks : List Row) (pre : Row), vs = [.ref a, vp] ∧ TrieAt K H a ks ∧ Rep H (eRow pre) vp ∧ ∀ v H', Same H H' → Rep H' (eRow (only3 fun x => decide (∃ k ∈ ks, pre ++ [x] <+: k))) v → Q v H'
theorem ok_Trie_children (T : Tx K mg) : OkF P w K mg base (L2.CX P w) 2 (He.fAd K ("Trie", some "children")) ["self", "prefix"] (childS K) := by
  refine mk_Trie_children T (fun vs H Q E ⟨_, _, _, _, e, _⟩ => by subst e; rfl) (fun cdv A outer s H vs Q E hr ⟨a, vp, ks, pre, e, ⟨f, n0, dx, sz, dp, ha, hn, hf0, hdom⟩, rp, q⟩ => ?_)
  subst e
  have hS : only3 (fun x => decide (∃ k ∈ ks, pre ++ [x] <+: k)) = only3 fun x => (f (pre ++ [x])).isSome := by
    congr 1
    funext x
    have z := hdom (pre ++ [x])
    cases hf : (f (pre ++ [x])).isSome with
    | true =>
      rcases z.mp hf with e | e
      · exact absurd e (by simp)
      · exact decide_eq_true e
    | false => exact decide_eq_false fun e => by rw [z.mpr (.inr e)] at hf; cases hf
  rw [hS] at q
  refine wss_cons (ws_set 2 sc_Trie_children.nd (we_meth (ok_Trie_node_at T) hr (ve_var 0) ha T.clTrie T.me_Trie_node_at rfl passL (aa_one (de_var 1 rp)) fun vs H1 s1 ⟨v1, e1, r1⟩ => ?_))
  subst e1
  refine ⟨a, n0, dx, v1, f, sz, dp, pre, rfl, s1 _ _ ha, hn.mono fun _ _ _ _ h => s1 _ _ h, hf0, r1, fun v2 H2 s2 e2 => ?_⟩
  subst e2
  have s12 := s1.trans s2
  cases hp : f pre with
  | none =>
    refine wss_cons (ws_if (BT.go (bt_cmp (ce_isN (k := true) (ve_var 2) fun v H5 e5 => by rw [e5]; rfl)) (Same.refl H2) fun H3 s3 => ?_))
    rw [if_pos rfl]
    refine wss_one (rt_de (s12.trans s3) (de_tup aa_nil rfl (by decide)) fun v' H5 s5 r5 => q v' H5 s5 ?_)
    have : only3 (fun x => (f (pre ++ [x])).isSome) = [] := by
      refine List.filter_eq_nil_iff.mpr fun x _ => ?_
      cases hf : (f (pre ++ [x])).isSome with
      | false => decide
      | true => have z := hn.cl pre x hf; rw [hp] at z; cases z
    rw [this]
    exact r5
  | some b =>
    obtain ⟨kvs, xs, k1, k2, k3, k4, k5⟩ := hn.node _ _ hp
    refine wss_cons (ws_if (BT.go (bt_cmp (ce_isN (k := false) (ve_var 2) fun v H5 e5 => by rw [e5]; rfl)) (Same.refl H2) fun H3 s3 => ?_))
    rw [if_neg (by decide)]
    have hsub : ∀ x ∈ xs, x ∈ ([0, 1, 2] : List Int) := fun x hx => by
      have z := (k4 x).mp hx
      obtain ⟨b, hb⟩ := Option.isSome_iff_exists.mp z
      rcases hn.dig _ _ hb x (List.mem_append_right _ List.mem_cons_self) with e | e | e <;> rw [e] <;> simp
    have hxs : xs.length ≤ 3 := List.Nodup.length_le_of_subset (l₂ := [0, 1, 2]) k3 hsub
    refine wss_nil (wss_one (rt_de (s12.trans s3) (de_tuple T.b_tuple (LE.lv (le_srtKI (S := fun x => (f (pre ++ [x])).isSome) rfl T.b_sorted (ve_var 2) (s12.trans s3 _ _ k1) k2 (by omega) k3 fun x => ?_))) q))
    rw [mem_only3, k4]
    refine ⟨fun z => ⟨?_, z⟩, fun z => z.2⟩
    have := hsub x ((k4 x).mpr z)
    simpa using this
end
end J
/-! The trie's making. -/
namespace J
open PySem PySem.Spec PyProof.Rows L2
theorem LE.ee {X : Cx} {e : Expr} {σ : L2.St} {H : Hp} {ds : List PyData} (h : LE X e σ H ds) : EE X e σ H fun v H2 => ∃ (l : Addr) (xs : List V), v = .ref l ∧ H2 l = some (.lst xs) ∧ RepL H2 ds xs := fun H1 s => h.go s fun l xs H2 s2 h1 h2 h3 => ⟨s2, l, xs, rfl, h2, h3⟩
theorem ws_fldD {X : Cx} {o value : Expr} {σ : L2.St} {H : Hp} {pos tpos : Pos} {a : Addr} {D : Ends} {x : Str} {C dx : Addr} {fs : List (Str × V)} (d : PyData) (h : DE X value σ H d) (ho : VE X o σ H (.ref a)) (ha : H a = some (.ins C dx fs)) (c : Cls X.K C) (n : NoAttr X.K C x) (q : ∀ v H1, Same H H1 → Rep H1 d v → D.nx σ (upd H1 a (.ins C dx (putF x v fs)))) (hz : fs.length < 1000 := by decide) (hs : swapsWith value (some (.Attribute o x tpos)) pos.line X.env = pure false := by rfl) :
    WS X (.Assign [.Attribute o x tpos] value pos) D σ H := ws_fld mono_rep h ho ha c n hz q hs
def ipos (ps : List Nat) : List Int := ps.map fun k : Nat => (k : Int)
def keyOf (ps : List Nat) (r : Row) : Row := ps.map fun k => r.getD k 0
theorem keyOf_ip (ps : List Nat) (r : Row) : (ipos ps).map (fun k => PyData.int (r.getD k.toNat 0)) = (keyOf ps r).map .int := by
  unfold ipos keyOf
  rw [List.map_map, List.map_map]
  rfl
section
variable {P : Program} {w : World} {K : PySem.W.Frag} {mg : Str → Option Value} {base : Heap}
/-- .. all of whose objects are new since H0 -/
def TrieAtB (K : PySem.W.Frag) (H0 H : Hp) (a : Addr) (ks : List Row) : Prop := ∃ (f : Row → Option Addr) (n0 dx : Addr) (sz dp : Int), H0 a = none ∧ H a = some (.ins (He.ga K "Trie") dx (trieF n0 sz dp)) ∧ Nodes H0 H f ∧ f [] = some n0 ∧ ∀ p, (f p).isSome = true ↔ p = [] ∨ ∃ k ∈ ks, p <+: k
theorem TrieAtB.to {H0 H H' : Hp} {a : Addr} {ks : List Row} (t : TrieAtB K H0 H a ks) (h : ∀ b o, H0 b = none → H b = some o → H' b = some o) : TrieAtB K H0 H' a ks :=
  let ⟨f, n0, dx, sz, dp, h0, h1, h2, h3, h4⟩ := t
  ⟨f, n0, dx, sz, dp, h0, h a _ h0 h1, h2.mono fun p a o e z => h a o (h2.new p a e) z, h3, h4⟩
theorem TrieAtB.low {H0 H1 H : Hp} {a : Addr} {ks : List Row} (t : TrieAtB K H1 H a ks) (s : Same H0 H1) : TrieAtB K H0 H a ks :=
  let ⟨f, n0, dx, sz, dp, h0, h1, h2, h3, h4⟩ := t
  ⟨f, n0, dx, sz, dp, s.free h0, h1, ⟨h2.inj, fun p a e => s.free (h2.new p a e), h2.cl, h2.dig, h2.node⟩, h3, h4⟩
theorem TrieAtB.at {H0 H : Hp} {a : Addr} {ks : List Row} (t : TrieAtB K H0 H a ks) : TrieAt K H a ks :=
  let ⟨f, n0, dx, sz, dp, h0, h1, h2, h3, h4⟩ := t
  ⟨f, n0, dx, sz, dp, h1, ⟨h2.inj, fun _ _ _ => rfl, h2.cl, h2.dig, h2.node⟩, h3, h4⟩
def trieInitS (K : PySem.W.Frag) : Sp := fun vs H Q _ => ∃ (a lr dx : Addr) (vp : V) (H0 : Hp) (xs : List V) (rows : List Row) (ps : List Nat), vs = [.ref a, .ref lr, vp] ∧ H a = some (.ins (He.ga K "Trie") dx []) ∧ Same H0 H ∧ H0 a = none ∧ SqL K H0 lr xs ∧ RepL H0 (rows.map eRow) xs ∧ Rep H0 (eRow (ipos ps)) vp ∧
  ps ≠ [] ∧ ps.Nodup ∧ ps.length ≤ 4 ∧ rows.length ≤ 100 ∧ (∀ r ∈ rows, (∀ k ∈ ps, k < r.length) ∧ ∀ n ∈ r, dig3 n) ∧ ∀ H', Same H0 H' → TrieAtB K H0 H' a (rows.map (keyOf ps)) → Q .non H'
theorem ok_Trie_init (T : Tx K mg) : OkF P w K mg base (L2.CX P w) 2 (He.fAd K ("Trie", some "__init__")) ["self", "rows", "positions"] (trieInitS K) := by
  refine mk_Trie_init T (fun vs H Q E ⟨_, _, _, _, _, _, _, _, e, _⟩ => by subst e; rfl) (fun cdv A outer s H vs Q E hr ⟨a, lr, dx, vp, H0, xs, rows, ps, e, ha, hS, h0a, tr, rr, rp, hne, hnd, hp4, hr100, hrows, q⟩ => ?_)
  subst e
  have rp1 := rp.mono (.of hS)
  have hipl : (ipos ps).length = ps.length := List.length_map ..
  have hpos : 0 < ps.length := List.length_pos_iff.mpr hne
  have hipn : (ipos ps).Nodup := List.Pairwise.map _ (fun x y (h : x ≠ y) e => h (Int.ofNat.inj e)) hnd
  refine wss_cons (ws_de 3 sc_Trie_init.nd (DE.is (d2 := .bool true) (de_and (de_cmp (ce_gt (de_len T.b_len (DE.qe (de_var 2 rp1))) de_int)) fun _ => de_not (de_any (bs := (List.range (ipos ps).length).map fun _ => false) rfl T.b_any (LE.lv (LE.is (le_mR n_Trie_init (defScope s_Trie_init) 5 (ipos ps).length (fun _ => .bool false) rfl sc_Trie_init.nd T.b_range (DE.is (de_len T.b_len (DE.qe (de_var 2 rp1))) (by rw [List.length_map])) (by omega) fun i H4 hi s4 => ?_) (by rw [List.map_map]; rfl))))) ?_) fun g H1 s1 rg => ?_)
  · intro s5 H5 C cl fp
    have rx4 := rp1.mono (.of s4)
    have h1 : (ipos ps)[i]? = some (ipos ps)[i] := List.getElem?_eq_getElem hi
    refine DE.is (de_cmp (ce_ini (i := (ipos ps)[i]) (ys := (ipos ps).take i) (de_ix (DE.ue (de_var 2 rx4)) (de_var (d := .int (i : Int)) 5 rfl) (atI_n (by rw [List.getElem?_map, h1]; rfl))) (UE.qe (ue_slice (DE.ue (de_var 2 rx4)) oe_none (oe_some (de_var (d := .int (i : Int)) 5 rfl)) (by rw [cut_to (by rw [List.length_map]; omega), List.map_take]))))) ?_
    have : ¬ (ipos ps)[i] ∈ (ipos ps).take i := fun hm => by
      obtain ⟨j, hj, e⟩ := List.getElem_of_mem hm
      rw [List.length_take] at hj
      rw [List.getElem_take] at e
      exact absurd ((List.getElem_inj hipn).mp e) (by omega)
    rw [show ((ipos ps).take i).contains (ipos ps)[i] = false from Bool.eq_false_iff.mpr fun z => this (List.contains_iff_mem.mp z)]
  · rw [List.length_map, decide_eq_true (by omega), List.any_map, show ((List.range (ipos ps).length).any (id ∘ fun _ => false)) = false by simp]
    rfl
  have hS1 := hS.trans s1
  obtain ⟨pa, us, evp, tp, rlp⟩ := (rp.mono (.of hS1)).seq (K := K)
  subst evp
  refine wss_cons (ws_if (BT.go (bt_or (bt_not (bt_val (de_var 3 rg))) fun _ => bt_val (de_any (bs := List.replicate (rows.length * (ipos ps).length) false) rfl T.b_any (lv_c2F n_Trie_init (defScope s_Trie_init) 4 5 rows eRow (ipos ps) .int rfl (by decide) rfl sc_Trie_init.nd (ve_lv (ve_var 1) (hS1.seq tr) (rr.mono (.of hS1))) ?_ pa us tp rlp ?_ ?_ |>.imp fun v H2 _ z => by rw [List.map_replicate]; exact z))) (Same.refl H1) fun H2 s2 => ?_))
  · rw [hipl]
    have := Nat.mul_le_mul hr100 hp4
    omega
  · intro r v H2 hr2 s2 rv s3 H3 C cl fp
    exact ve_var 2
  · intro r v k u H2 hr2 hk s2 rv ru s3 H3 C cl fp
    obtain ⟨n, hn, e⟩ := List.mem_map.mp hk
    subst e
    have hlt := (hrows r hr2).1 n hn
    refine DE.is (de_or (de_cmp (ce_lt (de_var 5 ru) de_int)) fun _ => de_cmp (ce_ge (de_var 5 ru) (de_len T.b_len (DE.qe (de_var 4 rv))))) ?_
    rw [List.length_map, decide_eq_false (by omega), decide_eq_false (by omega)]
    rfl
  rw [show (List.replicate (rows.length * (ipos ps).length) false).any id = false by rw [List.any_replicate]; split <;> rfl, if_neg (by decide)]
  have hS2 := hS1.trans s2
  have ha2 := s2 _ _ (s1 _ _ ha)
  refine wss_nil (wss_cons (ws_fldW (we_newK fun n0 hn0 => ⟨ve_var 0, (Same.new hn0) _ _ ha2, T.clTrie, T.no_Trie_top, by decide, fun H3 s3 => ?_⟩)))
  have han : n0 ≠ a := fun e => by rw [e, ha2] at hn0; cases hn0
  have h0n : H0 n0 = none := hS2.free hn0
  have hS3 : Same H0 (upd H3 a (.ins (He.ga K "Trie") dx (putF "top" (.ref n0) []))) := (hS2.trans ((Same.new hn0).trans s3)).mut h0a
  have hn3 : (upd H3 a (.ins (He.ga K "Trie") dx (putF "top" (.ref n0) []))) n0 = some (.dK []) := by rw [upd_ne han]; exact s3 _ _ upd_same
  have ha3 : (upd H3 a (.ins (He.ga K "Trie") dx (putF "top" (.ref n0) []))) a = some (.ins (He.ga K "Trie") dx [("top", .ref n0)]) := by rw [upd_same]; rfl
  generalize upd H3 a (.ins (He.ga K "Trie") dx (putF "top" (.ref n0) [])) = H4 at *
  refine wss_cons (ws_fldD (.int 0) de_int (ve_var 0) ha3 T.clTrie T.no_Trie_size (fun v5 H5 s5 r5 => ?_) (by show 1 < 1000; decide))
  cases (show v5 = _ from r5)
  have hS4 : Same H0 (upd H5 a (.ins (He.ga K "Trie") dx (putF "size" (.int 0) [("top", .ref n0)]))) := (hS3.trans s5).mut h0a
  have hn4 : (upd H5 a (.ins (He.ga K "Trie") dx (putF "size" (.int 0) [("top", .ref n0)]))) n0 = some (.dK []) := by rw [upd_ne han]; exact s5 _ _ hn3
  have ha4 : (upd H5 a (.ins (He.ga K "Trie") dx (putF "size" (.int 0) [("top", .ref n0)]))) a = some (.ins (He.ga K "Trie") dx [("top", .ref n0), ("size", .int 0)]) := by rw [upd_same]; rfl
  generalize upd H5 a (.ins (He.ga K "Trie") dx (putF "size" (.int 0) [("top", .ref n0)])) = H6 at *
  refine wss_cons (ws_fldD (.int (ps.length : Int)) (DE.is (de_len T.b_len (DE.qe (de_var 2 (rp.mono (.of hS4))))) (by rw [List.length_map, hipl])) (ve_var 0) ha4 T.clTrie T.no_Trie_depth (fun v7 H7 s7 r7 => ?_) (by show 2 < 1000; decide))
  cases (show v7 = _ from r7)
  have hS5 : Same H0 (upd H7 a (.ins (He.ga K "Trie") dx (putF "depth" (.int ps.length) [("top", .ref n0), ("size", .int 0)]))) := (hS4.trans s7).mut h0a
  have hn5 : (upd H7 a (.ins (He.ga K "Trie") dx (putF "depth" (.int ps.length) [("top", .ref n0), ("size", .int 0)]))) n0 = some (.dK []) := by rw [upd_ne han]; exact s7 _ _ hn4
  have ha5 : (upd H7 a (.ins (He.ga K "Trie") dx (putF "depth" (.int ps.length) [("top", .ref n0), ("size", .int 0)]))) a = some (.ins (He.ga K "Trie") dx (trieF n0 0 ps.length)) := by rw [upd_same]; rfl
  generalize upd H7 a (.ins (He.ga K "Trie") dx (putF "depth" (.int ps.length) [("top", .ref n0), ("size", .int 0)])) = H8 at *
  refine wss_one (ws_forL (passes_of rfl) rfl (ve_var 1) (hS5.seq tr) (rr.mono (.of hS5)) (pg_name (i := 4) sc_Trie_init.nd rfl (.inr rfl)) (fun i σ' H' => ∃ (f : Row → Option Addr) (sz : Int) (o : Option V), σ' = [some (.ref a), some (.ref lr), some (.ref pa), some g, o, none] ∧ Same H0 H' ∧ Kp H8 H' ∧ Nodes H0 H' f ∧ f [] = some n0 ∧ (∀ p, (f p).isSome = true ↔ p = [] ∨ ∃ k ∈ (rows.take i).map (keyOf ps), p <+: k) ∧ H' a = some (.ins (He.ga K "Trie") dx (trieF n0 sz ps.length)))
    (fun H9 s9 => ⟨fun p => if p = [] then some n0 else none, 0, none, rfl, hS5.trans s9, .of s9, ⟨fun p q b e1 e2 => ?_, fun p b e => ?_, fun p x e => ?_, fun p b e => ?_, fun p b e => ?_⟩, rfl, fun p => ?_, s9 _ _ ha5⟩) (fun i σ' H' ⟨f, sz, o, _, hS', k, _⟩ => ⟨k, hS'.seq tr⟩) ?_ ?_)
  · split at e1
    · split at e2
      · rename_i h1 h2; rw [h1, h2]
      · cases e2
    · cases e1
  · split at e
    · cases e; exact h0n
    · cases e
  · rw [if_neg (by simp)] at e; cases e
  · split at e
    · rename_i h; subst h; exact fun n hn => (nomatch hn)
    · cases e
  · split at e
    · rename_i h
      subst h
      cases e
      refine ⟨[], [], s9 _ _ hn5, rfl, List.nodup_nil, fun x => ⟨fun z => (nomatch z), fun z => ?_⟩, fun x b z => ?_⟩
      · rw [if_neg (by simp)] at z; cases z
      · rw [if_neg (by simp)] at z; cases z
    · cases e
  · rw [List.take_zero, List.map_nil]
    show (if p = [] then some n0 else none).isSome = true ↔ _
    by_cases hp : p = []
    · rw [if_pos hp]; exact ⟨fun _ => .inl hp, fun _ => rfl⟩
    · rw [if_neg hp]; exact ⟨fun z => (nomatch z), fun z => z.elim (fun e => absurd e hp) fun ⟨k, hk, _⟩ => (nomatch hk)⟩
  · rintro i d v σ' H' hd rd ⟨f, sz, o, eσ, hS', hk', hn', hf0, hdom, ha'⟩
    subst eσ
    obtain ⟨r, hr0, e⟩ := map_at hd
    subst e
    have hrm := List.mem_of_getElem? hr0
    obtain ⟨hr1, hr2⟩ := hrows r hrm
    refine wss_one (ws_expr (we_meth (ok_Trie_put T |>.mono (by decide)) hr (ve_var 0) ha' T.clTrie T.me_Trie_put rfl passL (aa_one (LE.ee (LE.is (le_mU n_Trie_init (defScope s_Trie_init) 5 (ipos ps) .int (fun k => .int (r.getD k.toNat 0)) rfl sc_Trie_init.nd (DE.ue (de_var 2 (rp.mono (.of hS')))) (by omega) fun k u H9 hk s9 ru => ?_) (keyOf_ip ps r)))) fun vs H9 s9 ⟨v9, e9, l, ys, e10, hl, rl⟩ => ?_))
    · intro s10 H10 C cl fp
      obtain ⟨n, hn, e⟩ := List.mem_map.mp hk
      subst e
      exact de_ix (DE.ue (de_var 4 (rd.mono (.of s9)))) (de_var 5 ru) (atI_n (by rw [List.getElem?_map, getD_at 0 (hr1 n hn)]; rfl))
    · subst e9 e10
      rw [rl.ints] at hl
      have hS9 := hS'.trans s9
      refine ⟨a, l, n0, dx, H0, f, sz, _, keyOf ps r, rfl, hl, fun n hn => ?_, by unfold keyOf; rw [List.length_map]; omega, s9 _ _ ha', hn'.mono fun _ _ _ _ h => s9 _ _ h, hf0, hS9, h0a, fun H10 f' sz' hfr hn10 hf10 hdom10 ha10 => ?_⟩
      · obtain ⟨k, hk, e⟩ := List.mem_map.mp hn
        rw [← e]
        exact hr2 _ (List.mem_of_getElem? (getD_at 0 (hr1 k hk)))
      · have notn : ∀ b o, H9 b = some o → (∀ kvs, o ≠ .dK kvs) → ∀ p, f p ≠ some b := fun b o h hne p e => by
          obtain ⟨kvs, _, z, _⟩ := hn'.node p b e
          rw [s9 _ _ z] at h
          cases h
          exact hne kvs rfl
        refine ⟨f', sz', some v, rfl, (fun b o h => hfr b o (hS9 b o h) (fun e => by rw [e, h0a] at h; cases h) (fun p e => by rw [hn'.new p b e] at h; cases h)), hk'.trans (.trans (.of s9) fun b => ⟨fun xs h => hfr b _ h (fun e => by rw [e, s9 _ _ ha'] at h; cases h) (notn b _ h fun _ => nofun), fun o xs h => hfr b _ h (fun e => by rw [e, s9 _ _ ha'] at h; cases h) (notn b _ h fun _ => nofun)⟩), hn10, hf10, fun p => ?_, ha10⟩
        rw [hdom10, hdom, List.take_add_one, hr0, List.map_append]
        constructor
        · rintro ((h | ⟨k, h1, h2⟩) | h)
          · exact .inl h
          · exact .inr ⟨k, List.mem_append_left _ h1, h2⟩
          · exact .inr ⟨_, List.mem_append_right _ List.mem_cons_self, h⟩
        · rintro (h | ⟨k, h1, h2⟩)
          · exact .inl (.inl h)
          · rcases List.mem_append.mp h1 with h1 | h1
            · exact .inl (.inr ⟨k, h1, h2⟩)
            · rw [List.mem_singleton.mp h1] at h2
              exact .inr h2
  · rintro σ' H' ⟨f, sz, o, eσ, hS', hk', hn', hf0, hdom, ha'⟩
    rw [List.length_map, List.take_length] at hdom
    exact q H' hS' ⟨f, n0, dx, sz, _, h0a, ha', hn', hf0, hdom⟩
end
end J
/-! name = [..]: the list goes straight into its slot. -/
namespace J
open PySem PySem.Spec PyProof.Rows L2
section
variable {X : Cx} {elt iter tg c : Expr} {ifs : List Expr} {scope : Scope} {own : List (Str × Nat)} {pos spos py tp : Pos} {σ : L2.St} {H : Hp} {g : TG} {D : Ends} {i j : Nat} {x y : Str} {α : Type}
abbrev Rlc (X : Cx) (wi : TI) (g : TG) (scope : Scope) (ifs : List Expr) (elt : Expr) (vs : List Nat) (σ : L2.St) (H : Hp) (ds : List PyData) : Prop := ∀ H1, Same H H1 → tLc wi g (ttBlk X scope ifs) (tBlk X scope elt) vs σ H1 fun v H2 => Same H1 H2 ∧ ∃ l xs, v = .ref l ∧ H1 l = none ∧ H2 l = some (.lst xs) ∧ RepL H2 ds xs
theorem rlc_U {α : Type} (xs : List α) (enc : α → PyData) (f : α → Bool) (gd : α → PyData) (hit : UE X iter σ H (xs.map enc)) (hz : xs.length < 100000)
    (hb : ∀ x v H2, x ∈ xs → Same H H2 → Rep H2 (enc x) v → Takes1 g v (wipe σ (own.map (·.2))) H2 fun σ2 => wipe σ2 (own.map (·.2)) = wipe σ (own.map (·.2)) ∧ (Blk X scope fun Y => BTs Y ifs σ2 H2 (f x)) ∧ (f x = true → Blk X scope fun Y => DE Y elt σ2 H2 (gd x))) : Rlc X (iTup X.K (WE X iter)) g scope ifs elt (own.map (·.2)) σ H ((xs.filter f).map gd) := fun H1 s =>
  (hit.go s fun v H2 s2 ⟨a, vs, e1, t, r⟩ => ⟨a, e1, ⟨vs, t⟩, fun D hD => by
    have hl : vs.length = xs.length := by rw [r.length, List.length_map]
    refine lc_tup (xs := vs) (fun i H' => Cv H2 D (((xs.take i).filter f).map gd) H') (Cv.start hD) (fun i H' _ c => sqt_same c.1 t) (fun i x H' hx c => ?_) fun H' c => ?_
    · obtain ⟨d, hd, rd⟩ := r.get hx
      obtain ⟨y, hy, e⟩ := map_at hd
      subst e
      refine hb y x H' (List.mem_of_getElem? hy) ((s.trans s2).trans c.1) (rd.mono (.of c.1)) _ fun σ2 ⟨w, k1, k2⟩ => ⟨w, ?_⟩
      rw [made_snoc xs f gd i y hy]
      exact cv_turn hD c (Nat.lt_of_le_of_lt (made_len xs f gd i) hz) k1 k2
    · rw [hl, List.take_of_length_le (Nat.le_refl _)] at c
      obtain ⟨c1, acc, c2, c3⟩ := c
      exact ⟨s2.trans c1, D, acc, rfl, s2.free hD, c2, c3⟩⟩)
theorem rlc_L {α : Type} (xs : List α) (enc : α → PyData) (f : α → Bool) (gd : α → PyData) (hit : LV X iter σ H (xs.map enc)) (hz : xs.length < 100000)
    (hb : ∀ x v H2, x ∈ xs → Same H H2 → Rep H2 (enc x) v → Takes1 g v (wipe σ (own.map (·.2))) H2 fun σ2 => wipe σ2 (own.map (·.2)) = wipe σ (own.map (·.2)) ∧ (Blk X scope fun Y => BTs Y ifs σ2 H2 (f x)) ∧ (f x = true → Blk X scope fun Y => DE Y elt σ2 H2 (gd x))) : Rlc X (iList X.K (WE X iter)) g scope ifs elt (own.map (·.2)) σ H ((xs.filter f).map gd) := fun H1 s =>
  (hit.go s fun v H2 s2 ⟨a, vs, e1, t, r⟩ => ⟨a, e1, ⟨vs, t⟩, fun D hD => by
    have hl : vs.length = xs.length := by rw [r.length, List.length_map]
    refine lc_list (xs := vs) (fun i H' => Cv H2 D (((xs.take i).filter f).map gd) H') (Cv.start hD) (fun i H' _ c => c.1.seq t) (fun i x H' hx c => ?_) fun H' c => ?_
    · obtain ⟨d, hd, rd⟩ := r.get hx
      obtain ⟨y, hy, e⟩ := map_at hd
      subst e
      refine hb y x H' (List.mem_of_getElem? hy) ((s.trans s2).trans c.1) (rd.mono (.of c.1)) _ fun σ2 ⟨w, k1, k2⟩ => ⟨w, ?_⟩
      rw [made_snoc xs f gd i y hy]
      exact cv_turn hD c (Nat.lt_of_le_of_lt (made_len xs f gd i) hz) k1 k2
    · rw [hl, List.take_of_length_le (Nat.le_refl _)] at c
      obtain ⟨c1, acc, c2, c3⟩ := c
      exact ⟨s2.trans c1, D, acc, rfl, s2.free hD, c2, c3⟩⟩)

theorem lc_mono {wi : TI} {tt : TT} {te : TE} {vs : List Nat} {Q Q' : VK} (hw : ∀ R R' : It → Hp → Prop, (∀ J H1, R J H1 → R' J H1) → wi σ H R → wi σ H R') (h : tLc wi g tt te vs σ H Q) (k : ∀ v H', Q v H' → Q' v H') : tLc wi g tt te vs σ H Q' :=
  hw _ _ (fun J H1 h D hD => let ⟨W, h0, hs⟩ := h D hD; ⟨W, h0, fun i m H w => (hs i m H w).imp (fun z => ⟨z.1, k _ _ z.2⟩) id⟩) h
theorem itup_mono {K : PySem.W.Frag} (R R' : It → Hp → Prop) (k : ∀ J H1, R J H1 → R' J H1) (h : iTup K (WE X iter) σ H R) : iTup K (WE X iter) σ H R' := WE.mono h fun v H2 ⟨a, e, t, z⟩ => ⟨a, e, t, k _ _ z⟩
theorem ilist_mono {K : PySem.W.Frag} (R R' : It → Hp → Prop) (k : ∀ J H1, R J H1 → R' J H1) (h : iList K (WE X iter) σ H R) : iList K (WE X iter) σ H R' := WE.mono h fun v H2 ⟨a, e, t, z⟩ => ⟨a, e, t, k _ _ z⟩
/-- name = [elt for tg in iter if ..] -/
theorem ws_lc {wi : TI} {ds : List PyData} (i : Nat) (hc : X.calm = true) (hN : X.N.Nodup) (hpi : PI X tg iter wi) (ok : BlkOk X.N X.env.scope scope own) (hg : Blk X scope fun Y => PG Y tg g) (r : Rlc X wi g scope ifs elt (own.map (·.2)) σ H ds) (hw : ∀ R R' : It → Hp → Prop, (∀ J H1, R J H1 → R' J H1) → wi σ H R → wi σ H R')
    (q : ∀ l xs H2, Same H H2 → H l = none → H2 l = some (.lst xs) → RepL H2 ds xs → D.nx (σ.set i (some (.ref l))) H2) (hy : X.N[i]? = some y := by rfl) (hyl : X.env.scope.names.lookup y = some .local := by rfl)
    (hsw : swapsWith (.ListComp elt [⟨tg, iter, ifs, 0⟩] scope pos) (some (.Name y py)) spos.line X.env = pure true := by first | rfl | exact sw_true rfl rfl rfl rfl) (hs : ∀ x, foldedSetIterable iter X.env x = pure x := by intro _; rfl) :
    WS X (.Assign [.Name y py] (.ListComp elt [⟨tg, iter, ifs, 0⟩] scope pos) spos) D σ H :=
  ws_of (ps_setLc (own := own) hc hN hy hyl hsw hpi ok hg pts_blk pe_blk hs) (by
    refine lc_mono hw (r H (Same.refl H)) fun v H2 z => ?_
    obtain ⟨s2, l, xs, e, h1, h2, h3⟩ := z
    subst e
    exact q l xs H2 s2 h1 h2 h3)
/-- name = [elt for x in (a tuple) if c], [elt for x in (a tuple)], [elt for x in (a list)] -/
theorem ws_cU (i : Nat) (N : List Str) (sc : Scope) (j : Nat) (xs : List α) (enc : α → PyData) (f : α → Bool) (gd : α → PyData) (hc : X.calm = true) (hN : X.N.Nodup) (hit : UE X iter σ H (xs.map enc)) (hz : xs.length < 100000)
    (hb : ∀ y v H2, y ∈ xs → Same H H2 → Rep H2 (enc y) v → Blk X scope fun Y => BT Y c (σ.set j (some v)) H2 (f y) ∧ (f y = true → DE Y elt (σ.set j (some v)) H2 (gd y)))
    (q : ∀ l ys H2, Same H H2 → H l = none → H2 l = some (.lst ys) → RepL H2 ((xs.filter f).map gd) ys → D.nx (σ.set i (some (.ref l))) H2)
    (ok : blkC N sc scope [(x, j)] = true := by decide +kernel) (h1 : X.N = N := by rfl) (h2 : X.env.scope = sc := by rfl) (hi : X.N[j]? = some x := by rfl) (hl : scope.names.lookup x = some .local := by rfl) (hy : X.N[i]? = some y := by rfl) (hyl : X.env.scope.names.lookup y = some .local := by rfl)
    (hsw : swapsWith (.ListComp elt [⟨.Name x tp, iter, [c], 0⟩] scope pos) (some (.Name y py)) spos.line X.env = pure true := by first | rfl | exact sw_true rfl rfl rfl rfl) (hs : ∀ x, foldedSetIterable iter X.env x = pure x := by intro _; rfl) :
    WS X (.Assign [.Name y py] (.ListComp elt [⟨.Name x tp, iter, [c], 0⟩] scope pos) spos) D σ H :=
  ws_lc (own := [(x, j)]) (g := gName j) i hc hN (pi_tup pe_we) (by subst h1 h2; exact blkOk_by ok) (pg_blk hN hi hl) (rlc_U (own := [(x, j)]) xs enc f gd hit hz fun y v H2 hy s r => takes_name ⟨wipe1, fun a1 a2 a3 a4 a5 => by
    rw [show (wipe σ ([(x, j)].map (·.2))).set j (some v) = σ.set j (some v) from wipe2]
    exact bts_one (hb y v H2 hy s r a1 a2 a3 a4 a5).1, fun hf a1 a2 a3 a4 a5 => by
    rw [show (wipe σ ([(x, j)].map (·.2))).set j (some v) = σ.set j (some v) from wipe2]
    exact (hb y v H2 hy s r a1 a2 a3 a4 a5).2 hf⟩) itup_mono q hy hyl hsw hs
theorem ws_mU (i : Nat) (N : List Str) (sc : Scope) (j : Nat) (xs : List α) (enc : α → PyData) (gd : α → PyData) (hc : X.calm = true) (hN : X.N.Nodup) (hit : UE X iter σ H (xs.map enc)) (hz : xs.length < 100000)
    (hb : ∀ y v H2, y ∈ xs → Same H H2 → Rep H2 (enc y) v → Blk X scope fun Y => DE Y elt (σ.set j (some v)) H2 (gd y))
    (q : ∀ l ys H2, Same H H2 → H l = none → H2 l = some (.lst ys) → RepL H2 (xs.map gd) ys → D.nx (σ.set i (some (.ref l))) H2)
    (ok : blkC N sc scope [(x, j)] = true := by decide +kernel) (h1 : X.N = N := by rfl) (h2 : X.env.scope = sc := by rfl) (hi : X.N[j]? = some x := by rfl) (hl : scope.names.lookup x = some .local := by rfl) (hy : X.N[i]? = some y := by rfl) (hyl : X.env.scope.names.lookup y = some .local := by rfl)
    (hsw : swapsWith (.ListComp elt [⟨.Name x tp, iter, [], 0⟩] scope pos) (some (.Name y py)) spos.line X.env = pure true := by first | rfl | exact sw_true rfl rfl rfl rfl) (hs : ∀ x, foldedSetIterable iter X.env x = pure x := by intro _; rfl) :
    WS X (.Assign [.Name y py] (.ListComp elt [⟨.Name x tp, iter, [], 0⟩] scope pos) spos) D σ H :=
  ws_lc (own := [(x, j)]) (g := gName j) i hc hN (pi_tup pe_we) (by subst h1 h2; exact blkOk_by ok) (pg_blk hN hi hl) (rlc_U (own := [(x, j)]) (ifs := []) xs enc (fun _ => true) gd hit hz fun y v H2 hy s r => takes_name ⟨wipe1, fun _ _ _ _ _ => bts_nil, fun hf a1 a2 a3 a4 a5 => by
    rw [show (wipe σ ([(x, j)].map (·.2))).set j (some v) = σ.set j (some v) from wipe2]
    exact hb y v H2 hy s r a1 a2 a3 a4 a5⟩) itup_mono (by rw [filter_true]; exact q) hy hyl hsw hs
theorem ws_mL (i : Nat) (N : List Str) (sc : Scope) (j : Nat) (xs : List α) (enc : α → PyData) (gd : α → PyData) (hc : X.calm = true) (hN : X.N.Nodup) (hit : LV X iter σ H (xs.map enc)) (hz : xs.length < 100000)
    (hb : ∀ y v H2, y ∈ xs → Same H H2 → Rep H2 (enc y) v → Blk X scope fun Y => DE Y elt (σ.set j (some v)) H2 (gd y))
    (q : ∀ l ys H2, Same H H2 → H l = none → H2 l = some (.lst ys) → RepL H2 (xs.map gd) ys → D.nx (σ.set i (some (.ref l))) H2)
    (ok : blkC N sc scope [(x, j)] = true := by decide +kernel) (h1 : X.N = N := by rfl) (h2 : X.env.scope = sc := by rfl) (hi : X.N[j]? = some x := by rfl) (hl : scope.names.lookup x = some .local := by rfl) (hy : X.N[i]? = some y := by rfl) (hyl : X.env.scope.names.lookup y = some .local := by rfl)
    (hsw : swapsWith (.ListComp elt [⟨.Name x tp, iter, [], 0⟩] scope pos) (some (.Name y py)) spos.line X.env = pure true := by first | rfl | exact sw_true rfl rfl rfl rfl) (hs : ∀ x, foldedSetIterable iter X.env x = pure x := by intro _; rfl) :
    WS X (.Assign [.Name y py] (.ListComp elt [⟨.Name x tp, iter, [], 0⟩] scope pos) spos) D σ H :=
  ws_lc (own := [(x, j)]) (g := gName j) i hc hN (pi_list pe_we) (by subst h1 h2; exact blkOk_by ok) (pg_blk hN hi hl) (rlc_L (own := [(x, j)]) (ifs := []) xs enc (fun _ => true) gd hit hz fun y v H2 hy s r => takes_name ⟨wipe1, fun _ _ _ _ _ => bts_nil, fun hf a1 a2 a3 a4 a5 => by
    rw [show (wipe σ ([(x, j)].map (·.2))).set j (some v) = σ.set j (some v) from wipe2]
    exact hb y v H2 hy s r a1 a2 a3 a4 a5⟩) ilist_mono (by rw [filter_true]; exact q) hy hyl hsw hs
end
end J
/-! The branches of a search. -/
namespace J
open PySem PySem.Spec PyProof.Rows L2
def idx (vars : List Str) (v : Str) : Nat := vars.findIdx fun y => decide (y = v)
theorem idx_at {vars : List Str} {v : Str} (h : v ∈ vars) : vars[idx vars v]? = some v ∧ ∀ m, m < idx vars v → vars[m]? ≠ some v := by
  have hl : idx vars v < vars.length := List.findIdx_lt_length.mpr ⟨v, h, decide_eq_true rfl⟩
  refine ⟨?_, fun m hm e => ?_⟩
  · rw [List.getElem?_eq_getElem hl]
    have := List.findIdx_getElem (w := hl)
    exact congrArg some (of_decide_eq_true this)
  · have hm2 : m < vars.length := by omega
    rw [List.getElem?_eq_getElem hm2] at e
    have := List.not_of_lt_findIdx hm
    rw [Option.some.inj e] at this
    simp at this
theorem idx_lt {vars : List Str} {v : Str} (h : v ∈ vars) : idx vars v < vars.length := List.findIdx_lt_length.mpr ⟨v, h, decide_eq_true rfl⟩
def agreesB (vars : List Str) (row : Row) : Bool := (List.range vars.length).all fun k => decide (row.getD k 0 = row.getD (idx vars (vars.getD k "")) 0)
def placesOf (order vars : List Str) : List Nat := (List.range order.length).filter fun k => vars.contains (order.getD k "")
def colsOf (order vars : List Str) : List Nat := (placesOf order vars).map fun k => idx vars (order.getD k "")
section
variable {P : Program} {w : World} {K : PySem.W.Frag} {mg : Str → Option Value} {base : Heap}
def agreesS : Sp := fun vs H Q _ => ∃ (a : Addr) (vv vr : V) (vars : List Str) (row : Row), vs = [.ref a, vv, vr] ∧ Rep H (eStrs vars) vv ∧ Rep H (eRow row) vr ∧ row.length = vars.length ∧ vars.length ≤ 4 ∧ ∀ v H', Same H H' → v = .bl (agreesB vars row) → Q v H'
theorem ok_Branch_agrees (T : Tx K mg) : OkF P w K mg base (L2.CX P w) 1 (He.fAd K ("Branch", some "agrees")) ["self", "variables", "row"] agreesS := by
  refine mk_Branch_agrees T (fun vs H Q E ⟨_, _, _, _, _, e, _⟩ => by subst e; rfl) (fun cdv A outer s H vs Q E hr ⟨a, vv, vr, vars, row, e, r1, r2, hl, h4, q⟩ => ?_)
  subst e
  refine wss_one (rt_de (Same.refl H) (de_all (bs := (List.range vars.length).map fun k => decide (row.getD k 0 = row.getD (idx vars (vars.getD k "")) 0)) rfl T.b_all (LE.lv (LE.is (le_mR n_Branch_agrees (defScope s_Branch_agrees) 3 vars.length (fun k => .bool (decide (row.getD k 0 = row.getD (idx vars (vars.getD k "")) 0))) rfl sc_Branch_agrees.nd T.b_range (DE.is (de_len T.b_len (DE.qe (de_var 1 r1))) (by rw [List.length_map])) (by omega) fun i H4 hi s4 => ?_) (by rw [List.map_map]; rfl)))) fun v H' s' r' => q v H' s' (by rw [List.all_map] at r'; exact r'))
  intro s5 H5 C cl fp
  have q1 := r1.mono (.of s4)
  have q2 := r2.mono (.of s4)
  have hv : vars[i]? = some (vars.getD i "") := getD_at ("" : Str) hi
  have hm := List.mem_of_getElem? hv
  obtain ⟨i1, i2⟩ := idx_at hm
  have i3 := idx_lt hm
  exact de_cmp (ce_eq (de_ix (DE.ue (de_var 2 q2)) (de_var (d := .int (i : Int)) 3 rfl) (atI_n (by rw [List.getElem?_map, getD_at 0 (by omega : i < row.length)]; rfl))) (de_ix (DE.ue (de_var 2 q2)) (de_index (de_var 1 q1) (de_ix (DE.ue (de_var 1 q1)) (de_var (d := .int (i : Int)) 3 rfl) (atI_n (by rw [List.getElem?_map, hv]; rfl))) i1 i2) (atI_n (by rw [List.getElem?_map, getD_at 0 (by omega : idx vars (vars.getD i "") < row.length)]; rfl))))
def BranchAt (K : PySem.W.Frag) (H : Hp) (b : Addr) (places : List Nat) (ks : List Row) (em : Bool) : Prop := ∃ (dx pl t : Addr), H b = some (.ins (He.ga K "Branch") dx [("places", .ref pl), ("empty", .bl em), ("trie", .ref t)]) ∧ H pl = some (.lst (vN places)) ∧ TrieAt K H t ks
theorem BranchAt.mono {H H' : Hp} {b : Addr} {places : List Nat} {ks : List Row} {em : Bool} (h : BranchAt K H b places ks em) (s : Same H H') : BranchAt K H' b places ks em :=
  let ⟨dx, pl, t, h1, h2, h3⟩ := h
  ⟨dx, pl, t, s _ _ h1, s _ _ h2, h3.mono s⟩
def choicesOf (places : List Nat) (ks : List Row) (pre : Row) (x : Int) : Bool := decide (∃ k ∈ ks, (places.filter fun k => decide (k < pre.length)).map (fun k => pre.getD k 0) ++ [x] <+: k)
def choicesS (K : PySem.W.Frag) : Sp := fun vs H Q _ => ∃ (b : Addr) (vp : V) (places : List Nat) (ks : List Row) (em : Bool) (pre : Row), vs = [.ref b, vp] ∧ BranchAt K H b places ks em ∧ Rep H (eRow pre) vp ∧ pre.length ≤ 100 ∧ places.length ≤ 100 ∧ ∀ v H', Same H H' → Rep H' (eRow (only3 (choicesOf places ks pre))) v → Q v H'
theorem ok_Branch_choices (T : Tx K mg) : OkF P w K mg base (L2.CX P w) 3 (He.fAd K ("Branch", some "choices")) ["self", "prefix"] (choicesS K) := by
  refine mk_Branch_choices T (fun vs H Q E ⟨_, _, _, _, _, _, e, _⟩ => by subst e; rfl) (fun cdv A outer s H vs Q E hr ⟨b, vp, places, ks, em, pre, e, ⟨dx, pl, t, hb, hpl, ht⟩, rp, hz1, hz2, q⟩ => ?_)
  subst e
  obtain ⟨f, n0, dt, sz, dp, ha, htr⟩ := id ht
  refine wss_one (rt_ee (Same.refl H) (ee_meth (ok_Trie_children T) hr (ve_fld (ve_var 0) hb T.clBranch T.no_Branch_trie rfl) ha T.clTrie T.me_Trie_children rfl passL (aa_one (de_tuple (ds := ((places.filter fun k => decide (k < pre.length)).map (fun k => pre.getD k 0)).map .int) T.b_tuple (LE.lv (LE.is (le_cL n_Branch_choices (defScope s_Branch_choices) 2 places (fun k : Nat => .int (k : Int)) (fun k => decide (k < pre.length)) (fun k => .int (pre.getD k 0)) rfl sc_Branch_choices.nd (ve_lv (ve_fld (ve_var 0) hb T.clBranch T.no_Branch_places rfl) (SqL.of hpl) vN_rep) (by omega) fun k u H2 hk s2 ru => ?_) (by rw [List.map_map]; rfl))))) fun vs H2 Q s2 ⟨v, e, r⟩ hq => ?_) q)
  · intro s3 H3 C cl fp
    refine ⟨BT.is (bt_cmp (ce_lt (de_var 2 ru) (de_len T.b_len (DE.qe (de_var 1 (rp.mono (.of s2))))))) (by rw [List.length_map, dec_nat]), fun hlt => ?_⟩
    exact de_ix (DE.ue (de_var 1 (rp.mono (.of s2)))) (de_var 2 ru) (atI_n (by rw [List.getElem?_map, getD_at 0 (of_decide_eq_true hlt)]; rfl))
  · subst e
    exact ⟨t, v, ks, _, rfl, ht.mono s2, r, fun v' H' s' r' => hq v' H' s' r'⟩
def BranchAtB (K : PySem.W.Frag) (H0 H : Hp) (b : Addr) (places : List Nat) (ks : List Row) (em : Bool) : Prop := ∃ (dx pl t : Addr), H0 b = none ∧ H0 pl = none ∧ H b = some (.ins (He.ga K "Branch") dx [("places", .ref pl), ("empty", .bl em), ("trie", .ref t)]) ∧ H pl = some (.lst (vN places)) ∧ TrieAtB K H0 H t ks
theorem BranchAtB.to {H0 H H' : Hp} {b : Addr} {places : List Nat} {ks : List Row} {em : Bool} (t : BranchAtB K H0 H b places ks em) (h : ∀ b o, H0 b = none → H b = some o → H' b = some o) : BranchAtB K H0 H' b places ks em :=
  let ⟨dx, pl, t, n1, n2, h1, h2, h3⟩ := t
  ⟨dx, pl, t, n1, n2, h _ _ n1 h1, h _ _ n2 h2, h3.to h⟩
theorem BranchAtB.at {H0 H : Hp} {b : Addr} {places : List Nat} {ks : List Row} {em : Bool} (t : BranchAtB K H0 H b places ks em) : BranchAt K H b places ks em :=
  let ⟨dx, pl, t, _, _, h1, h2, h3⟩ := t
  ⟨dx, pl, t, h1, h2, h3.at⟩
theorem BranchAtB.low {H0 H1 H : Hp} {b : Addr} {places : List Nat} {ks : List Row} {em : Bool} (t : BranchAtB K H1 H b places ks em) (s : Same H0 H1) : BranchAtB K H0 H b places ks em :=
  let ⟨dx, pl, t, n1, n2, h1, h2, h3⟩ := t
  ⟨dx, pl, t, s.free n1, s.free n2, h1, h2, h3.low s⟩
def rowsOf (t : Tab) (vars : List Str) : List Row := t.rows.filter (agreesB vars)
def branchInitS (K : PySem.W.Frag) : Sp := fun vs H Q _ => ∃ (a dx : Addr) (vc va vo : V) (H0 : Hp) (c : Cat) (atm : Atm) (order : List Str) (t : Tab), vs = [.ref a, vc, va, vo] ∧ H a = some (.ins (He.ga K "Branch") dx []) ∧ Same H0 H ∧ H0 a = none ∧ Rep H0 (eCat c) vc ∧ Rep H0 (eAtm atm) va ∧ Rep H0 (eStrs order) vo ∧
  findT c atm.tab = some t ∧ c.length ≤ 10 ∧ (∀ r ∈ t.rows, GRow atm.vars.length r) ∧ t.rows.length ≤ 100 ∧ 1 ≤ atm.vars.length ∧ atm.vars.length ≤ 4 ∧ order.Nodup ∧ order.length ≤ 4 ∧ (∀ v ∈ atm.vars, v ∈ order) ∧
  ∀ H', Same H0 H' → BranchAtB K H0 H' a (placesOf order atm.vars) ((rowsOf t atm.vars).map (keyOf (colsOf order atm.vars))) (decide ((rowsOf t atm.vars).length = 0)) → Q .non H'
theorem mem_places {order vars : List Str} {k : Nat} : k ∈ placesOf order vars ↔ k < order.length ∧ order.getD k "" ∈ vars := by
  unfold placesOf
  rw [List.mem_filter, List.mem_range, List.contains_iff_mem]
theorem idx_inj {vars : List Str} {x y : Str} (hx : x ∈ vars) (hy : y ∈ vars) (h : idx vars x = idx vars y) : x = y := by
  have h1 := (idx_at hx).1
  rw [h, (idx_at hy).1] at h1
  exact (Option.some.inj h1).symm
theorem nodup_cols {order vars : List Str} (hn : order.Nodup) : (colsOf order vars).Nodup := by
  unfold colsOf
  refine List.pairwise_map.mpr ?_
  have h1 : (placesOf order vars).Nodup := List.Pairwise.filter _ List.nodup_range
  refine List.Pairwise.imp_of_mem (fun {i j} hi hj hne e => hne ?_) h1
  obtain ⟨i1, i2⟩ := mem_places.mp hi
  obtain ⟨j1, j2⟩ := mem_places.mp hj
  have e2 := idx_inj i2 j2 e
  rw [List.getD_eq_getElem?_getD, List.getElem?_eq_getElem i1, List.getD_eq_getElem?_getD, List.getElem?_eq_getElem j1] at e2
  exact (List.getElem_inj hn).mp e2
theorem places_len {order vars : List Str} : (placesOf order vars).length ≤ order.length := by
  unfold placesOf
  exact Nat.le_trans (List.length_filter_le _ _) (by rw [List.length_range]; exact Nat.le_refl _)
theorem ok_Branch_init (T : Tx K mg) : OkF P w K mg base (L2.CX P w) 4 (He.fAd K ("Branch", some "__init__")) ["self", "catalogue", "atom", "order"] (branchInitS K) := by
  refine mk_Branch_init T (fun vs H Q E ⟨_, _, _, _, _, _, _, _, _, _, e, _⟩ => by subst e; rfl) (fun cdv A outer s H vs Q E hr ⟨a, dx, vc, va, vo, H0, c, atm, order, t, e, ha, hS, h0a, rc, ra, ro, hf, hcl, hrow, h100, hv1, hv4, hon, hol, hin, q⟩ => ?_)
  subst e
  refine wss_cons (ws_tup2 (d1 := .str atm.tab) (d2 := eStrs atm.vars) 4 5 sc_Branch_init.nd (de_var 2 (ra.mono (.of hS))) fun H1 x y s1 rx ry => ?_)
  have hS1 := hS.trans s1
  have ha1 := s1 _ _ ha
  refine wss_cons (ws_cU 6 n_Branch_init (defScope s_Branch_init) 7 t.rows eRow (agreesB atm.vars) eRow rfl sc_Branch_init.nd (DE.ue (de_ix (DE.ue (de_callX (d := eTab t) (ok_table_at T |>.mono (by decide)) hr T.gtable_at (aa_cons (de_var 1 (rc.mono (.of hS1))) (aa_cons (de_var 4 rx) aa_nil)) ⟨c, atm.tab, by omega, rfl, by rw [hf]⟩)) de_int (d := eRows t.rows) rfl)) (by omega) (fun r u H2 hr2 s2 ru => ?_) fun lr xs H2 s2 hn2 hl2 rl2 => ?_)
  · intro s3 H3 C cl fp
    refine ⟨bt_val (ee_meth (ok_Branch_agrees T |>.mono (by decide)) hr (ve_var 0) (s2 _ _ ha1) T.clBranch T.me_Branch_agrees rfl passL (aa_cons (de_var 5 (ry.mono (.of s2))) (aa_cons (de_var 7 ru) aa_nil)) fun vs H4 Q s4 rr hq => ?_), fun _ => de_var 7 ru⟩
    obtain ⟨v1, v2, e, q1, q2⟩ := rr.two
    subst e
    exact ⟨a, v1, v2, atm.vars, r, rfl, q1, q2, (hrow r hr2).len, hv4, fun v H' s' e => hq v H' s' e⟩
  have hS2 := hS1.trans s2
  have ha2 := s2 _ _ ha1
  have ry2 := ry.mono (.of s2)
  have ro2 := ro.mono (.of hS2)
  have hrl : H0 lr = none := hS1.free hn2
  refine wss_cons (ws_fldW (a := a) (C := He.ga K "Branch") (dx := dx) (fs := []) (LE.go (le_cR n_Branch_init (defScope s_Branch_init) 8 order.length (fun k => atm.vars.contains (order.getD k "")) (fun k => .int (k : Int)) rfl sc_Branch_init.nd T.b_range (DE.is (de_len T.b_len (DE.qe (de_var 3 ro2))) (by rw [List.length_map])) (by omega) fun k H3 hk s3 => ?_) (Same.refl H2) fun pl ys H3 s3 hn3 hl3 rl3 => ?_))
  · intro s4 H4 C cl fp
    refine ⟨bt_cmp (ce_ins (de_ix (DE.ue (de_var 3 (ro2.mono (.of s3)))) (de_var (d := .int (k : Int)) 8 rfl) (atI_n (by rw [List.getElem?_map, getD_at ("" : Str) hk]; rfl))) (DE.qe (de_var 5 (ry2.mono (.of s3))))), fun _ => de_var (d := .int (k : Int)) 8 rfl⟩
  have hpl0 : H0 pl = none := hS2.free hn3
  have hpla : pl ≠ a := fun e => by rw [e, ha2] at hn3; cases hn3
  have eys : ys = vN (placesOf order atm.vars) := by
    have z : ((List.range order.length).filter fun k => atm.vars.contains (order.getD k "")).map (fun k : Nat => PyData.int (k : Int)) = (ipos (placesOf order atm.vars)).map .int := by
      unfold ipos
      rw [List.map_map]; rfl
    rw [z] at rl3
    rw [rl3.ints]
    unfold ipos
    rw [List.map_map]; rfl
  subst eys
  refine ⟨ve_var 0, s3 _ _ ha2, T.clBranch, T.no_Branch_places, by decide, fun H4 s4 => ?_⟩
  have hlr2 : lr ≠ a := fun e => by rw [e, ha1] at hn2; cases hn2
  have hS4 : Same H0 (upd H4 a (.ins (He.ga K "Branch") dx (putF "places" (.ref pl) []))) := ((hS2.trans s3).trans s4).mut h0a
  have ha4 : (upd H4 a (.ins (He.ga K "Branch") dx (putF "places" (.ref pl) []))) a = some (.ins (He.ga K "Branch") dx [("places", .ref pl)]) := by rw [upd_same]; rfl
  have hp4 : (upd H4 a (.ins (He.ga K "Branch") dx (putF "places" (.ref pl) []))) pl = some (.lst (vN (placesOf order atm.vars))) := by rw [upd_ne hpla]; exact s4 _ _ hl3
  have k4 : Kp H2 (upd H4 a (.ins (He.ga K "Branch") dx (putF "places" (.ref pl) []))) := (Kp.of (s3.trans s4)).trans (.upd (s4 _ _ (s3 _ _ ha2)) rfl)
  have hl4 : (upd H4 a (.ins (He.ga K "Branch") dx (putF "places" (.ref pl) []))) lr = some (.lst xs) := by rw [upd_ne hlr2]; exact s4 _ _ (s3 _ _ hl2)
  generalize upd H4 a (.ins (He.ga K "Branch") dx (putF "places" (.ref pl) [])) = H5 at *
  refine wss_cons (ws_fldD (.bool (decide ((rowsOf t atm.vars).length = 0))) (DE.is (de_cmp (ce_eq (de_len T.b_len (LV.qe (ve_lv (ve_var 6) (SqL.of hl4) (rl2.mono k4)))) de_int)) ?_) (ve_var 0) ha4 T.clBranch T.no_Branch_empty (fun v6 H6 s6 r6 => ?_) (by show 1 < 1000; decide))
  · rw [List.length_map]
    exact congrArg PyData.bool (decide_eq_decide.mpr (by unfold rowsOf; omega))
  cases (show v6 = _ from r6)
  have hS6 : Same H0 (upd H6 a (.ins (He.ga K "Branch") dx (putF "empty" (.bl (decide ((rowsOf t atm.vars).length = 0))) [("places", .ref pl)]))) := (hS4.trans s6).mut h0a
  have ha6 : (upd H6 a (.ins (He.ga K "Branch") dx (putF "empty" (.bl (decide ((rowsOf t atm.vars).length = 0))) [("places", .ref pl)]))) a = some (.ins (He.ga K "Branch") dx [("places", .ref pl), ("empty", .bl (decide ((rowsOf t atm.vars).length = 0)))]) := by rw [upd_same]; rfl
  have hp6 : (upd H6 a (.ins (He.ga K "Branch") dx (putF "empty" (.bl (decide ((rowsOf t atm.vars).length = 0))) [("places", .ref pl)]))) pl = some (.lst (vN (placesOf order atm.vars))) := by rw [upd_ne hpla]; exact s6 _ _ hp4
  have k6 : Kp H2 (upd H6 a (.ins (He.ga K "Branch") dx (putF "empty" (.bl (decide ((rowsOf t atm.vars).length = 0))) [("places", .ref pl)]))) := k4.trans ((Kp.of s6).trans (.upd (s6 _ _ ha4) rfl))
  have hl6 : (upd H6 a (.ins (He.ga K "Branch") dx (putF "empty" (.bl (decide ((rowsOf t atm.vars).length = 0))) [("places", .ref pl)]))) lr = some (.lst xs) := by rw [upd_ne hlr2]; exact s6 _ _ hl4
  generalize upd H6 a (.ins (He.ga K "Branch") dx (putF "empty" (.bl (decide ((rowsOf t atm.vars).length = 0))) [("places", .ref pl)])) = H7 at *
  refine wss_cons (ws_fldD .none de_non (ve_var 0) ha6 T.clBranch T.no_Branch_trie (fun v8 H8 s8 r8 => ?_) (by show 2 < 1000; decide))
  cases (show v8 = _ from r8)
  have hS8 : Same H0 (upd H8 a (.ins (He.ga K "Branch") dx (putF "trie" .non [("places", .ref pl), ("empty", .bl (decide ((rowsOf t atm.vars).length = 0)))]))) := (hS6.trans s8).mut h0a
  have ha8 : (upd H8 a (.ins (He.ga K "Branch") dx (putF "trie" .non [("places", .ref pl), ("empty", .bl (decide ((rowsOf t atm.vars).length = 0)))]))) a = some (.ins (He.ga K "Branch") dx [("places", .ref pl), ("empty", .bl (decide ((rowsOf t atm.vars).length = 0))), ("trie", .non)]) := by rw [upd_same]; rfl
  have hp8 : (upd H8 a (.ins (He.ga K "Branch") dx (putF "trie" .non [("places", .ref pl), ("empty", .bl (decide ((rowsOf t atm.vars).length = 0)))]))) pl = some (.lst (vN (placesOf order atm.vars))) := by rw [upd_ne hpla]; exact s8 _ _ hp6
  have k8 : Kp H2 (upd H8 a (.ins (He.ga K "Branch") dx (putF "trie" .non [("places", .ref pl), ("empty", .bl (decide ((rowsOf t atm.vars).length = 0)))]))) := k6.trans ((Kp.of s8).trans (.upd (s8 _ _ ha6) rfl))
  have hl8 : (upd H8 a (.ins (He.ga K "Branch") dx (putF "trie" .non [("places", .ref pl), ("empty", .bl (decide ((rowsOf t atm.vars).length = 0)))]))) lr = some (.lst xs) := by rw [upd_ne hlr2]; exact s8 _ _ hl6
  generalize upd H8 a (.ins (He.ga K "Branch") dx (putF "trie" .non [("places", .ref pl), ("empty", .bl (decide ((rowsOf t atm.vars).length = 0)))])) = H9 at *
  have rr9 : RepL H9 ((rowsOf t atm.vars).map eRow) xs := rl2.mono k8
  have ry9 := ry2.mono k8
  have ro9 := ro.mono (.of hS8)
  have hpos : 0 < (placesOf order atm.vars).length := by
    obtain ⟨v0, hv0⟩ : ∃ v0, v0 ∈ atm.vars := List.exists_mem_of_length_pos hv1
    obtain ⟨k, hk, e⟩ := List.getElem_of_mem (hin v0 hv0)
    refine List.length_pos_of_mem (a := k) (mem_places.mpr ⟨hk, ?_⟩)
    rw [List.getD_eq_getElem?_getD, List.getElem?_eq_getElem hk]
    show order[k] ∈ _
    rw [e]; exact hv0
  have plL : ∀ H10, Same H9 H10 → ∀ p1 pos, LV (cxOf (L2.CX P w) P w K mg base n_Branch_init "Branch.__init__" (defScope s_Branch_init) (He.fAd K ("Branch", some "__init__")) cdv A outer s H E) (.Attribute (.Name "self" p1) "places" pos) [some (V.ref a), some vc, some va, some vo, some x, some y, some (V.ref lr), none, none] H10 ((placesOf order atm.vars).map fun k : Nat => PyData.int (k : Int)) := fun H10 s10 p1 pos => ve_lv (ve_fld (ve_var 0) (s10 _ _ ha8) T.clBranch T.no_Branch_places rfl) (SqL.of (s10 _ _ hp8)) vN_rep
  have hplen := places_len (order := order) (vars := atm.vars)
  refine wss_one (ws_if (BT.go (bt_cmp (ce_gt (de_len T.b_len (LV.qe (plL H9 (.refl _) _ _))) de_int)) (Same.refl H9) fun H10 s10 => ?_))
  rw [List.length_map, decide_eq_true (by omega), if_pos rfl]
  have hS10 := hS8.trans s10
  refine wss_one (ws_fldW (a := a) (C := He.ga K "Branch") (dx := dx) (fs := [("places", .ref pl), ("empty", .bl (decide ((rowsOf t atm.vars).length = 0))), ("trie", .non)]) (we_make T.mkTrie (ok_Trie_init T) hr T.gTrie passL (aav_cons (P := fun u _ => u = V.ref lr) mono_eq (ve_var 6) (aa_one (de_tuple (ds := (ipos (colsOf order atm.vars)).map .int) T.b_tuple (LE.lv (LE.is (le_mL n_Branch_init (defScope s_Branch_init) 8 (placesOf order atm.vars) (fun k : Nat => .int (k : Int)) (fun k => .int (idx atm.vars (order.getD k "") : Int)) rfl sc_Branch_init.nd (plL H10 s10 _ _) (by omega) fun k u H11 hk s11 ru => ?_) ?_))))) fun vs H11 s11 ⟨v1, rest, e1, e2, v2, e3, r3⟩ yt dt hy1 hy2 hy3 => ?_))
  · intro s12 H12 C cl fp
    obtain ⟨k1, k2⟩ := mem_places.mp hk
    obtain ⟨i1, i2⟩ := idx_at k2
    exact de_index (de_var 5 (ry9.mono (.of (s10.trans s11)))) (de_ix (DE.ue (de_var 3 (ro9.mono (.of (s10.trans s11))))) (de_var 8 ru) (atI_n (by rw [List.getElem?_map, getD_at ("" : Str) k1]; rfl))) i1 i2
  · unfold ipos colsOf
    rw [List.map_map, List.map_map]
    rfl
  · subst e1 e2 e3
    have s911 := s10.trans s11
    have hgr : ∀ r ∈ rowsOf t atm.vars, GRow atm.vars.length r := fun r h => hrow r (List.mem_filter.mp h).1
    have hS12 : Same H11 (upd (upd H11 dt (.own yt)) yt (.ins (He.ga K "Trie") dt [])) := (Same.new hy2).trans (Same.new (by rw [upd_ne (Ne.symm hy3)]; exact hy1))
    refine ⟨yt, lr, dt, v2, H11, xs, rowsOf t atm.vars, colsOf order atm.vars, rfl, upd_same, hS12, hy1, SqL.of (s911 _ _ hl8), rr9.mono (.of s911), r3, ?_, nodup_cols hon, ?_, Nat.le_trans (List.length_filter_le _ _) h100, fun r h => ⟨fun k hk => ?_, (hgr r h).val⟩, fun H13 s13 tr => ⟨rfl, ?_⟩⟩
    · exact List.ne_nil_of_length_pos (by unfold colsOf; rw [List.length_map]; exact hpos)
    · unfold colsOf; rw [List.length_map]; omega
    · rw [(hgr r h).len]
      obtain ⟨m, hm, e⟩ := List.mem_map.mp hk
      rw [← e]
      exact idx_lt (mem_places.mp hm).2
    · have hS13 := (hS10.trans s11).trans s13
      have ha13 := s13 _ _ (s911 _ _ ha8)
      refine ⟨ve_var 0, ha13, T.clBranch, T.no_Branch_trie, by show 3 < 1000; decide, fun H14 s14 => ?_⟩
      have hpl14 : (upd H14 a (.ins (He.ga K "Branch") dx (putF "trie" (.ref yt) [("places", .ref pl), ("empty", .bl (decide ((rowsOf t atm.vars).length = 0))), ("trie", .non)]))) pl = some (.lst (vN (placesOf order atm.vars))) := by rw [upd_ne hpla]; exact s14 _ _ (s13 _ _ (s911 _ _ hp8))
      have hne : yt ≠ a := fun e => by rw [e, s911 _ _ ha8] at hy1; cases hy1
      refine q _ ((hS13.trans s14).mut h0a) ⟨dx, pl, yt, h0a, hpl0, by rw [upd_same]; rfl, hpl14, TrieAtB.low (TrieAtB.to tr fun b o hb hbo => ?_) (hS10.trans s11)⟩
      have hba : b ≠ a := fun e => by rw [e, s911 _ _ ha8] at hb; cases hb
      rw [upd_ne hba]
      exact s14 _ _ hbo
end
end J
/-! Comprehensions over a list of objects; comprehensions that make objects. -/
namespace J
open PySem PySem.Spec PyProof.Rows L2
section
variable {X : Cx} {elt iter c : Expr} {ifs : List Expr} {scope : Scope} {pos tp : Pos} {σ : L2.St} {H : Hp} {x : Str} {j : Nat} {α : Type}
/-- [elt for x in (a list of things) if c]: In tells of the things -/
theorem le_gLs {l : Addr} {vs : List V} (N : List Str) (sc : Scope) (j : Nat) (as : List α) (In : α → V → Prop) (hlen : vs.length = as.length) (hIn : ∀ (i : Nat) a v, as[i]? = some a → vs[i]? = some v → In a v) (f : α → Bool) (gd : α → PyData) (hc : X.calm = true) (hN : X.N.Nodup) (hit : VE X iter σ H (.ref l)) (hl0 : SqL X.K H l vs) (hz : as.length < 100000)
    (hb : ∀ a v H2, a ∈ as → In a v → Same H H2 → (Blk X scope fun Y => BTs Y ifs (σ.set j (some v)) H2 (f a)) ∧ (f a = true → Blk X scope fun Y => DE Y elt (σ.set j (some v)) H2 (gd a)))
    (ok : blkC N sc scope [(x, j)] = true := by decide +kernel) (h1 : X.N = N := by rfl) (h2 : X.env.scope = sc := by rfl) (hi : X.N[j]? = some x := by rfl) (hl : scope.names.lookup x = some .local := by rfl) (hs : ∀ x, foldedSetIterable iter X.env x = pure x := by intro _; rfl) :
    LE X (.ListComp elt [⟨.Name x tp, iter, ifs, 0⟩] scope pos) σ H ((as.filter f).map gd) := fun H1 s =>
  we_of (pe_lc (own := [(x, j)]) hc hN (pi_list pe_we) (by subst h1 h2; exact blkOk_by ok) (pg_blk hN hi hl) pts_blk pe_blk hs) (hit.go s fun v H2 s2 e1 => ⟨l, e1, ⟨vs, (s.trans s2).seq hl0⟩, fun D hD => by
    refine lc_list (xs := vs) (fun i H' => Cv H2 D (((as.take i).filter f).map gd) H') (Cv.start hD) (fun i H' _ c => c.1.seq ((s.trans s2).seq hl0)) (fun i x H' hx c => ?_) fun H' c => ?_
    · have hi' : i < as.length := by rw [← hlen]; exact (List.getElem?_eq_some_iff.mp hx).1
      have ha : as[i]? = some as[i] := List.getElem?_eq_getElem hi'
      obtain ⟨k1, k2⟩ := hb as[i] x H' (List.getElem_mem hi') (hIn i _ x ha hx) ((s.trans s2).trans c.1)
      refine ⟨wipe1, ?_⟩
      rw [made_snoc as f gd i _ ha, show (wipe σ ([(_, j)].map (·.2))).set j _ = σ.set j _ from wipe2]
      exact cv_turn hD c (Nat.lt_of_le_of_lt (made_len as f gd i) hz) k1 k2
    · rw [hlen, List.take_of_length_le (Nat.le_refl _)] at c
      obtain ⟨c1, acc, c2, c3⟩ := c
      exact ⟨s2.trans c1, D, acc, rfl, s2.free hD, c2, c3⟩⟩)
def AllP (Po : α → V → Hp → Prop) (H : Hp) : List α → List V → Prop
  | [], ws => ws = []
  | a :: as, ws => ∃ w r, ws = w :: r ∧ Po a w H ∧ AllP Po H as r
theorem AllP.imp {Po Po' : α → V → Hp → Prop} {H H' : Hp} (k : ∀ a v, Po a v H → Po' a v H') : ∀ {as : List α} {ws : List V}, AllP Po H as ws → AllP Po' H' as ws
  | [], _, h => h
  | _ :: _, _, ⟨w, r, e, h1, h2⟩ => ⟨w, r, e, k _ _ h1, AllP.imp k h2⟩
theorem AllP.snoc {Po : α → V → Hp → Prop} {H : Hp} {a : α} {w : V} (h : Po a w H) : ∀ {as : List α} {ws : List V}, AllP Po H as ws → AllP Po H (as ++ [a]) (ws ++ [w])
  | [], _, e => by cases (show _ = [] from e); exact ⟨w, [], rfl, h, rfl⟩
  | _ :: _, _, ⟨w, r, e, h1, h2⟩ => by subst e; exact ⟨w, _, rfl, h1, AllP.snoc h h2⟩
theorem AllP.len {Po : α → V → Hp → Prop} {H : Hp} : ∀ {as : List α} {ws : List V}, AllP Po H as ws → ws.length = as.length
  | [], _, e => by cases (show _ = [] from e); rfl
  | _ :: _, _, ⟨w, r, e, h1, h2⟩ => by subst e; rw [List.length_cons, List.length_cons, AllP.len h2]
theorem AllP.get {Po : α → V → Hp → Prop} {H : Hp} : ∀ {as : List α} {ws : List V} {i : Nat} {a : α} {v : V}, AllP Po H as ws → as[i]? = some a → ws[i]? = some v → Po a v H
  | [], _, i, a, v, _, h1, _ => by cases h1
  | _ :: _, _, 0, a, v, ⟨w, r, e, h1, h2⟩, e1, e2 => by subst e; cases e1; cases e2; exact h1
  | b :: as, _, i + 1, a, v, ⟨w, r, e, h1, h2⟩, e1, e2 => by subst e; exact AllP.get (i := i) (as := as) h2 e1 e2
/-- made since H0: it stands wherever what is new since H0 stands -/
def NewP (H0 : Hp) (Po : α → V → Hp → Prop) (a : α) (v : V) (H : Hp) : Prop := ∀ H', (∀ b o, H0 b = none → H b = some o → H' b = some o) → Po a v H'
/-- [elt for x in (a tuple)], each item a new thing -/
theorem ee_mN (Po : α → V → Hp → Prop) (N : List Str) (sc : Scope) (j : Nat) (as : List α) (enc : α → PyData) (hc : X.calm = true) (hN : X.N.Nodup) (hit : UE X iter σ H (as.map enc)) (hz : as.length < 100000)
    (hb : ∀ a v H2, a ∈ as → Same H H2 → Rep H2 (enc a) v → Blk X scope fun Y => EE Y elt (σ.set j (some v)) H2 (NewP H2 Po a))
    (ok : blkC N sc scope [(x, j)] = true := by decide +kernel) (h1 : X.N = N := by rfl) (h2 : X.env.scope = sc := by rfl) (hi : X.N[j]? = some x := by rfl) (hl : scope.names.lookup x = some .local := by rfl) (hs : ∀ x, foldedSetIterable iter X.env x = pure x := by intro _; rfl) :
    EE X (.ListComp elt [⟨.Name x tp, iter, [], 0⟩] scope pos) σ H fun v H2 => ∃ l ws, v = .ref l ∧ H l = none ∧ H2 l = some (.lst ws) ∧ AllP Po H2 as ws := fun H1 s =>
  we_of (pe_lc (own := [(x, j)]) hc hN (pi_tup pe_we) (by subst h1 h2; exact blkOk_by ok) (pg_blk hN hi hl) (pts_blk (ifs := [])) pe_blk hs) (hit.go s fun v H2 s2 ⟨a, vs, e1, t, r⟩ => ⟨a, e1, ⟨vs, t⟩, fun D hD => by
    have hlen : vs.length = as.length := by rw [r.length, List.length_map]
    refine lc_tup (xs := vs) (fun i H' => Same H2 H' ∧ ∃ acc, H' D = some (.lst acc) ∧ acc.length = (as.take i).length ∧ AllP (fun a v H => ∀ H'', (∀ b o, b ≠ D → H b = some o → H'' b = some o) → Po a v H'') H' (as.take i) acc) ⟨.new hD, [], upd_same, rfl, rfl⟩ (fun i H' _ c => sqt_same c.1 t) (fun i x H' hx c => ?_) fun H' c => ?_
    · obtain ⟨c1, acc, c2, c4, c3⟩ := c
      obtain ⟨d, hd, rd⟩ := r.get hx
      obtain ⟨y, hy, e⟩ := map_at hd
      subst e
      refine ⟨wipe1, ?_⟩
      rw [show (wipe σ ([(_, j)].map (·.2))).set j _ = σ.set j _ from wipe2]
      intro s0 H0 C cl fp
      constructor
      intro pins st I
      refine thn ((bts_nil H' (Same.refl H')).run pins st I) fun k st2 ⟨H3, I3, s3, e3⟩ => ⟨H3, I3, ?_⟩
      subst e3
      rw [if_pos rfl]
      intro s0 H0 C cl fp
      refine EE.go (hb y x H' (List.mem_of_getElem? hy) ((s.trans s2).trans c1) (rd.mono (.of c1)) s0 H0 C cl fp) s3 fun v4 H4 s4 np => ?_
      have s34 := s3.trans s4
      refine ⟨acc, s34 _ _ c2, szlt (by rw [c4, List.length_take]; omega), (c1.trans s34).mut hD, _, upd_same, ?_, ?_⟩
      · rw [List.length_append, c4, List.take_add_one, hy, List.length_append]; rfl
      · rw [List.take_add_one, hy]
        refine AllP.snoc (fun H'' hk => np H'' fun b o hb hbo => ?_) (c3.imp fun a v q H'' hk => q H'' fun b o hb hbo => ?_)
        · have hne : b ≠ D := fun e => by rw [e, c2] at hb; cases hb
          exact hk b o hne (by rw [upd_ne hne]; exact hbo)
        · exact hk b o hb (by rw [upd_ne hb]; exact s34 _ _ hbo)
    · rw [hlen, List.take_of_length_le (Nat.le_refl _)] at c
      obtain ⟨c1, acc, c2, c4, c3⟩ := c
      exact ⟨s2.trans c1, D, acc, rfl, (s.trans s2).free hD, c2, c3.imp fun a v q => q H' fun _ _ _ h => h⟩⟩)
end
end J
/-! The search. -/
namespace J
open PySem PySem.Spec PyProof.Rows L2
theorem LE.en {X : Cx} {e : Expr} {σ : L2.St} {H : Hp} {ds : List PyData} (h : LE X e σ H ds) : EE X e σ H fun v H2 => ∃ (l : Addr) (xs : List V), v = .ref l ∧ H l = none ∧ H2 l = some (.lst xs) ∧ RepL H2 ds xs := fun H1 s => h.go s fun l xs H2 s2 h1 h2 h3 => ⟨s2, l, xs, rfl, s.free h1, h2, h3⟩
structure Br where
  places : List Nat
  ks : List Row
  em : Bool
structure PatOk (c : Cat) (p : Pat) : Prop where
  clen : c.length ≤ 10
  alen : p.atoms.length ≤ 3
  apos : 0 < p.atoms.length
  tab : ∀ a ∈ p.atoms, ∃ t, findT c a.tab = some t ∧ (∀ r ∈ t.rows, GRow a.vars.length r) ∧ t.rows.length ≤ 100
  lo : ∀ a ∈ p.atoms, 1 ≤ a.vars.length
  hi : ∀ a ∈ p.atoms, a.vars.length ≤ 4
  olen : (pvars p).length ≤ 3
  head : ∀ v ∈ p.head, v ∈ pvars p
  hlen : p.head.length ≤ 3
def brOf (c : Cat) (order : List Str) (a : Atm) : Br := match findT c a.tab with
  | some t => ⟨placesOf order a.vars, (rowsOf t a.vars).map (keyOf (colsOf order a.vars)), decide ((rowsOf t a.vars).length = 0)⟩
  | none => ⟨[], [], true⟩
def brsOf (c : Cat) (p : Pat) : List Br := p.atoms.map (brOf c (pvars p))
section
variable {P : Program} {w : World} {K : PySem.W.Frag} {mg : Str → Option Value} {base : Heap}
abbrev PoBr (K : PySem.W.Frag) : Br → V → Hp → Prop := fun br v H => ∃ b, v = .ref b ∧ BranchAt K H b br.places br.ks br.em
def SearchAt (K : PySem.W.Frag) (H : Hp) (s : Addr) (brs : List Br) : Prop := ∃ (dx lb : Addr) (bs : List V) (many : Int), H s = some (.ins (He.ga K "Search") dx [("many", .int many), ("branches", .ref lb), ("dead", .bl (brs.any (·.em)))]) ∧ H lb = some (.lst bs) ∧ AllP (PoBr K) H brs bs
theorem SearchAt.mono {H H' : Hp} {a : Addr} {brs : List Br} (h : SearchAt K H a brs) (s : Same H H') : SearchAt K H' a brs :=
  let ⟨dx, lb, bs, many, h1, h2, h3⟩ := h
  ⟨dx, lb, bs, many, s _ _ h1, s _ _ h2, h3.imp fun _ _ ⟨b, e, z⟩ => ⟨b, e, z.mono s⟩⟩
theorem br_ins {H : Hp} {b : Addr} {pl : List Nat} {ks : List Row} {em : Bool} (h : BranchAt K H b pl ks em) : ∃ dx fs, H b = some (.ins (He.ga K "Branch") dx fs) ∧ fs.lookup ("choices" : Str) = none ∧ fs.lookup ("empty" : Str) = some (.bl em) ∧ ∃ l, fs.lookup ("places" : Str) = some (.ref l) ∧ H l = some (.lst (vN pl)) :=
  let ⟨dx, l, t, h1, h2, h3⟩ := h
  ⟨dx, _, h1, rfl, rfl, l, rfl, h2⟩
def nextOnes (brs : List Br) (p : Row) : List Int := only3 fun x => (brs.filter fun br => br.places.contains p.length).all fun br => choicesOf br.places br.ks p x
def nextS (K : PySem.W.Frag) : Sp := fun vs H Q _ => ∃ (s : Addr) (vp : V) (brs : List Br) (p : Row), vs = [.ref s, vp] ∧ SearchAt K H s brs ∧ Rep H (eRow p) vp ∧ p.length ≤ 50 ∧ brs.length ≤ 3 ∧ (∀ br ∈ brs, br.places.length ≤ 50) ∧ (∃ br ∈ brs, p.length ∈ br.places) ∧ ∀ v H', Same H H' → Rep H' (eRow (nextOnes brs p)) v → Q v H'
theorem ok_Search_next_ones (T : Tx K mg) : OkF P w K mg base (L2.CX P w) 4 (He.fAd K ("Search", some "next_ones")) ["self", "prefix"] (nextS K) := by
  refine mk_Search_next_ones T (fun vs H Q E ⟨_, _, _, _, e, _⟩ => by subst e; rfl) (fun cdv A outer s H vs Q E hr ⟨a, vp, brs, p, e, ⟨dx, lb, bs, many, h1, h2, h3⟩, rp, hp, hb3, hpl, hex, q⟩ => ?_)
  subst e
  refine wss_cons (ws_de (d := .int (p.length : Int)) 2 sc_Search_next_ones.nd (DE.is (de_len T.b_len (DE.qe (de_var 1 rp))) (by rw [List.length_map])) fun v1 H1 s1 r1 => ?_)
  cases (show v1 = _ from r1)
  have h3' := h3.imp (H' := H1) fun _ _ (⟨b, e, z⟩ : PoBr K _ _ H) => (⟨b, e, z.mono s1⟩ : PoBr K _ _ H1)
  refine wss_one (rt_ee s1 (ee_call (Pv := fun v H' => Rep H' (eRow (nextOnes brs p)) v) (ok_common T |>.mono (by decide)) hr T.gcommon passL (aa_one (LE.lv (le_gLs (l := lb) (vs := bs) n_Search_next_ones (defScope s_Search_next_ones) 3 brs (fun br v => PoBr K br v H1) h3'.len (fun i a v h1 h2 => h3'.get h1 h2) (fun br => br.places.contains p.length) (fun br => eRow (only3 (choicesOf br.places br.ks p))) rfl sc_Search_next_ones.nd (ve_fld (ve_var 0) (s1 _ _ h1) T.clSearch T.no_Search_branches rfl) (SqL.of (s1 _ _ h2)) (by omega) fun br u H2 hbr ⟨b, eb, hbA⟩ s2 => ?_))) fun vs H2 Q s2 ⟨v, e, l, xs, e2, t, rl⟩ hq => ?_) q)
  · subst eb
    have rp2 := rp.mono (.of (s1.trans s2))
    obtain ⟨dxb, fs, i1, i2, _, l, i3, i4⟩ := br_ins (hbA.mono s2)
    refine ⟨fun s3 H3 C cl fp => bts_one (BT.is (bt_cmp (ce_ini (i := (p.length : Int)) (ys := ipos br.places) (de_var (d := .int (p.length : Int)) 2 rfl) (LV.qe (ve_lv (ve_fld (ve_var 3) i1 T.clBranch T.no_Branch_places i3) (SqL.of i4) ?_)))) ?_), fun _ s3 H3 C cl fp => ee_meth (ok_Branch_choices T) hr (ve_var 3) i1 T.clBranch T.me_Branch_choices i2 passL (aa_one (de_var 1 rp2)) fun vs H4 Q s4 ⟨v, e, rv⟩ hq => ?_⟩
    · have z := vN_rep (H := H2) (ns := br.places)
      unfold ipos
      rw [List.map_map]; exact z
    · rw [Bool.eq_iff_iff, List.contains_iff_mem, List.contains_iff_mem]
      unfold ipos
      rw [List.mem_map]
      exact ⟨fun ⟨k, hk, e⟩ => by rw [← Int.ofNat.inj e]; exact hk, fun h => ⟨_, h, rfl⟩⟩
    · subst e
      exact ⟨b, v, br.places, br.ks, br.em, p, rfl, hbA.mono (s2.trans s4), rv, by omega, by have := hpl br hbr; omega, fun v' H' s' r' => hq v' H' s' r'⟩
  · subst e e2
    have em : (brs.filter fun br => br.places.contains p.length).map (fun br => eRow (only3 (choicesOf br.places br.ks p))) = (((brs.filter fun br => br.places.contains p.length).map fun br => choicesOf br.places br.ks p).map only3).map eRow := by rw [List.map_map, List.map_map]; rfl
    rw [em] at rl
    have hne : ((brs.filter fun br => br.places.contains p.length).map fun br => choicesOf br.places br.ks p) ≠ [] := by
      obtain ⟨br, h1, h2⟩ := hex
      have : br ∈ brs.filter fun br => br.places.contains p.length := List.mem_filter.mpr ⟨h1, List.contains_iff_mem.mpr h2⟩
      intro e
      rw [List.map_eq_nil_iff.mp e] at this
      cases this
    have h3l : ((brs.filter fun br => br.places.contains p.length).map fun br => choicesOf br.places br.ks p).length ≤ 3 := by
      rw [List.length_map]; exact Nat.le_trans (List.length_filter_le _ _) hb3
    refine ⟨l, xs, _, nextOnes brs p, rfl, t, rl, fun r hr => ?_, by rw [List.length_map]; omega, fun e => hne (List.map_eq_nil_iff.mp e), ⟨30, by decide, ?_⟩, fun v' H' s' r' => hq v' H' s' r'⟩
    · obtain ⟨S, _, e⟩ := List.mem_map.mp hr
      rw [← e]
      exact ⟨only3_asc S, Nat.le_trans (only3_len S) (by decide)⟩
    · rw [common_is hne h3l]
      unfold nextOnes
      congr 2
      funext x
      rw [List.all_map]
      rfl
theorem ok_Search_first (T : Tx K mg) : OkF P w K mg base (L2.CX P w) 1 (He.fAd K ("Search", some "first_level")) ["self"] (fun vs H Q _ => ∃ (s : Addr) (brs : List Br), vs = [.ref s] ∧ SearchAt K H s brs ∧ ∀ l xs H', Same H H' → H l = none → H' l = some (.lst xs) → RepL H' ((if brs.any (·.em) = true then [] else [[]]).map eRow) xs → Q (.ref l) H') := by
  refine mk_Search_first_level T (fun vs H Q E ⟨_, _, e, _⟩ => by subst e; rfl) (fun cdv A outer s H vs Q E hr ⟨a, brs, e, ⟨dx, lb, bs, many, h1, h2, h3⟩, q⟩ => ?_)
  subst e
  refine wss_one (rt_ee (Same.refl H) (ee_ifExp (P := fun v H2 => ∃ (l : Addr) (xs : List V), v = .ref l ∧ H l = none ∧ H2 l = some (.lst xs) ∧ RepL H2 ((if brs.any (·.em) = true then [] else [[]]).map eRow) xs) (bt_val (ve_fld (ve_var 0) h1 T.clSearch T.no_Search_dead rfl)) (fun hk => ?_) (fun hk => ?_)) fun v H' s' ⟨l, xs, e, z1, z2, z3⟩ => by subst e; exact q l xs H' s' z1 z2 z3)
  · rw [hk]; exact LE.en (le_lst aa_nil (by decide))
  · rw [hk]; exact LE.en (le_lst (aa_cons (de_tup aa_nil rfl (by decide)) aa_nil) (by show 1 ≤ 100000; decide))
end
end J
/-! The search made, its levels, joined. -/
namespace J
open PySem PySem.Spec PyProof.Rows L2
def deepen (brs : List Br) (lev : List Row) : List Row := lev.flatMap fun p => (nextOnes brs p).map fun x => p ++ [x]
theorem deepen_snoc {brs : List Br} {lev : List Row} {i : Nat} {p : Row} (h : lev[i]? = some p) : deepen brs (lev.take (i + 1)) = deepen brs (lev.take i) ++ (nextOnes brs p).map fun x => p ++ [x] := by
  unfold deepen
  rw [List.take_add_one, h, List.flatMap_append]
  simp
theorem deepen_len {brs : List Br} {lev : List Row} : (deepen brs lev).length ≤ lev.length * 3 := by
  unfold deepen
  induction lev with
  | nil => exact Nat.zero_le _
  | cons p lev ih =>
    rw [List.flatMap_cons, List.length_append, List.length_map, List.length_cons]
    have := only3_len fun x => (brs.filter fun br => br.places.contains p.length).all fun br => choicesOf br.places br.ks p x
    have h2 : (nextOnes brs p).length ≤ 3 := this
    omega
theorem mem_deepen {brs : List Br} {lev : List Row} {k : Nat} (h : ∀ p ∈ lev, p.length = k) : ∀ q ∈ deepen brs lev, q.length = k + 1 := fun q hq => by
  obtain ⟨p, hp, hq⟩ := List.mem_flatMap.mp hq
  obtain ⟨x, _, e⟩ := List.mem_map.mp hq
  rw [← e, List.length_append, h p hp]
  rfl
theorem allP_map {α β : Type} {Po : β → V → Hp → Prop} {f : α → β} {H : Hp} : ∀ {as : List α} {ws : List V}, AllP (fun a v H => Po (f a) v H) H as ws → AllP Po H (as.map f) ws
  | [], _, h => h
  | _ :: _, _, ⟨w, r, e, h1, h2⟩ => ⟨w, r, e, h1, allP_map h2⟩
section
variable {P : Program} {w : World} {K : PySem.W.Frag} {mg : Str → Option Value} {base : Heap}
theorem ins_key {C1 d1 C2 d2 : Addr} {k1 k2 : Str} {x1 x2 : V} {f1 f2 : List (Str × V)} (h : (some (HO.ins C1 d1 ((k1, x1) :: f1)) : Option HO) = some (.ins C2 d2 ((k2, x2) :: f2))) : k1 = k2 := by
  injection h with h
  injection h with _ _ h
  injection h with h
  injection h
theorem TrieAt.off {H : Hp} {t a : Addr} {ks : List Row} {C dx : Addr} {k : Str} {x : V} {fs : List (Str × V)} {o : HO} (h : TrieAt K H t ks) (ha : H a = some (.ins C dx ((k, x) :: fs))) (hk : k ≠ "top") : TrieAt K (upd H a o) t ks := by
  obtain ⟨f, n0, dt, sz, dp, h1, h2, h3, h4⟩ := h
  have hne : t ≠ a := fun e => by
    rw [e, ha] at h1
    exact hk (ins_key h1)
  refine ⟨f, n0, dt, sz, dp, by rw [upd_ne hne]; exact h1, h2.mono fun p b o e z => ?_, h3, h4⟩
  have hne2 : b ≠ a := fun e2 => by
    obtain ⟨_, _, z2, _⟩ := h2.node p b e
    rw [e2, ha] at z2; cases z2
  rw [upd_ne hne2]
  exact z
theorem BranchAt.off {H : Hp} {b a : Addr} {pl : List Nat} {ks : List Row} {em : Bool} {C dx : Addr} {k : Str} {x : V} {fs : List (Str × V)} {o : HO} (h : BranchAt K H b pl ks em) (ha : H a = some (.ins C dx ((k, x) :: fs))) (hk : k ≠ "top") (hk2 : k ≠ "places") : BranchAt K (upd H a o) b pl ks em := by
  obtain ⟨db, l, t, h1, h2, h3⟩ := h
  have hne : b ≠ a := fun e => by
    rw [e, ha] at h1
    exact hk2 (ins_key h1)
  have hne2 : l ≠ a := fun e => by rw [e, ha] at h2; cases h2
  exact ⟨db, l, t, by rw [upd_ne hne]; exact h1, by rw [upd_ne hne2]; exact h2, h3.off ha hk⟩
def searchInitS (K : PySem.W.Frag) : Sp := fun vs H Q _ => ∃ (a dx : Addr) (vc vp vo : V) (H0 : Hp) (c : Cat) (p : Pat), vs = [.ref a, vc, vp, vo] ∧ H a = some (.ins (He.ga K "Search") dx []) ∧ Same H0 H ∧ H0 a = none ∧ Rep H0 (eCat c) vc ∧ Rep H0 (ePat p) vp ∧ Rep H0 (eStrs (pvars p)) vo ∧ PatOk c p ∧ ∀ H', Same H0 H' → SearchAt K H' a (brsOf c p) → Q .non H'
theorem ok_Search_init (T : Tx K mg) : OkF P w K mg base (L2.CX P w) 6 (He.fAd K ("Search", some "__init__")) ["self", "catalogue", "pattern", "order"] (searchInitS K) := by
  refine mk_Search_init T (fun vs H Q E ⟨_, _, _, _, _, _, _, _, e, _⟩ => by subst e; rfl) (fun cdv A outer s H vs Q E hr ⟨a, dx, vc, vp, vo, H0, c, p, e, ha, hS, h0a, rc, rp, ro, ok, q⟩ => ?_)
  subst e
  have hal := ok.alen
  refine wss_cons (ws_fldD (.int ((pvars p).length : Int)) (DE.is (de_len T.b_len (DE.qe (de_var 3 (ro.mono (.of hS))))) (by rw [List.length_map])) (ve_var 0) ha T.clSearch T.no_Search_many (fun v1 H1 s1 r1 => ?_) (by show 0 < 1000; decide))
  cases (show v1 = _ from r1)
  have hS1 : Same H0 (upd H1 a (.ins (He.ga K "Search") dx (putF "many" (.int (pvars p).length) []))) := (hS.trans s1).mut h0a
  have ha1 : (upd H1 a (.ins (He.ga K "Search") dx (putF "many" (.int (pvars p).length) []))) a = some (.ins (He.ga K "Search") dx [("many", .int (pvars p).length)]) := by rw [upd_same]; rfl
  generalize upd H1 a (.ins (He.ga K "Search") dx (putF "many" (.int (pvars p).length) [])) = H2 at *
  refine wss_cons (ws_fldW (a := a) (C := He.ga K "Search") (dx := dx) (fs := [("many", .int (pvars p).length)]) (EE.go (ee_mN (fun atm v H => PoBr K (brOf c (pvars p) atm) v H) n_Search_init (defScope s_Search_init) 4 p.atoms eAtm rfl sc_Search_init.nd (DE.ue (de_ix (DE.ue (de_var 2 (rp.mono (.of hS1)))) de_int (d := eAtms p.atoms) rfl)) (by omega) fun atm u H3 hatm s3 ru => ?_) (Same.refl H2) fun v3 H3 s3 ⟨lb, ws, e3, hnb, hlb, hall⟩ => ?_))
  · intro s4 H4 C cl fp H5 s5
    obtain ⟨t, t1, t2, t3⟩ := ok.tab atm hatm
    refine we_make T.mkBranch (ok_Branch_init T) hr T.gBranch passL (aa_cons (de_var 1 (rc.mono (.of ((hS1.trans s3).trans s5)))) (aa_cons (de_var 4 (ru.mono (.of s5))) (aa_cons (de_var 3 (ro.mono (.of ((hS1.trans s3).trans s5)))) aa_nil))) fun vs H6 s6 rr yt dt n1 n2 n3 => ?_
    obtain ⟨w1, w2, w3, e, q1, q2, q3⟩ := rr.three
    subst e
    refine ⟨yt, dt, w1, w2, w3, H6, c, atm, pvars p, t, rfl, upd_same, (Same.new n2).trans (Same.new (by rw [upd_ne (Ne.symm n3)]; exact n1)), n1, q1, q2, q3, t1, ok.clen, t2, t3, ok.lo atm hatm, ok.hi atm hatm, nodup_pvars p, Nat.le_trans ok.olen (by decide), fun v hv => mem_pvars.mpr ⟨atm, hatm, hv⟩, fun H7 s7 hB => ⟨rfl, s6.trans s7, fun H8 h8 => ⟨yt, rfl, ?_⟩⟩⟩
    have eb : brOf c (pvars p) atm = ⟨placesOf (pvars p) atm.vars, (rowsOf t atm.vars).map (keyOf (colsOf (pvars p) atm.vars)), decide ((rowsOf t atm.vars).length = 0)⟩ := by unfold brOf; rw [t1]
    rw [eb]
    exact ((hB.low (s5.trans s6)).to h8).at
  · subst e3
    refine ⟨ve_var 0, s3 _ _ ha1, T.clSearch, T.no_Search_branches, by show 1 < 1000; decide, fun H4 s4 => ?_⟩
    have hba : lb ≠ a := fun e => by rw [e, ha1] at hnb; cases hnb
    have hS4 : Same H0 (upd H4 a (.ins (He.ga K "Search") dx (putF "branches" (.ref lb) [("many", .int (pvars p).length)]))) := ((hS1.trans s3).trans s4).mut h0a
    have ha4 : (upd H4 a (.ins (He.ga K "Search") dx (putF "branches" (.ref lb) [("many", .int (pvars p).length)]))) a = some (.ins (He.ga K "Search") dx [("many", .int (pvars p).length), ("branches", .ref lb)]) := by rw [upd_same]; rfl
    have hl4 : (upd H4 a (.ins (He.ga K "Search") dx (putF "branches" (.ref lb) [("many", .int (pvars p).length)]))) lb = some (.lst ws) := by rw [upd_ne hba]; exact s4 _ _ hlb
    have hall4 : AllP (fun atm v H => PoBr K (brOf c (pvars p) atm) v H) (upd H4 a (.ins (He.ga K "Search") dx (putF "branches" (.ref lb) [("many", .int (pvars p).length)]))) p.atoms ws := hall.imp fun atm v ⟨b, e, z⟩ => ⟨b, e, (z.mono s4).off (s4 _ _ (s3 _ _ ha1)) (by decide) (by decide)⟩
    generalize upd H4 a (.ins (He.ga K "Search") dx (putF "branches" (.ref lb) [("many", .int (pvars p).length)])) = H5 at *
    refine wss_one (ws_fldD (.bool ((brsOf c p).any (·.em))) (DE.is (de_any (bs := p.atoms.map fun atm => (brOf c (pvars p) atm).em) rfl T.b_any (LE.lv (LE.is (le_gLs (l := lb) (vs := ws) (ifs := []) n_Search_init (defScope s_Search_init) 5 p.atoms (fun atm v => PoBr K (brOf c (pvars p) atm) v H5) hall4.len (fun i a v h1 h2 => hall4.get h1 h2) (fun _ => true) (fun atm => .bool (brOf c (pvars p) atm).em) rfl sc_Search_init.nd (ve_fld (ve_var 0) ha4 T.clSearch T.no_Search_branches rfl) (SqL.of hl4) (by omega) fun atm u H6 hatm ⟨b, eb, hbA⟩ s6 => ?_) (by rw [filter_true, List.map_map]; rfl)))) ?_) (ve_var 0) ha4 T.clSearch T.no_Search_dead (fun v7 H7 s7 r7 => ?_) (by show 2 < 1000; decide))
    · subst eb
      obtain ⟨dxb, fs, i1, i2, i5, l, i3, i4⟩ := br_ins (hbA.mono s6)
      exact ⟨fun _ _ _ _ _ => bts_nil, fun _ s8 H8 C cl fp => ve_fld (ve_var 5) i1 T.clBranch T.no_Branch_empty i5⟩
    · unfold brsOf
      rw [List.any_map, List.any_map]
      rfl
    · cases (show v7 = _ from r7)
      refine q _ ((hS4.trans s7).mut h0a) ⟨dx, lb, ws, _, by rw [upd_same]; rfl, by rw [upd_ne hba]; exact s7 _ _ hl4, ?_⟩
      have z := hall4.imp (H' := upd H7 a (.ins (He.ga K "Search") dx (putF "dead" (.bl ((brsOf c p).any (·.em))) [("many", .int (pvars p).length), ("branches", .ref lb)]))) (Po' := fun atm v H => PoBr K (brOf c (pvars p) atm) v H) fun atm v ⟨b, e, z⟩ => ⟨b, e, (z.mono s7).off (s7 _ _ ha4) (by decide) (by decide)⟩
      exact allP_map z
def deeperS (K : PySem.W.Frag) : Sp := fun vs H Q _ => ∃ (sa l : Addr) (xs : List V) (brs : List Br) (lev : List Row) (k : Nat), vs = [.ref sa, .ref l] ∧ SearchAt K H sa brs ∧ H l = some (.lst xs) ∧ RepL H (lev.map eRow) xs ∧ (∀ p ∈ lev, p.length = k) ∧ lev.length ≤ 1000 ∧ k ≤ 50 ∧ brs.length ≤ 3 ∧ (∀ br ∈ brs, br.places.length ≤ 50) ∧ (∃ br ∈ brs, k ∈ br.places) ∧
  ∀ l' xs' H', Same H H' → H l' = none → H' l' = some (.lst xs') → RepL H' ((deepen brs lev).map eRow) xs' → Q (.ref l') H'
theorem ok_Search_deeper (T : Tx K mg) : OkF P w K mg base (L2.CX P w) 5 (He.fAd K ("Search", some "deeper")) ["self", "level"] (deeperS K) := by
  refine mk_Search_deeper T (fun vs H Q E ⟨_, _, _, _, _, _, e, _⟩ => by subst e; rfl) (fun cdv A outer s H vs Q E hr ⟨sa, l, xs, brs, lev, k, e, hSA, hl, rl, hk, hz, hk50, hb3, hpl, hex, q⟩ => ?_)
  subst e
  refine wss_cons (ws_set 2 sc_Search_deeper.nd (LE.go (le_lst aa_nil (by decide)) (Same.refl H) fun lg ys H1 s1 hn hlg rl1 => ?_))
  obtain rfl : ys = [] := rl1
  obtain ⟨dx, lb, bs, many, hsa, _, _⟩ := id hSA
  refine wss_cons (ws_forL (passes_of rfl) rfl (ve_var 1) (SqL.of (s1 _ _ hl)) (rl.mono (.of s1)) (pg_name (i := 3) sc_Search_deeper.nd rfl (.inl rfl)) (fun i σ' H' => ∃ (o1 o2 : Option V) (acc : List V), σ' = [some (.ref sa), some (.ref l), some (.ref lg), o1, o2] ∧ Same H H' ∧ Kp H1 H' ∧ H' lg = some (.lst acc) ∧ RepL H' ((deepen brs (lev.take i)).map eRow) acc)
    (fun H2 s2 => ⟨none, none, [], rfl, s1.trans s2, .of s2, s2 _ _ hlg, rfl⟩) (fun i σ' H' ⟨_, _, _, _, s, kp, _⟩ => ⟨kp, SqL.of (s _ _ hl)⟩) ?_ ?_)
  · rintro i d v σ' H' hd rd ⟨o1, o2, acc, eσ, s2, kp, h2, h3⟩
    subst eσ
    obtain ⟨p, hp, e⟩ := map_at hd
    subst e
    have hpm := List.mem_of_getElem? hp
    have hlen := hk p hpm
    have hi : i < lev.length := (List.getElem?_eq_some_iff.mp hp).1
    have hacc : acc.length ≤ 3000 := by
      rw [h3.length, List.length_map]
      have := deepen_len (brs := brs) (lev := lev.take i)
      rw [List.length_take] at this
      omega
    refine wss_one (ws_forU (ds := (nextOnes brs p).map .int) (passes_of rfl) rfl (DE.ue (ee_meth (ok_Search_next_ones T) hr (ve_var 0) (s2 _ _ hsa) T.clSearch T.me_Search_next_ones rfl passL (aa_one (de_var 3 rd)) fun vs H3 Q s3 ⟨v1, e1, r1⟩ hq => ?_)) (pg_name (i := 4) sc_Search_deeper.nd rfl (.inl rfl)) (fun H3 j σ3 H4 => ∃ (o : Option V) (acc2 : List V), σ3 = [some (.ref sa), some (.ref l), some (.ref lg), some v, o] ∧ Same H H4 ∧ Kp H3 H4 ∧ Kp H' H4 ∧ H4 lg = some (.lst acc2) ∧ acc2.length = acc.length + j ∧ RepL H4 ((deepen brs (lev.take i) ++ ((nextOnes brs p).take j).map fun x => p ++ [x]).map eRow) acc2)
      (fun H3 s3 => ⟨_, acc, rfl, s2.trans s3, .refl _, .of s3, s3 _ _ h2, rfl, by rw [List.take_zero, List.map_nil, List.append_nil]; exact h3.mono (.of s3)⟩) (fun H3 j σ3 H4 ⟨_, _, _, _, kp, _⟩ => kp) ?_ ?_)
    · subst e1
      exact ⟨sa, v1, brs, p, rfl, hSA.mono (s2.trans s3), r1, by omega, hb3, hpl, by rw [hlen]; exact hex, fun v' H5 s5 r5 => hq v' H5 s5 r5⟩
    · rintro H3 j d2 u2 σ3 H4 s3 hd2 rd2 ⟨o, acc2, eσ, s4, kp3, kp4, h5, h6, h7⟩
      subst eσ
      obtain ⟨x, hx, e⟩ := map_at hd2
      subst e
      have hj : j < 3 := Nat.lt_of_lt_of_le (List.getElem?_eq_some_iff.mp hx).1 (only3_len _)
      refine wss_one (ws_app (ve_var 2) h5 (by omega) (DE.is (d2 := eRow (p ++ [x])) (de_addt (de_var 3 (rd.mono kp4)) (de_tup (aa_cons (de_var 4 rd2) aa_nil) rfl (by show 1 ≤ 100000; decide)) (szl (by rw [List.length_map]; show _ + 1 ≤ _; omega)) fun _ _ => ?_) ?_) fun y H5 s5 r5 => ?_)
      · rw [show p.map PyData.int ++ [.int x] = (p ++ [x]).map .int by rw [List.map_append]; rfl]; exact vst_ints
      · show PyData.tuple _ = PyData.tuple _
        rw [List.map_append]; rfl
      · have ku : Kp H5 (upd H5 lg (.lst (acc2 ++ [y]))) := .upd (s5 _ _ h5) rfl
        refine ⟨_, acc2 ++ [y], rfl, (s4.trans s5).mut hn, kp3.trans ((Kp.of s5).trans ku), kp4.trans ((Kp.of s5).trans ku), upd_same, by rw [List.length_append, h6]; rfl, ?_⟩
        have e3 : deepen brs (lev.take i) ++ ((nextOnes brs p).take (j + 1)).map (fun x => p ++ [x]) = (deepen brs (lev.take i) ++ ((nextOnes brs p).take j).map fun x => p ++ [x]) ++ [p ++ [x]] := by
          rw [List.take_add_one, hx, Option.toList_some, List.map_append, ← List.append_assoc]; rfl
        rw [e3, List.map_append]
        exact (h7.mono ((Kp.of s5).trans ku)).snoc (r5.mono ku)
    · rintro H3 σ3 H4 s3 ⟨o, acc2, eσ, s4, kp3, kp4, h5, h6, h7⟩
      subst eσ
      rw [List.length_map, List.take_length, ← deepen_snoc hp] at h7
      exact ⟨_, _, acc2, rfl, s4, kp.trans kp4, h5, h7⟩
  · rintro σ' H' ⟨o1, o2, acc, eσ, s2, kp, h2, h3⟩
    subst eσ
    rw [List.length_map, List.take_length] at h3
    exact wss_one (ws_ret (EE.go (ve_var 2) (Same.refl H') fun v' H5 s5 e5 => by
      subst e5
      exact q lg acc H5 (s2.trans s5) hn (s5 _ _ h2) (h3.mono (.of s5))))
/-! the levels, in plain -/
def lev0 (brs : List Br) : List Row := if brs.any (·.em) = true then [] else [[]]
def levs (brs : List Br) : Nat → List Row
  | 0 => lev0 brs
  | k + 1 => deepen brs (levs brs k)
theorem levs_len (brs : List Br) : ∀ k, (levs brs k).length ≤ 3 ^ k
  | 0 => by
    unfold levs lev0
    split <;> decide
  | k + 1 => by
    have h1 := levs_len brs k
    have h2 := deepen_len (brs := brs) (lev := levs brs k)
    show (deepen brs (levs brs k)).length ≤ _
    rw [Nat.pow_succ]
    omega
theorem levs_at (brs : List Br) : ∀ k, ∀ p ∈ levs brs k, p.length = k
  | 0 => by
    unfold levs lev0
    split
    · exact nofun
    · intro p hp; rw [List.mem_singleton.mp hp]; rfl
  | k + 1 => mem_deepen (levs_at brs k)
theorem brs_places {c : Cat} {p : Pat} (ok : PatOk c p) : ∀ br ∈ brsOf c p, br.places.length ≤ 50 := fun br hbr => by
  obtain ⟨a, ha, e⟩ := List.mem_map.mp hbr
  obtain ⟨t, t1, _⟩ := ok.tab a ha
  subst e
  unfold brOf
  rw [t1]
  exact Nat.le_trans places_len (Nat.le_trans ok.olen (by decide))
theorem brs_at {c : Cat} {p : Pat} (ok : PatOk c p) {k : Nat} (hk : k < (pvars p).length) : ∃ br ∈ brsOf c p, k ∈ br.places := by
  have h1 : (pvars p)[k]? = some ((pvars p).getD k "") := getD_at ("" : Str) hk
  obtain ⟨a, ha, hv⟩ := mem_pvars.mp (List.mem_of_getElem? h1)
  obtain ⟨t, t1, _⟩ := ok.tab a ha
  refine ⟨_, List.mem_map.mpr ⟨a, ha, rfl⟩, ?_⟩
  unfold brOf
  rw [t1]
  exact mem_places.mpr ⟨hk, hv⟩
def joinedL (c : Cat) (p : Pat) : List Row := levs (brsOf c p) (pvars p).length
def joinedP (ds : List PyData) (rows : List Row) : Prop := ∃ c p lim, PatOk c p ∧ (lim = 0 ∨ lim = 20000) ∧ ds = [eCat c, ePat p, eStrs (pvars p), .int lim] ∧ rows = joinedL c p
def joinedS : Sp := fun vs H Q _ => ∃ ds rows, RepL H ds vs ∧ joinedP ds rows ∧ ∀ v H' ns, Same H H' → Rep H' (.tuple [eRows rows, eRow ns]) v → Q v H'
theorem ok_joined (T : Tx K mg) : OkF P w K mg base (L2.CX P w) 8 (He.fAd K ("joined", none)) ["catalogue", "pattern", "order", "limit"] joinedS := by
  refine mk_joined T (fun vs H Q E ⟨ds, rows, h, ⟨_, _, _, _, _, e, _⟩, _⟩ => by rw [h.length, e]; rfl) (fun cdv A outer s H vs Q E hr ⟨ds, rows, h, ⟨c, p, lim, ok, hlim, e, e2⟩, q⟩ => ?_)
  subst e e2
  obtain ⟨vc, r0, e, rc, h⟩ := h
  subst e
  obtain ⟨vp, vo, vl, e, rp, ro, rli⟩ := h.three
  subst e
  cases (show vl = _ from rli)
  have holen := ok.olen
  refine wss_cons (ws_set 4 sc_joined.nd (we_make T.mkSearch (ok_Search_init T) hr T.gSearch passL (aa_cons (de_var 0 rc) (aa_cons (de_var 1 rp) (aa_cons (de_var 2 ro) aa_nil))) fun vs H1 s1 rr yt dt n1 n2 n3 => ?_))
  obtain ⟨w1, w2, w3, e, q1, q2, q3⟩ := rr.three
  subst e
  refine ⟨yt, dt, w1, w2, w3, H1, c, p, rfl, upd_same, (Same.new n2).trans (Same.new (by rw [upd_ne (Ne.symm n3)]; exact n1)), n1, q1, q2, q3, ok, fun H2 s2 hSA => ⟨rfl, ?_⟩⟩
  have s12 := s1.trans s2
  obtain ⟨dx, lb, bs, many, hsa, _, _⟩ := id hSA
  refine wss_cons (ws_set 5 sc_joined.nd (we_meth0 (ok_Search_first T |>.mono (by decide)) hr (ve_var 4) hsa T.clSearch T.me_Search_first_level rfl passL fun H3 s3 => ⟨yt, brsOf c p, rfl, hSA.mono s3, fun l0 xs0 H4 s4 hn0 hl0 rl0 => ?_⟩))
  have s14 := (s12.trans s3).trans s4
  refine wss_cons (ws_set 6 sc_joined.nd (LE.go (le_lst aa_nil (by decide)) (Same.refl H4) fun lv ys H5 s5 hnv hlv rlv => ?_))
  obtain rfl : ys = [] := rlv
  have hSA4 := hSA.mono (s3.trans s4)
  have hlv0 : H4 lv = none := hnv
  have hl0v : l0 ≠ lv := fun e => by rw [e, hlv0] at hl0; cases hl0
  have hbl : (brsOf c p).length ≤ 3 := by unfold brsOf; rw [List.length_map]; exact ok.alen
  refine wss_cons (ws_forR (g := gName 7) (n := (pvars p).length) (passes_of rfl) rfl T.b_range ((DE.is (d2 := .int ((pvars p).length : Int)) (de_len T.b_len (DE.qe (de_var 2 (ro.mono (.of (s14.trans s5)))))) (by rw [List.length_map])).go (Same.refl H5) fun v6 H6 s6 e6 => ⟨e6, fun i σ' H' => ∃ (ll : Addr) (xs : List V) (o : Option V) (acc : List Int), σ' = [some vc, some vp, some vo, some (.int lim), some (.ref yt), some (.ref ll), some (.ref lv), o] ∧ Same H4 H' ∧ H' ll = some (.lst xs) ∧ RepL H' ((levs (brsOf c p) i).map eRow) xs ∧ H' lv = some (.lst (acc.map V.int)) ∧ acc.length = i ∧ ll ≠ lv, ⟨l0, xs0, none, [], rfl, s5.trans s6, s6 _ _ (s5 _ _ hl0), rl0.mono (.of (s5.trans s6)), s6 _ _ hlv, rfl, hl0v⟩, ?_, ?_⟩) (by omega) (pg_name sc_joined.nd rfl (.inl rfl)))
  · rintro i σ' H' hi ⟨ll, xs, o, acc, eσ, s7, h1, h2, h3, h4, h5⟩
    subst eσ
    obtain ⟨dx2, lb2, bs2, many2, hsa2, _, _⟩ := hSA4.mono s7
    have h27 : (levs (brsOf c p) i).length ≤ 27 := Nat.le_trans (levs_len _ i) (Nat.pow_le_pow_right (n := 3) (j := 3) (by decide) (by omega))
    have h27' : (levs (brsOf c p) (i + 1)).length ≤ 27 := Nat.le_trans (levs_len _ (i + 1)) (Nat.pow_le_pow_right (n := 3) (j := 3) (by decide) (by omega))
    refine wss_cons (ws_set 5 sc_joined.nd (we_meth (ok_Search_deeper T |>.mono (by decide)) hr (ve_var 4) hsa2 T.clSearch T.me_Search_deeper rfl passL (aa_one (P := fun v _ => v = .ref ll) (ve_var 5)) fun vs H8 s8 ⟨v8, e8, e9⟩ => ?_))
    subst e8 e9
    refine ⟨yt, ll, xs, brsOf c p, levs (brsOf c p) i, i, rfl, hSA4.mono (s7.trans s8), s8 _ _ h1, h2.mono (.of s8), levs_at _ i, by omega, by omega, hbl, brs_places ok, brs_at ok hi, fun l2 xs2 H9 s9 hn9 hl9 rl9 => ?_⟩
    have s79 := (s7.trans s8).trans s9
    have hlv9 := s9 _ _ (s8 _ _ h3)
    have hne : l2 ≠ lv := fun e => by rw [e, s8 _ _ h3] at hn9; cases hn9
    have lenE : ∀ H10, Same H9 H10 → ∀ p1 p2 pos, DE (cxOf (L2.CX P w) P w K mg base n_joined "joined" (defScope s_joined) (He.fAd K ("joined", none)) cdv A outer s H E) (.Call (.Name "len" p1) [.Name "level" p2] [] pos) [some vc, some vp, some vo, some (.int lim), some (.ref yt), some (.ref l2), some (.ref lv), some (.int (i : Int))] H10 (.int ((levs (brsOf c p) (i + 1)).length : Int)) := fun H10 s10 p1 p2 pos => DE.is (de_len T.b_len (LV.qe (ve_lv (ve_var 5) (SqL.of (s10 _ _ hl9)) (rl9.mono (.of s10))))) (by rw [List.length_map]; rfl)
    refine wss_cons (ws_if (BT.go (bt_and (bt_cmp (ce_gt (de_var (d := .int lim) 3 rfl) de_int)) fun _ => bt_cmp (ce_gt (lenE H9 (.refl _) _ _ _) (de_var (d := .int lim) 3 rfl))) (Same.refl H9) fun H10 s10 => ?_))
    rw [if_neg (by
      rcases hlim with e | e <;> subst e
      · rw [decide_eq_false (show ¬ (0 : Int) < 0 by omega), Bool.false_and]; decide
      · rw [decide_eq_false (show ¬ (20000 : Int) < _ by omega), Bool.and_false]; decide)]
    refine wss_nil (wss_one (ws_app (ve_var 6) (s10 _ _ hlv9) (by rw [List.length_map]; omega) (lenE H10 s10 _ _ _) fun v11 H11 s11 e11 => ?_))
    cases (show v11 = _ from e11)
    refine ⟨l2, xs2, _, acc ++ [((levs (brsOf c p) (i + 1)).length : Int)], rfl, ((s79.trans s10).trans s11).mut hlv0, by rw [upd_ne hne]; exact s11 _ _ (s10 _ _ hl9), rl9.mono ((Kp.of (s10.trans s11)).trans (.upd (s11 _ _ (s10 _ _ hlv9)) rfl)), by rw [upd_same, List.map_append]; rfl, by rw [List.length_append, h4]; rfl, hne⟩
  · rintro σ' H' ⟨ll, xs, o, acc, eσ, s7, h1, h2, h3, h4, h5⟩
    subst eσ
    exact wss_one (rt_de (s14.trans s7) (de_tup (aa_cons (de_tuple T.b_tuple (ve_lv (ve_var 5) (SqL.of h1) h2)) (aa_cons (de_tuple (ds := acc.map .int) T.b_tuple (ve_lv (ve_var 6) (SqL.of h3) RepL.ofInts)) aa_nil)) rfl (by show 2 ≤ 100000; decide)) fun v' H8 s8 r8 => q v' H8 acc s8 r8)
end
end J
/-! Counted answers. -/
namespace J
open PySem PySem.Spec PyProof.Rows L2
def tups : Nat → List Row
  | 0 => [[]]
  | n + 1 => (tups n).flatMap fun p => [0, 1, 2].map fun x => p ++ [x]
theorem mem_tups : ∀ {n : Nat} {r : Row}, r ∈ tups n ↔ GRow n r
  | 0, r => by
    unfold tups
    rw [List.mem_singleton]
    exact ⟨fun e => ⟨by rw [e]; rfl, by rw [e]; exact nofun⟩, fun g => List.length_eq_zero_iff.mp g.len⟩
  | n + 1, r => by
    unfold tups
    rw [List.mem_flatMap]
    constructor
    · rintro ⟨p, hp, hr⟩
      obtain ⟨x, hx, e⟩ := List.mem_map.mp hr
      have g := mem_tups.mp hp
      subst e
      refine ⟨by rw [List.length_append, g.len]; rfl, fun y hy => (List.mem_append.mp hy).elim (g.val y) fun h => ?_⟩
      rw [List.mem_singleton.mp h]
      exact (by simpa using hx : x = 0 ∨ x = 1 ∨ x = 2)
    · intro g
      have hne : r ≠ [] := List.ne_nil_of_length_pos (by rw [g.len]; omega)
      refine ⟨r.dropLast, mem_tups.mpr ⟨by rw [List.length_dropLast, g.len]; rfl, fun y hy => g.val y (List.dropLast_subset r hy)⟩, List.mem_map.mpr ⟨r.getLast hne, ?_, List.dropLast_concat_getLast hne⟩⟩
      have : _ = (0 : Int) ∨ _ ∨ _ := g.val _ (List.getLast_mem hne)
      simpa using this
theorem tups_len : ∀ n, (tups n).length = 3 ^ n
  | 0 => rfl
  | n + 1 => by
    unfold tups
    have h : ∀ l : List Row, (l.flatMap fun p => [0, 1, 2].map fun x => p ++ [x]).length = l.length * 3 := fun l => by
      induction l with
      | nil => rfl
      | cons a l ih => rw [List.flatMap_cons, List.length_append, ih, List.length_map, List.length_cons]; show 3 + l.length * 3 = (l.length + 1) * 3; omega
    rw [h, tups_len n, Nat.pow_succ]
theorem grow_len {n : Nat} {rs : List Row} (h : ∀ r ∈ rs, GRow n r) (hn : rs.Nodup) (h3 : n ≤ 3) : rs.length ≤ 27 := by
  have := List.Nodup.length_le_of_subset (l₂ := tups n) hn fun r hr => mem_tups.mpr (h r hr)
  rw [tups_len] at this
  exact Nat.le_trans this (Nat.pow_le_pow_right (n := 3) (j := 3) (by decide) h3)
abbrev kI (r : Row) : List Key := r.map Sum.inl
theorem kI_inj {r s : Row} (h : kI r = kI s) : r = s := List.map_inj_right (fun _ _ e => Sum.inl.inj e) |>.mp h
structure CtD (n : Nat) (kvs : List (List Key × V)) (g : Row → Nat) : Prop where
  val : ∀ r, valV kvs (kI r) = if g r = 0 then none else some (.int (g r : Int))
  keys : ∃ rs : List Row, kvs.map (·.1) = rs.map kI ∧ rs.Nodup ∧ (∀ r ∈ rs, GRow n r) ∧ ∀ r, r ∈ rs ↔ g r ≠ 0
theorem CtD.nil (n : Nat) : CtD n [] fun _ => 0 := ⟨fun _ => rfl, [], rfl, List.nodup_nil, nofun, fun r => ⟨fun h => (nomatch h), fun h => absurd rfl h⟩⟩
theorem CtD.len {n : Nat} {kvs : List (List Key × V)} {g : Row → Nat} (h : CtD n kvs g) (hn : n ≤ 3) : kvs.length ≤ 27 := by
  obtain ⟨rs, h1, h2, h3, _⟩ := h.keys
  have := congrArg List.length h1
  rw [List.length_map, List.length_map] at this
  rw [this]
  exact grow_len h3 h2 hn
theorem CtD.get {n : Nat} {kvs : List (List Key × V)} {g : Row → Nat} (h : CtD n kvs g) (r : Row) : (valV kvs (kI r)).getD (.int 0) = .int (g r : Int) := by
  rw [h.val]
  split
  · rename_i e; rw [e]; rfl
  · rfl
theorem put_keys {κ : Type} [DecidableEq κ] {kvs : List (κ × V)} {k : κ} {v u : V} (h : valV kvs k = some u) : (putK kvs k v).map (·.1) = kvs.map (·.1) := by
  unfold putK
  rw [valV_any, h]
  show (if true = true then _ else _ : List (κ × V)).map _ = _
  rw [if_pos rfl, List.map_map]
  refine List.map_congr_left fun a _ => ?_
  show (if a.1 = k then (a.1, v) else a).1 = a.1
  split <;> rfl
/-- one key's count set -/
theorem CtD.set {n : Nat} {kvs : List (List Key × V)} {g : Row → Nat} {a : Row} {m : Nat} (h : CtD n kvs g) (ha : GRow n a) (hm : 0 < m) : CtD n (putK kvs (kI a) (.int (m : Int))) fun r => if r = a then m else g r := by
  obtain ⟨rs, h1, h2, h3, h4⟩ := h.keys
  refine ⟨fun r => ?_, ?_⟩
  · rw [valV_put]
    by_cases e : r = a
    · subst e
      rw [if_pos rfl, if_pos rfl, if_neg (by omega)]
    · rw [if_neg fun e2 => e (kI_inj e2), if_neg e, h.val]
  · by_cases hz : g a = 0
    · have hv : valV kvs (kI a) = none := by rw [h.val, if_pos hz]
      have hn : a ∉ rs := fun z => (h4 a).mp z hz
      refine ⟨rs ++ [a], by rw [putK_new _ hv, List.map_append, h1, List.map_append]; rfl, List.nodup_append.mpr ⟨h2, List.nodup_cons.mpr ⟨nofun, List.nodup_nil⟩, fun x hx y hy e => hn (by rw [← List.mem_singleton.mp hy, ← e]; exact hx)⟩, fun r hr => (List.mem_append.mp hr).elim (h3 r) fun e => by rw [List.mem_singleton.mp e]; exact ha, fun r => ?_⟩
      rw [List.mem_append, List.mem_singleton, h4]
      by_cases e : r = a
      · rw [if_pos e]; exact ⟨fun _ => by omega, fun _ => .inr e⟩
      · rw [if_neg e]; exact ⟨fun z => z.elim id fun e2 => absurd e2 e, .inl⟩
    · have hv : valV kvs (kI a) = some (.int (g a : Int)) := by rw [h.val, if_neg hz]
      refine ⟨rs, by rw [put_keys hv, h1], h2, h3, fun r => ?_⟩
      rw [h4]
      by_cases e : r = a
      · rw [if_pos e, e]; exact ⟨fun _ => by omega, fun _ => hz⟩
      · rw [if_neg e]
theorem CtD.congr {n : Nat} {kvs : List (List Key × V)} {g g' : Row → Nat} (h : CtD n kvs g) (e : ∀ r, g r = g' r) : CtD n kvs g' := by
  rw [show g' = g from funext fun r => (e r).symm]; exact h
def proj (p : Pat) (t : Row) : Row := p.head.map fun v => t.getD (idx (pvars p) v) 0
def cntOf (p : Pat) (rows : List Row) (a : Row) : Nat := (rows.filter fun t => decide (proj p t = a)).length
theorem cnt_take {p : Pat} {rows : List Row} {i : Nat} {t : Row} (h : rows[i]? = some t) (a : Row) : cntOf p (rows.take (i + 1)) a = if a = proj p t then cntOf p (rows.take i) (proj p t) + 1 else cntOf p (rows.take i) a := by
  unfold cntOf
  rw [List.take_add_one, h, Option.toList_some, List.filter_append, List.length_append, List.filter_cons]
  by_cases e : a = proj p t
  · rw [if_pos e, if_pos (decide_eq_true e.symm), e]; rfl
  · rw [if_neg e, if_neg (by rw [decide_eq_false fun z => e z.symm]; decide)]; rfl
section
variable {P : Program} {w : World} {K : PySem.W.Frag} {mg : Str → Option Value} {base : Heap}
def countedS : Sp := fun vs H Q _ => ∃ (vp vr : V) (c : Cat) (p : Pat) (rows : List Row), vs = [vp, vr] ∧ Rep H (ePat p) vp ∧ Rep H (eRows rows) vr ∧ PatOk c p ∧ (∀ r ∈ rows, GRow (pvars p).length r) ∧ rows.length ≤ 100 ∧
  ∀ d kvs H', Same H H' → H d = none → H' d = some (.dT kvs) → CtD p.head.length kvs (cntOf p rows) → Q (.ref d) H'
theorem ok_counted (T : Tx K mg) : OkF P w K mg base (L2.CX P w) 2 (He.fAd K ("counted", none)) ["pattern", "rows"] countedS := by
  refine mk_counted T (fun vs H Q E ⟨_, _, _, _, _, e, _⟩ => by subst e; rfl) (fun cdv A outer s H vs Q E hr ⟨vp, vr, c, p, rows, e, rp, rr, ok, hrow, h100, q⟩ => ?_)
  subst e
  have hu := hu_of hr
  have hh := ok.hlen
  refine wss_cons (ws_de (d := eStrs (pvars p)) 2 sc_counted.nd (de_call (ok_all_variables T) hr T.gall_variables passL (aa_cons (de_var 0 rp) aa_nil) ⟨p, ⟨ok.alen, ok.hi, by omega⟩, rfl, rfl⟩) fun vo H1 s1 ro => ?_)
  refine wss_cons (ws_mU 3 n_counted (defScope s_counted) 7 p.head .str (fun v => .int (idx (pvars p) v : Int)) rfl sc_counted.nd (DE.ue (de_ix (DE.ue (de_var 0 (rp.mono (.of s1)))) de_int (d := eStrs p.head) rfl)) (by omega) (fun v u H2 hv s2 ru => ?_) fun lp ys H2 s2 hn2 hl2 rl2 => ?_)
  · intro s3 H3 C cl fp
    obtain ⟨i1, i2⟩ := idx_at (ok.head v hv)
    exact de_index (de_var 2 (ro.mono (.of s2))) (de_var 7 ru) i1 i2
  have s12 := s1.trans s2
  refine wss_cons (ws_set 4 sc_counted.nd (we_newT fun d hd => ?_))
  have hdH : H d = none := s12.free hd
  have hdl : lp ≠ d := fun e => by rw [e, hd] at hl2; cases hl2
  refine wss_cons (ws_forU (passes_of rfl) rfl (DE.ue (de_var 1 ((rr.mono (.of s12)).mono (.new hd)))) (pg_name (i := 5) sc_counted.nd rfl (.inr rfl)) (fun H3 i σ' H' => ∃ (o1 o2 : Option V) (kvs : List (List Key × V)), σ' = [some vp, some vr, some vo, some (.ref lp), some (.ref d), o1, o2, none, none] ∧ Same H2 H' ∧ Kp H3 H' ∧ H' d = some (.dT kvs) ∧ CtD p.head.length kvs (cntOf p (rows.take i)))
    (fun H3 s3 => ⟨none, none, [], rfl, (Same.new hd).trans s3, .refl _, s3 _ _ upd_same, CtD.nil _⟩) (fun H3 i σ' H' ⟨_, _, _, _, _, kp, _⟩ => kp) ?_ ?_)
  · rintro H3 i d1 u σ' H' s3 hd1 rd ⟨o1, o2, kvs, eσ, s4, kp, h1, h2⟩
    subst eσ
    obtain ⟨t, ht, e⟩ := map_at hd1
    subst e
    have gt := hrow t (List.mem_of_getElem? ht)
    have hpr : GRow p.head.length (proj p t) := ⟨by unfold proj; rw [List.length_map], fun n hn => by
      obtain ⟨v, hv, e⟩ := List.mem_map.mp hn
      rw [← e]
      exact gt.val _ (List.mem_of_getElem? (getD_at 0 (by rw [gt.len]; exact idx_lt (ok.head v hv))))⟩
    refine wss_cons (ws_de (d := eRow (proj p t)) 6 sc_counted.nd (de_tuple (ds := (proj p t).map .int) T.b_tuple (LE.lv (LE.is (le_mL n_counted (defScope s_counted) 8 p.head (fun v => .int (idx (pvars p) v : Int)) (fun v => .int (t.getD (idx (pvars p) v) 0)) rfl sc_counted.nd (ve_lv (ve_var 3) (SqL.of (s4 _ _ hl2)) (rl2.mono (.of s4))) (by omega) fun v u2 H4 hv s5 ru2 => ?_) (by unfold proj; rw [List.map_map]; rfl)))) fun va H4 s5 ra => ?_)
    · intro s6 H6 C cl fp
      exact de_ix (DE.ue (de_var 5 (rd.mono (.of s5)))) (de_var 8 ru2) (atI_n (by rw [List.getElem?_map, getD_at 0 (by rw [gt.len]; exact idx_lt (ok.head v hv))]; rfl))
    · refine wss_one (ws_dputT hu (r := proj p t) mono_rep (DE.is (d2 := .int ((cntOf p (rows.take i) (proj p t) + 1 : Nat) : Int)) (de_add (de_n ((ve_dget2T hu (ve_var 4) (.inl (s5 _ _ h1)) (de_var 6 ra) (ve_n de_int) ⟨rfl, rfl, rfl, rfl⟩).imp fun v5 H5 _ e5 => by rw [e5]; exact h2.get _)) de_int) rfl) (ve_var 4) (s5 _ _ h1) (de_var 6 ra) (by have := h2.len hh; omega) fun v7 H7 s7 e7 => ?_)
      cases (show v7 = _ from e7)
      refine ⟨_, _, _, rfl, ((s4.trans s5).trans s7).mut hd, kp.trans ((Kp.of (s5.trans s7)).trans (.upd (s7 _ _ (s5 _ _ h1)) rfl)), upd_same, (h2.set hpr (Nat.succ_pos _)).congr fun r => (cnt_take ht r).symm⟩
  · rintro H3 σ' H' s3 ⟨o1, o2, kvs, eσ, s4, kp, h1, h2⟩
    subst eσ
    rw [List.length_map, List.take_length] at h2
    exact wss_one (ws_ret (EE.go (ve_var 4) (Same.refl H') fun v' H5 s5 e5 => by
      subst e5
      exact q d kvs H5 ((s12.trans s4).trans s5) hdH (s5 _ _ h1) h2))
end
end J
/-! The parts of a change. -/
namespace J
open PySem PySem.Spec PyProof.Rows L2
theorem ws_nx {X : Cx} {st : Stmt} {D : Ends} {σ : L2.St} {H : Hp} (R : L2.St → Hp → Prop) (h : WS X st { D with nx := R } σ H) (k : ∀ σ' H', R σ' H' → D.nx σ' H') : WS X st D σ H := ⟨fun pins s I => thn (h.run pins s I) fun f s1 q => by
  cases f with
  | next => obtain ⟨σ', H', I', q⟩ := q; exact ⟨σ', H', I', k σ' H' q⟩
  | brk => exact q
  | cont => exact q
  | ret v => exact q⟩
def copyAtm (x : Str) (k j : Nat) (a : Atm) : Atm := ⟨if a.tab = x ∧ j ≤ k then (if j = k then "0" else "1") else a.tab, a.vars⟩
def copyAtms (x : Str) (k : Nat) (as : List Atm) : List Atm := (List.range as.length).map fun j => copyAtm x k j (as.getD j ⟨"", []⟩)
def copyPat (p : Pat) (x : Str) (k : Nat) : Pat := ⟨p.head, copyAtms x k p.atoms⟩
def othersOf (t : Tab) (r : Row) : List Row := t.rows.filter fun o => !decide (o = r)
def copyCat (c : Cat) (t : Tab) (r : Row) : Cat := [⟨"0", t.cols, [r]⟩, ⟨"1", t.cols, othersOf t r⟩] ++ c
def copyAt (c : Cat) (p : Pat) (t : Tab) (x : Str) (r : Row) (k : Nat) : PyData := .tuple [eCat (copyCat c t r), ePat (copyPat p x k)]
def copyKs (p : Pat) (x : Str) : List Nat := (List.range p.atoms.length).filter fun k => decide ((p.atoms.getD k ⟨"", []⟩).tab = x)
theorem ks_snoc {p : Pat} {x : Str} {k : Nat} : (List.range (k + 1)).filter (fun k => decide ((p.atoms.getD k ⟨"", []⟩).tab = x)) = (List.range k).filter (fun k => decide ((p.atoms.getD k ⟨"", []⟩).tab = x)) ++ if (p.atoms.getD k ⟨"", []⟩).tab = x then [k] else [] := by
  rw [List.range_succ, List.filter_append, List.filter_cons]
  by_cases e : (p.atoms.getD k ⟨"", []⟩).tab = x
  · rw [if_pos e, if_pos (decide_eq_true e)]; rfl
  · rw [if_neg e, if_neg (by rw [decide_eq_false e]; decide)]; rfl
section
variable {P : Program} {w : World} {K : PySem.W.Frag} {mg : Str → Option Value} {base : Heap}
def copiesS : Sp := fun vs H Q _ => ∃ (vc vp vx vr : V) (c : Cat) (p : Pat) (x : Str) (r : Row) (t : Tab), vs = [vc, vp, vx, vr] ∧ Rep H (eCat c) vc ∧ Rep H (ePat p) vp ∧ Rep H (.str x) vx ∧ Rep H (eRow r) vr ∧ findT c x = some t ∧ c.length ≤ 100 ∧ t.rows.length ≤ 100 ∧ p.atoms.length ≤ 3 ∧
  ∀ l xs H', Same H H' → H l = none → H' l = some (.lst xs) → RepL H' ((copyKs p x).map (copyAt c p t x r)) xs → Q (.ref l) H'
theorem ok_with_copies (T : Tx K mg) : OkF P w K mg base (L2.CX P w) 3 (He.fAd K ("with_copies", none)) ["catalogue", "pattern", "name", "row"] copiesS := by
  refine mk_with_copies T (fun vs H Q E ⟨_, _, _, _, _, _, _, _, _, e, _⟩ => by subst e; rfl) (fun cdv A outer s H vs Q E hr ⟨vc, vp, vx, vr, c, p, x, r, t, e, rc, rp, rx, rr, hf, hc, ht, ha, q⟩ => ?_)
  subst e
  refine wss_cons (ws_set 4 sc_with_copies.nd (LE.go (le_lst aa_nil (by decide)) (Same.refl H) fun lf ys H1 s1 hnf hlf rl1 => ?_))
  obtain rfl : ys = [] := rl1
  refine wss_cons (ws_de (d := eAtms p.atoms) 5 sc_with_copies.nd (de_ix (DE.ue (de_var 1 (rp.mono (.of s1)))) de_int rfl) fun va H2 s2 ra => ?_)
  have s12 := s1.trans s2
  refine wss_cons (ws_tup2 (d1 := .int (t.cols : Int)) (d2 := eRows t.rows) 6 7 sc_with_copies.nd (de_slice (de_callX (d := eTab t) (ok_table_at T) hr T.gtable_at (aa_cons (de_var 0 (rc.mono (.of s12))) (aa_cons (de_var 2 (rx.mono (.of s12))) aa_nil)) ⟨c, x, by omega, rfl, by rw [hf]⟩) (oe_some (de_int (i := 1))) oe_none rfl fun _ => rfl) fun H3 vcol vrows s3 rcol rrows => ?_)
  have s13 := s12.trans s3
  refine wss_cons (ws_de (d := eRows (othersOf t r)) 8 sc_with_copies.nd (de_tuple T.b_tuple (LE.lv (le_cU n_with_copies (defScope s_with_copies) 14 t.rows eRow (fun o => !decide (o = r)) eRow rfl sc_with_copies.nd (DE.ue (de_var 7 rrows)) (by omega) fun y u H4 hy s4 ru => ?_))) fun vot H4 s4 rot => ?_)
  · intro s5 H5 C cl fp
    exact ⟨BT.is (bt_cmp (ce_ned (hu64 hr) (de_var 14 ru) (de_var 3 (rr.mono (.of (s13.trans s4)))) (shp_row 0 y).shaped (shp_row 0 r).shaped)) (by rw [eqv_row]), fun _ => de_var 14 ru⟩
  have s14 := s13.trans s4
  have ra4 := ra.mono (.of (s3.trans s4))
  have rcol4 := rcol.mono (.of s4)
  have lenE : ∀ H5 σ2 p1 p2 pos, Kp H4 H5 → σ2[5]? = some (some va) → DE (cxOf (L2.CX P w) P w K mg base n_with_copies "with_copies" (defScope s_with_copies) (He.fAd K ("with_copies", none)) cdv A outer s H E) (.Call (.Name "len" p1) [.Name "atoms" p2] [] pos) σ2 H5 (.int (p.atoms.length : Int)) := fun H5 σ2 p1 p2 pos k h0 => DE.is (de_len T.b_len (DE.qe (de_var 5 (ra4.mono k) h0))) (by rw [List.length_map])
  have atE : ∀ H5 σ2 j e1 p1 pos, Kp H4 H5 → σ2[5]? = some (some va) → j < p.atoms.length → PlainIx e1 → DE (cxOf (L2.CX P w) P w K mg base n_with_copies "with_copies" (defScope s_with_copies) (He.fAd K ("with_copies", none)) cdv A outer s H E) e1 σ2 H5 (.int (j : Int)) → DE (cxOf (L2.CX P w) P w K mg base n_with_copies "with_copies" (defScope s_with_copies) (He.fAd K ("with_copies", none)) cdv A outer s H E) (.Subscript (.Name "atoms" p1) e1 pos) σ2 H5 (eAtm (p.atoms.getD j ⟨"", []⟩)) := fun H5 σ2 j e1 p1 pos k h0 hj pi he => de_ix (DE.ue (de_var 5 (ra4.mono k) h0)) he (atI_n (by rw [List.getElem?_map, getD_at (⟨"", []⟩ : Atm) hj]; rfl)) pi
  have hlf4 := s4 _ _ (s3 _ _ (s2 _ _ hlf))
  refine wss_cons (ws_forR (g := gName 9) (n := p.atoms.length) (passes_of rfl) rfl T.b_range ((lenE H4 _ _ _ _ (.refl _) rfl).go (Same.refl H4) fun v5 H5 s5 e5 => ⟨e5, fun i σ' H' => ∃ (o1 o2 o3 o4 o5 : Option V) (acc : List V), σ' = [some vc, some vp, some vx, some vr, some (.ref lf), some va, some vcol, some vrows, some vot, o1, o2, o3, o4, o5, none] ∧ Same H H' ∧ Kp H4 H' ∧ H' lf = some (.lst acc) ∧ acc.length ≤ i ∧ RepL H' (((List.range i).filter fun k => decide ((p.atoms.getD k ⟨"", []⟩).tab = x)).map (copyAt c p t x r)) acc, ⟨none, none, none, none, none, [], rfl, s14.trans s5, .of s5, s5 _ _ hlf4, Nat.le_refl _, rfl⟩, ?_, ?_⟩) (by omega) (pg_name sc_with_copies.nd rfl (.inl rfl)))
  · rintro k σ' H' hk ⟨o1, o2, o3, o4, o5, acc, eσ, s6, kp, h1, h2, h3⟩
    subst eσ
    refine wss_one (ws_if (BT.go (bt_cmp (ce_eqs (de_ix (DE.ue (atE H' _ k _ _ _ kp rfl hk plainIx (de_var (d := .int (k : Int)) 9 rfl))) de_int (d := .str (p.atoms.getD k ⟨"", []⟩).tab) rfl) (de_var 2 (rx.mono (.of s6))))) (Same.refl H') fun H5 s7 => ?_))
    by_cases hx : (p.atoms.getD k ⟨"", []⟩).tab = x
    · rw [decide_eq_true hx, if_pos rfl]
      have kp7 := kp.trans (.of s7)
      have s67 := s6.trans s7
      refine wss_cons (ws_set 10 sc_with_copies.nd (LE.go (le_lst aa_nil (by decide)) (Same.refl H5) fun lg ys H6 s8 hng hlg rl2 => ?_))
      obtain rfl : ys = [] := rl2
      have hgf : lg ≠ lf := fun e => by rw [e, s7 _ _ h1] at hng; cases hng
      have hlf6 := s8 _ _ (s7 _ _ h1)
      have kp8 := kp7.trans (.of s8)
      refine wss_cons (ws_forR (g := gName 11) (n := p.atoms.length) (passes_of rfl) rfl T.b_range ((lenE H6 _ _ _ _ kp8 rfl).go (Same.refl H6) fun v7 H7 s9 e7 => ⟨e7, fun j σ' H' => ∃ (o3 o4 o5 : Option V) (acc2 : List V), σ' = [some vc, some vp, some vx, some vr, some (.ref lf), some va, some vcol, some vrows, some vot, some (.int (k : Int)), some (.ref lg), o3, o4, o5, none] ∧ Same H5 H' ∧ Kp H4 H' ∧ Kp H5 H' ∧ H' lf = some (.lst acc) ∧ H' lg = some (.lst acc2) ∧ acc2.length = j ∧ RepL H' (((List.range j).map fun j => copyAtm x k j (p.atoms.getD j ⟨"", []⟩)).map eAtm) acc2, ⟨_, _, _, [], rfl, s8.trans s9, kp8.trans (.of s9), .of (s8.trans s9), s9 _ _ hlf6, s9 _ _ hlg, rfl, rfl⟩, ?_, ?_⟩) (by omega) (pg_name sc_with_copies.nd rfl (.inl rfl)))
      · rintro j σ' H' hj ⟨o3, o4, o5, acc2, eσ, s10, kpa, kpb, g1, g2, g3, g4⟩
        subst eσ
        have s610 := s67.trans s10
        refine wss_cons (ws_de (d := .str (p.atoms.getD j ⟨"", []⟩).tab) 12 sc_with_copies.nd (de_ix (DE.ue (atE H' _ j _ _ _ kpa rfl hj plainIx (de_var (d := .int (j : Int)) 11 rfl))) de_int rfl) fun vw H7 s11 rw1 => ?_)
        have r2' := rx.mono (.of (s610.trans s11))
        refine wss_cons (ws_nx (fun σ8 H8 => ∃ vw2, σ8 = [some vc, some vp, some vx, some vr, some (.ref lf), some va, some vcol, some vrows, some vot, some (.int (k : Int)), some (.ref lg), some (.int (j : Int)), some vw2, o5, none] ∧ Same H7 H8 ∧ Rep H8 (.str (copyAtm x k j (p.atoms.getD j ⟨"", []⟩)).tab) vw2) (ws_if (BT.go (bt_and (bt_cmp (ce_eqs (de_var 12 rw1) (de_var 2 r2'))) fun _ => BT.is (bt_cmp (ce_le (de_var (d := .int (j : Int)) 11 rfl) (de_var (d := .int (k : Int)) 9 rfl))) (m := decide (j ≤ k)) (decide_eq_decide.mpr Int.ofNat_le)) (Same.refl H7) fun H8 s12 => ?_)) ?_)
        · by_cases hcond : (p.atoms.getD j ⟨"", []⟩).tab = x ∧ j ≤ k
          · rw [decide_eq_true hcond.1, decide_eq_true hcond.2, if_pos (by decide)]
            refine wss_one (ws_set 12 sc_with_copies.nd (EE.go (ee_ifExp (P := fun v H => Rep H (.str (if j = k then "0" else "1")) v) (k := decide (j = k)) (BT.is (bt_cmp (ce_eq (de_var (d := .int (j : Int)) 11 rfl) (de_var (d := .int (k : Int)) 9 rfl))) (decide_eq_decide.mpr Int.ofNat_inj)) (fun e => by rw [if_pos (of_decide_eq_true e)]; exact de_str) fun e => by rw [if_neg (of_decide_eq_false e)]; exact de_str) (Same.refl H8) fun v9 H9 s13 r9 => ?_))
            refine ⟨v9, rfl, s12.trans s13, ?_⟩
            unfold copyAtm
            rw [if_pos hcond]
            exact r9
          · rw [if_neg (by rw [Bool.and_eq_true, decide_eq_true_eq, decide_eq_true_eq]; exact hcond)]
            refine wss_nil ⟨vw, rfl, s12, ?_⟩
            unfold copyAtm
            rw [if_neg hcond]
            exact rw1.mono (.of s12)
        · rintro σ8 H8 ⟨vw2, eσ, s12, rw2⟩
          subst eσ
          have s712 := s11.trans s12
          refine wss_one (ws_app (ve_var 10) (s712 _ _ g2) (by omega) (DE.is (d2 := eAtm (copyAtm x k j (p.atoms.getD j ⟨"", []⟩))) (de_tup (aa_cons (de_var 12 rw2) (aa_cons (de_ix (DE.ue (atE H8 _ j _ _ _ (kpa.trans (.of s712)) rfl hj plainIx (de_var (d := .int (j : Int)) 11 rfl))) de_int (d := eStrs (p.atoms.getD j ⟨"", []⟩).vars) rfl) aa_nil)) rfl (by show 2 ≤ 100000; decide)) rfl) fun v9 H9 s13 r9 => ?_)
          have s713 := s712.trans s13
          have ku : Kp H9 (upd H9 lg (.lst (acc2 ++ [v9]))) := .upd (s713 _ _ g2) rfl
          refine ⟨_, _, _, acc2 ++ [v9], rfl, (s10.trans s713).mut hng, kpa.trans ((Kp.of s713).trans ku), kpb.trans ((Kp.of s713).trans ku), by rw [upd_ne (Ne.symm hgf)]; exact s713 _ _ g1, upd_same, by rw [List.length_append, g3]; rfl, ?_⟩
          rw [List.range_succ, List.map_append, List.map_append]
          exact (g4.mono ((Kp.of s713).trans ku)).snoc (r9.mono ku)
      · rintro σ' H' ⟨o3, o4, o5, acc2, eσ, s10, kpa, kpb, g1, g2, g3, g4⟩
        subst eσ
        have s610 := s67.trans s10
        have rcol9 := rcol4.mono kpa
        refine wss_cons (ws_de (d := .tuple [eTab ⟨"0", t.cols, [r]⟩, eTab ⟨"1", t.cols, othersOf t r⟩]) 13 sc_with_copies.nd (de_tup (aa_cons (de_tup (aa_cons de_str (aa_cons (de_var 6 rcol9) (aa_cons (de_tup (ds := [eRow r]) (aa_cons (de_var 3 (rr.mono (.of s610))) aa_nil) rfl (by show 1 ≤ 100000; decide)) aa_nil))) rfl (by show 3 ≤ 100000; decide)) (aa_cons (de_tup (aa_cons de_str (aa_cons (de_var 6 rcol9) (aa_cons (de_var 8 (rot.mono kpa)) aa_nil))) rfl (by show 3 ≤ 100000; decide)) aa_nil)) rfl (by show 2 ≤ 100000; decide)) fun vcp H7 s11 rcp => ?_)
        refine wss_one (ws_app (ve_var 4) (s11 _ _ g1) (by omega) (DE.is (d2 := copyAt c p t x r k) (de_tup (aa_cons (DE.is (d2 := eCat (copyCat c t r)) (de_addt (de_var 13 rcp) (de_var 0 (rc.mono (.of (s610.trans s11)))) (szl (by rw [List.length_map]; show 2 + _ ≤ _; omega)) fun _ _ => rfl) rfl) (aa_cons (DE.is (d2 := ePat (copyPat p x k)) (de_tup (aa_cons (de_ix (DE.ue (de_var 1 (rp.mono (.of (s610.trans s11))))) de_int (d := eStrs p.head) rfl) (aa_cons (de_tuple T.b_tuple (ve_lv (ve_var 10) (SqL.of (s11 _ _ g2)) (g4.mono (.of s11)))) aa_nil)) rfl (by show 2 ≤ 100000; decide)) rfl) aa_nil)) rfl (by show 2 ≤ 100000; decide)) rfl) fun v9 H9 s13 r9 => ?_)
        have s713 := s11.trans s13
        have ku : Kp H9 (upd H9 lf (.lst (acc ++ [v9]))) := .upd (s713 _ _ g1) rfl
        refine ⟨_, _, _, _, _, acc ++ [v9], rfl, (s610.trans s713).mut hnf, kpa.trans ((Kp.of s713).trans ku), upd_same, by rw [List.length_append]; show _ + 1 ≤ _; omega, ?_⟩
        rw [ks_snoc, if_pos hx, List.map_append]
        exact ((h3.mono (.of s7)).mono (kpb.trans ((Kp.of s713).trans ku))).snoc (r9.mono ku)
    · rw [decide_eq_false hx, if_neg (by decide)]
      refine wss_nil ⟨_, _, _, _, _, acc, rfl, s6.trans s7, kp.trans (.of s7), s7 _ _ h1, by omega, ?_⟩
      rw [ks_snoc, if_neg hx, List.append_nil]
      exact h3.mono (.of s7)
  · rintro σ' H' ⟨o1, o2, o3, o4, o5, acc, eσ, s6, kp, h1, h2, h3⟩
    subst eσ
    exact wss_one (ws_ret (EE.go (ve_var 4) (Same.refl H') fun v' H5 s5 e5 => by
      subst e5
      exact q lf acc H5 (s6.trans s5) hnf (s5 _ _ h1) (h3.mono (.of s5))))
end
end J
/-! The keeper: what stands in the heap, its small methods. -/
namespace J
open PySem PySem.Spec PyProof.Rows L2
structure KSt where
  cat : Cat
  pats : List (Str × Pat)
  cnt : Str → Row → Nat
  size : Str → Nat
  n : Nat
def look (pats : List (Str × Pat)) (x : Str) : Option Pat := (pats.find? fun q => decide (q.1 = x)).map (·.2)
def kNames (st : KSt) : List Str := st.pats.map (·.1)
theorem look_mem {pats : List (Str × Pat)} {x : Str} {p : Pat} (h : look pats x = some p) : (x, p) ∈ pats := by
  unfold look at h
  obtain ⟨q, hq, e⟩ := Option.map_eq_some_iff.mp h
  have h1 := List.mem_of_find?_eq_some hq
  have h2 := List.find?_some hq
  have h3 : q.1 = x := by simpa using h2
  rw [← h3, ← e]; exact h1
theorem look_none {pats : List (Str × Pat)} {x : Str} (h : look pats x = none) : x ∉ pats.map (·.1) := fun hm => by
  obtain ⟨q, hq, e⟩ := List.mem_map.mp hm
  unfold look at h
  have := List.find?_eq_none.mp (Option.map_eq_none_iff.mp h) q hq
  exact this (decide_eq_true e)
theorem look_some {pats : List (Str × Pat)} {x : Str} (h : x ∈ pats.map (·.1)) : ∃ p, look pats x = some p := by
  cases e : look pats x with
  | some p => exact ⟨p, rfl⟩
  | none => exact absurd h (look_none e)
abbrev keepF (vt : V) (dp dc ds ll : Addr) : List (Str × V) := [("tables", vt), ("patterns", .ref dp), ("counts", .ref dc), ("sizes", .ref ds), ("lines", .ref ll)]
/-- one dict by name -/
def NamedBy (pats : List (Str × Pat)) (kvs : List (Key × V)) : Prop := kvs.map (·.1) = pats.map fun q => Sum.inr q.1
section
variable {P : Program} {w : World} {K : PySem.W.Frag} {mg : Str → Option Value} {base : Heap}
structure KIn (K : PySem.W.Frag) (H : Hp) (ka dx dp dc ds ll : Addr) (cd : Str → Addr) (vt : V) (pk ck sk : List (Key × V)) (ws : List V) (st : KSt) : Prop where
  ins : H ka = some (.ins (He.ga K "Keeper") dx (keepF vt dp dc ds ll))
  tab : Rep H (eCat st.cat) vt
  hp : H dp = some (.dK pk)
  hc : H dc = some (.dK ck)
  hs : H ds = some (.dK sk)
  hl : H ll = some (.lst ws)
  wl : ws.length ≤ st.n
  pc : dp ≠ dc
  ps : dp ≠ ds
  cs : dc ≠ ds
  kp : NamedBy st.pats pk
  kc : NamedBy st.pats ck
  ks : NamedBy st.pats sk
  pat : ∀ x p, look st.pats x = some p → ∃ vp, valV pk (.inr x) = some vp ∧ Rep H (ePat p) vp
  cnt : ∀ x p, look st.pats x = some p → valV ck (.inr x) = some (.ref (cd x)) ∧ ∃ kvs, H (cd x) = some (.dT kvs) ∧ CtD p.head.length kvs (st.cnt x)
  siz : ∀ x p, look st.pats x = some p → valV sk (.inr x) = some (.int (st.size x : Int))
  inj : ∀ x y p q, look st.pats x = some p → look st.pats y = some q → cd x = cd y → x = y
  nd : (st.pats.map (·.1)).Nodup
  few : st.pats.length ≤ 3
def kM (ka dp dc ds ll : Addr) (cd : Str → Addr) (st : KSt) : List Addr := [ka, dp, dc, ds, ll] ++ (st.pats.map fun q => cd q.1)
def KAt (K : PySem.W.Frag) (H : Hp) (ka : Addr) (M : List Addr) (st : KSt) : Prop := ∃ dx dp dc ds ll cd vt pk ck sk ws, KIn K H ka dx dp dc ds ll cd vt pk ck sk ws st ∧ M = kM ka dp dc ds ll cd st
theorem KIn.loose {H : Hp} {ka dx dp dc ds ll : Addr} {cd : Str → Addr} {vt : V} {pk ck sk : List (Key × V)} {ws : List V} {st : KSt} (h : KIn K H ka dx dp dc ds ll cd vt pk ck sk ws st) : ∀ m ∈ kM ka dp dc ds ll cd st, ∃ u, H m = some u ∧ loose u = true := fun m hm => by
  rcases List.mem_append.mp hm with hm | hm
  · simp only [List.mem_cons, List.not_mem_nil, or_false] at hm
    rcases hm with e | e | e | e | e <;> subst e
    · exact ⟨_, h.ins, rfl⟩
    · exact ⟨_, h.hp, rfl⟩
    · exact ⟨_, h.hc, rfl⟩
    · exact ⟨_, h.hs, rfl⟩
    · exact ⟨_, h.hl, rfl⟩
  · obtain ⟨q, hq, e⟩ := List.mem_map.mp hm
    obtain ⟨p, hp⟩ := look_some (List.mem_map.mpr ⟨q, hq, rfl⟩)
    obtain ⟨_, kvs, h1, _⟩ := h.cnt _ _ hp
    rw [← e]
    exact ⟨_, h1, rfl⟩
theorem KAt.loose {H : Hp} {ka : Addr} {M : List Addr} {st : KSt} (h : KAt K H ka M st) : ∀ m ∈ M, ∃ u, H m = some u ∧ loose u = true := by
  obtain ⟨dx, dp, dc, ds, ll, cd, vt, pk, ck, sk, ws, h1, e⟩ := h
  subst e
  exact h1.loose
theorem KIn.mono {H H' : Hp} {ka dx dp dc ds ll : Addr} {cd : Str → Addr} {vt : V} {pk ck sk : List (Key × V)} {ws : List V} {st : KSt} (h : KIn K H ka dx dp dc ds ll cd vt pk ck sk ws st) (s : Same H H') : KIn K H' ka dx dp dc ds ll cd vt pk ck sk ws st :=
  { ins := s _ _ h.ins, tab := h.tab.mono (.of s), hp := s _ _ h.hp, hc := s _ _ h.hc, hs := s _ _ h.hs, hl := s _ _ h.hl, wl := h.wl, pc := h.pc, ps := h.ps, cs := h.cs, kp := h.kp, kc := h.kc, ks := h.ks
    pat := fun x p e => let ⟨vp, h1, h2⟩ := h.pat x p e; ⟨vp, h1, h2.mono (.of s)⟩
    cnt := fun x p e => let ⟨h1, kvs, h2, h3⟩ := h.cnt x p e; ⟨h1, kvs, s _ _ h2, h3⟩
    siz := h.siz, inj := h.inj, nd := h.nd, few := h.few }
theorem KAt.mono {H H' : Hp} {ka : Addr} {M : List Addr} {st : KSt} (h : KAt K H ka M st) (s : Same H H') : KAt K H' ka M st :=
  let ⟨dx, dp, dc, ds, ll, cd, vt, pk, ck, sk, ws, h1, e⟩ := h
  ⟨dx, dp, dc, ds, ll, cd, vt, pk, ck, sk, ws, h1.mono s, e⟩
theorem KAt.ins {H : Hp} {ka : Addr} {M : List Addr} {st : KSt} (h : KAt K H ka M st) : ∃ dx vt dp dc ds ll, H ka = some (.ins (He.ga K "Keeper") dx (keepF vt dp dc ds ll)) :=
  let ⟨dx, dp, dc, ds, ll, cd, vt, pk, ck, sk, ws, h1, e⟩ := h
  ⟨dx, vt, dp, dc, ds, ll, h1.ins⟩
theorem named_len {pats : List (Str × Pat)} {kvs : List (Key × V)} (h : NamedBy pats kvs) : kvs.length = pats.length := by
  have := congrArg List.length h
  rwa [List.length_map, List.length_map] at this
theorem named_none {pats : List (Str × Pat)} {kvs : List (Key × V)} {x : Str} (h : NamedBy pats kvs) (hx : look pats x = none) : valV kvs (.inr x) = none := by
  cases e : valV kvs (.inr x) with
  | none => rfl
  | some v =>
    have z := valV_in e
    rw [h] at z
    obtain ⟨q, hq, e2⟩ := List.mem_map.mp z
    exact absurd (List.mem_map.mpr ⟨q, hq, Sum.inr.inj e2⟩) (look_none hx)
/-- the lines grow -/
theorem KIn.line {H : Hp} {ka dx dp dc ds ll : Addr} {cd : Str → Addr} {vt : V} {pk ck sk : List (Key × V)} {ws : List V} {st : KSt} (h : KIn K H ka dx dp dc ds ll cd vt pk ck sk ws st) (v : V) : KIn K (upd H ll (.lst (ws ++ [v]))) ka dx dp dc ds ll cd vt pk ck sk (ws ++ [v]) { st with n := st.n + 1 } := by
  have hn : ∀ a o, H a = some o → (∀ xs, o ≠ .lst xs) → upd H ll (.lst (ws ++ [v])) a = some o := fun a o e z => by
    rw [upd_ne fun e2 => by rw [e2, h.hl] at e; cases e; exact z _ rfl]
    exact e
  have k : Kp H (upd H ll (.lst (ws ++ [v]))) := .upd h.hl rfl
  have hwl := h.wl
  exact { ins := hn _ _ h.ins nofun, tab := h.tab.mono k, hp := hn _ _ h.hp nofun, hc := hn _ _ h.hc nofun, hs := hn _ _ h.hs nofun, hl := upd_same, wl := by rw [List.length_append]; show _ + 1 ≤ st.n + 1; omega, pc := h.pc, ps := h.ps, cs := h.cs, kp := h.kp, kc := h.kc, ks := h.ks
          pat := fun x p e => let ⟨vp, h1, h2⟩ := h.pat x p e; ⟨vp, h1, h2.mono k⟩
          cnt := fun x p e => let ⟨h1, kvs, h2, h3⟩ := h.cnt x p e; ⟨h1, kvs, hn _ _ h2 nofun, h3⟩
          siz := h.siz, inj := h.inj, nd := h.nd, few := h.few }
/-- note: words told of by length -/
def noteS (K : PySem.W.Frag) : Sp := fun vs H Q _ => ∃ (ka lw : Addr) (M : List Addr) (st : KSt) (ys : List Str), vs = [.ref ka, .ref lw] ∧ KAt K H ka M st ∧ SqL K H lw (ys.map V.str) ∧ ys.length ≤ 10 ∧ (∀ y ∈ ys, y.length ≤ 2000) ∧ st.n ≤ 1000 ∧ ∀ v H', v = .non → SameB M H H' → KAt K H' ka M { st with n := st.n + 1 } → Q v H'
theorem ok_Keeper_note (T : Tx K mg) : OkF P w K mg base (L2.CX P w) 1 (He.fAd K ("Keeper", some "note")) ["self", "words"] (noteS K) := by
  refine mk_Keeper_note T (fun vs H Q E ⟨_, _, _, _, _, e, _⟩ => by subst e; rfl) (fun cdv A outer s H vs Q E hr ⟨ka, lw, M, st, ys, e, ⟨dx, dp, dc, ds, ll, cd, vt, pk, ck, sk, ws, kin, eM⟩, tl, hy1, hy2, hn, q⟩ => ?_)
  subst e
  have hwl := kin.wl
  refine wss_one (ws_app (ve_fld (ve_var 0) kin.ins T.clKeeper T.no_Keeper_lines rfl) kin.hl (by omega) (se_add (n := 20010) (m := 1) (se_join (x := " ") (k := 10) (n := 2000) de_str ((ve_var 1).imp fun v H2 s2 e => ⟨lw, ys, e, .inl (s2.seq tl), hy1, hy2⟩) rfl (by decide) (by decide)) (se_de (x := "\n") de_str (by decide)) (by decide)) fun v H1 s1 _ => ?_)
  refine q _ _ rfl ((SameB.of s1).trans (.upd ?_)) ⟨dx, dp, dc, ds, ll, cd, vt, pk, ck, sk, _, (kin.mono s1).line v, ?_⟩
  · rw [eM]; unfold kM; simp
  · rw [eM]; rfl
def knownS (K : PySem.W.Frag) : Sp := fun vs H Q E => ∃ (ka : Addr) (vx : V) (M : List Addr) (st : KSt) (x : Str), vs = [.ref ka, vx] ∧ KAt K H ka M st ∧ Rep H (.str x) vx ∧ match look st.pats x with
  | some _ => ∀ v H', Same H H' → v = .non → Q v H'
  | none => ∀ H', Same H H' → E (.ref (He.ga K "StandingError")) none H'
theorem ok_Keeper_known (T : Tx K mg) : OkF P w K mg base (L2.CX P w) 1 (He.fAd K ("Keeper", some "known")) ["self", "name"] (knownS K) := by
  refine mk_Keeper_known T (fun vs H Q E ⟨_, _, _, _, _, e, _⟩ => by subst e; rfl) (fun cdv A outer s H vs Q E hr ⟨ka, vx, M, st, x, e, ⟨dx, dp, dc, ds, ll, cd, vt, pk, ck, sk, ws, kin, eM⟩, rx, q⟩ => ?_)
  subst e
  have hu := hu_of hr
  refine wss_one (ws_if (BT.go (bt_cmp (ce_dninK hu (ve_str (de_var 1 rx)) (ve_fld (ve_var 0) kin.ins T.clKeeper T.no_Keeper_patterns rfl) (.inl kin.hp))) (Same.refl H) fun H1 s1 => ?_))
  cases hx : look st.pats x with
  | some p =>
    rw [hx] at q
    obtain ⟨vp, h1, _⟩ := kin.pat x p hx
    rw [h1, if_neg (by simp)]
    exact wss_nil (q _ _ s1 rfl)
  | none =>
    rw [hx] at q
    rw [named_none kin.kp hx, if_pos (by decide)]
    exact wss_one (ws_raise T.ex_StandingError T.gStandingError (q H1 s1))
end
end J
/-! The keeper made; answers, ways. -/
namespace J
open PySem PySem.Spec PyProof.Rows L2
section
variable {P : Program} {w : World} {K : PySem.W.Frag} {mg : Str → Option Value} {base : Heap}
def kst0 (c : Cat) : KSt := ⟨c, [], fun _ _ => 0, fun _ => 0, 1⟩
def keepInitS (K : PySem.W.Frag) : Sp := fun vs H Q _ => ∃ (ka dx : Addr) (vc : V) (H0 : Hp) (c : Cat) (m : Nat), vs = [.ref ka, vc] ∧ H ka = some (.ins (He.ga K "Keeper") dx []) ∧ Same H0 H ∧ H0 ka = none ∧ Rep H0 (eCat c) vc ∧ GCat m c ∧ m ≤ 60 ∧ ∀ H' M, Same H0 H' → KAt K H' ka M (kst0 c) → (∀ m ∈ M, H0 m = none) → Q .non H'
theorem ok_Keeper_init (T : Tx K mg) : OkF P w K mg base (L2.CX P w) 5 (He.fAd K ("Keeper", some "__init__")) ["self", "catalogue"] (keepInitS K) := by
  refine mk_Keeper_init T (fun vs H Q E ⟨_, _, _, _, _, _, e, _⟩ => by subst e; rfl) (fun cdv A outer s H vs Q E hr ⟨a, dx, vc, H0, c, m, e, ha, hS, h0a, rc, hg, hm, q⟩ => ?_)
  subst e
  refine wss_cons (ws_expr ((de_call (ok_check_catalogue T |>.mono (by decide)) hr T.gcheck_catalogue passL (aa_cons (de_var 1 (rc.mono (.of hS))) aa_nil) ⟨m, c, hg, by omega, rfl, rfl⟩).go (Same.refl H) fun _ H1 s1 _ => ?_))
  have hS1 := hS.trans s1
  refine wss_cons (ws_fldD (eCat c) (de_var 1 (rc.mono (.of hS1))) (ve_var 0) (s1 _ _ ha) T.clKeeper T.no_Keeper_tables (fun v2 H2 s2 r2 => ?_) (by show 0 < 1000; decide))
  have hS2 : Same H0 (upd H2 a (.ins (He.ga K "Keeper") dx (putF "tables" v2 []))) := (hS1.trans s2).mut h0a
  have a2 : (upd H2 a (.ins (He.ga K "Keeper") dx (putF "tables" v2 []))) a = some (.ins (He.ga K "Keeper") dx [("tables", v2)]) := by rw [upd_same]; rfl
  have rt : Rep (upd H2 a (.ins (He.ga K "Keeper") dx (putF "tables" v2 []))) (eCat c) v2 := r2.mono (.upd (s2 _ _ (s1 _ _ ha)) rfl)
  generalize upd H2 a (.ins (He.ga K "Keeper") dx (putF "tables" v2 [])) = H3 at *
  refine wss_cons (ws_fldW (a := a) (C := He.ga K "Keeper") (dx := dx) (fs := [("tables", v2)]) (we_newK fun dp hdp => ⟨ve_var 0, (Same.new hdp) _ _ a2, T.clKeeper, T.no_Keeper_patterns, by show 1 < 1000; decide, fun H4 s4 => ?_⟩))
  have pa : dp ≠ a := fun e => by rw [e, a2] at hdp; cases hdp
  have p0 : H0 dp = none := hS2.free hdp
  have k4 : Kp H3 (upd H4 a (.ins (He.ga K "Keeper") dx (putF "patterns" (.ref dp) [("tables", v2)]))) := (Kp.new hdp).trans ((Kp.of s4).trans (.upd (s4 _ _ ((Same.new hdp) _ _ a2)) rfl))
  have hS4 : Same H0 (upd H4 a (.ins (He.ga K "Keeper") dx (putF "patterns" (.ref dp) [("tables", v2)]))) := (hS2.trans ((Same.new hdp).trans s4)).mut h0a
  have p4 : (upd H4 a (.ins (He.ga K "Keeper") dx (putF "patterns" (.ref dp) [("tables", v2)]))) dp = some (.dK []) := by rw [upd_ne pa]; exact s4 _ _ upd_same
  have a4 : (upd H4 a (.ins (He.ga K "Keeper") dx (putF "patterns" (.ref dp) [("tables", v2)]))) a = some (.ins (He.ga K "Keeper") dx [("tables", v2), ("patterns", .ref dp)]) := by rw [upd_same]; rfl
  have rt4 := rt.mono k4
  generalize upd H4 a (.ins (He.ga K "Keeper") dx (putF "patterns" (.ref dp) [("tables", v2)])) = H5 at *
  refine wss_cons (ws_fldW (a := a) (C := He.ga K "Keeper") (dx := dx) (fs := [("tables", v2), ("patterns", .ref dp)]) (we_newK fun dc hdc => ⟨ve_var 0, (Same.new hdc) _ _ a4, T.clKeeper, T.no_Keeper_counts, by show 2 < 1000; decide, fun H6 s6 => ?_⟩))
  have ca : dc ≠ a := fun e => by rw [e, a4] at hdc; cases hdc
  have cp : dp ≠ dc := fun e => by rw [← e, p4] at hdc; cases hdc
  have c0 : H0 dc = none := hS4.free hdc
  have k6 : Kp H5 (upd H6 a (.ins (He.ga K "Keeper") dx (putF "counts" (.ref dc) [("tables", v2), ("patterns", .ref dp)]))) := (Kp.new hdc).trans ((Kp.of s6).trans (.upd (s6 _ _ ((Same.new hdc) _ _ a4)) rfl))
  have hS6 : Same H0 (upd H6 a (.ins (He.ga K "Keeper") dx (putF "counts" (.ref dc) [("tables", v2), ("patterns", .ref dp)]))) := (hS4.trans ((Same.new hdc).trans s6)).mut h0a
  have p6 : (upd H6 a (.ins (He.ga K "Keeper") dx (putF "counts" (.ref dc) [("tables", v2), ("patterns", .ref dp)]))) dp = some (.dK []) := by rw [upd_ne pa]; exact s6 _ _ ((Same.new hdc) _ _ p4)
  have c6 : (upd H6 a (.ins (He.ga K "Keeper") dx (putF "counts" (.ref dc) [("tables", v2), ("patterns", .ref dp)]))) dc = some (.dK []) := by rw [upd_ne ca]; exact s6 _ _ upd_same
  have a6 : (upd H6 a (.ins (He.ga K "Keeper") dx (putF "counts" (.ref dc) [("tables", v2), ("patterns", .ref dp)]))) a = some (.ins (He.ga K "Keeper") dx [("tables", v2), ("patterns", .ref dp), ("counts", .ref dc)]) := by rw [upd_same]; rfl
  have rt6 := rt4.mono k6
  generalize upd H6 a (.ins (He.ga K "Keeper") dx (putF "counts" (.ref dc) [("tables", v2), ("patterns", .ref dp)])) = H7 at *
  refine wss_cons (ws_fldW (a := a) (C := He.ga K "Keeper") (dx := dx) (fs := [("tables", v2), ("patterns", .ref dp), ("counts", .ref dc)]) (we_newK fun ds hds => ⟨ve_var 0, (Same.new hds) _ _ a6, T.clKeeper, T.no_Keeper_sizes, by show 3 < 1000; decide, fun H8 s8 => ?_⟩))
  have sa : ds ≠ a := fun e => by rw [e, a6] at hds; cases hds
  have sp : dp ≠ ds := fun e => by rw [← e, p6] at hds; cases hds
  have sc : dc ≠ ds := fun e => by rw [← e, c6] at hds; cases hds
  have d0 : H0 ds = none := hS6.free hds
  have k8 : Kp H7 (upd H8 a (.ins (He.ga K "Keeper") dx (putF "sizes" (.ref ds) [("tables", v2), ("patterns", .ref dp), ("counts", .ref dc)]))) := (Kp.new hds).trans ((Kp.of s8).trans (.upd (s8 _ _ ((Same.new hds) _ _ a6)) rfl))
  have hS8 : Same H0 (upd H8 a (.ins (He.ga K "Keeper") dx (putF "sizes" (.ref ds) [("tables", v2), ("patterns", .ref dp), ("counts", .ref dc)]))) := (hS6.trans ((Same.new hds).trans s8)).mut h0a
  have p8 : (upd H8 a (.ins (He.ga K "Keeper") dx (putF "sizes" (.ref ds) [("tables", v2), ("patterns", .ref dp), ("counts", .ref dc)]))) dp = some (.dK []) := by rw [upd_ne pa]; exact s8 _ _ ((Same.new hds) _ _ p6)
  have c8 : (upd H8 a (.ins (He.ga K "Keeper") dx (putF "sizes" (.ref ds) [("tables", v2), ("patterns", .ref dp), ("counts", .ref dc)]))) dc = some (.dK []) := by rw [upd_ne ca]; exact s8 _ _ ((Same.new hds) _ _ c6)
  have z8 : (upd H8 a (.ins (He.ga K "Keeper") dx (putF "sizes" (.ref ds) [("tables", v2), ("patterns", .ref dp), ("counts", .ref dc)]))) ds = some (.dK []) := by rw [upd_ne sa]; exact s8 _ _ upd_same
  have a8 : (upd H8 a (.ins (He.ga K "Keeper") dx (putF "sizes" (.ref ds) [("tables", v2), ("patterns", .ref dp), ("counts", .ref dc)]))) a = some (.ins (He.ga K "Keeper") dx [("tables", v2), ("patterns", .ref dp), ("counts", .ref dc), ("sizes", .ref ds)]) := by rw [upd_same]; rfl
  have rt8 := rt6.mono k8
  generalize upd H8 a (.ins (He.ga K "Keeper") dx (putF "sizes" (.ref ds) [("tables", v2), ("patterns", .ref dp), ("counts", .ref dc)])) = H9 at *
  refine wss_one (ws_fldW (a := a) (C := He.ga K "Keeper") (dx := dx) (fs := [("tables", v2), ("patterns", .ref dp), ("counts", .ref dc), ("sizes", .ref ds)]) (we_of (pe_lst pa_we) ((aa_one (se_add (n := 50000) (m := 10) (se_call (ok_write_catalogue T) hr T.gwrite_catalogue (aa_cons (de_var 1 (rc.mono (.of hS8))) aa_nil) ⟨m, c, hg, hm, rfl⟩) (se_de (x := "begin\n") de_str (by decide)) (by decide))).go (Same.refl H9) fun vs H10 s10 ⟨v10, e10, _⟩ => ?_)))
  subst e10
  refine ⟨by show 1 ≤ sizeLine; exact szl (by decide), fun ll hll => ⟨ve_var 0, (Same.new hll) _ _ (s10 _ _ a8), T.clKeeper, T.no_Keeper_lines, by show 4 < 1000; decide, fun H11 s11 => ?_⟩⟩
  have la : ll ≠ a := fun e => by rw [e, s10 _ _ a8] at hll; cases hll
  have l0 : H0 ll = none := (hS8.trans s10).free hll
  have sn := (Same.new (o := HO.lst [v10]) hll).trans s11
  have hup : ∀ b o, b ≠ a → H10 b = some o → (upd H11 a (.ins (He.ga K "Keeper") dx (putF "lines" (.ref ll) [("tables", v2), ("patterns", .ref dp), ("counts", .ref dc), ("sizes", .ref ds)]))) b = some o := fun b o h1 h2 => by rw [upd_ne h1]; exact sn _ _ h2
  refine q _ (kM a dp dc ds ll (fun _ => 0) (kst0 c)) (((hS8.trans s10).trans sn).mut h0a) ⟨dx, dp, dc, ds, ll, fun _ => 0, v2, [], [], [], [v10], ?_, rfl⟩ ?_
  · exact { ins := by rw [upd_same]; rfl, tab := (rt8.mono (.of s10)).mono ((Kp.of sn).trans (.upd (sn _ _ (s10 _ _ a8)) rfl)), hp := hup _ _ pa (s10 _ _ p8), hc := hup _ _ ca (s10 _ _ c8), hs := hup _ _ sa (s10 _ _ z8), hl := by rw [upd_ne la]; exact s11 _ _ upd_same, wl := Nat.le_refl _, pc := cp, ps := sp, cs := sc
            kp := rfl, kc := rfl, ks := rfl, pat := nofun, cnt := nofun, siz := nofun, inj := nofun, nd := List.nodup_nil, few := Nat.zero_le _ }
  · intro m hm
    unfold kM kst0 at hm
    simp only [List.map_nil, List.append_nil, List.mem_cons, List.not_mem_nil, or_false] at hm
    rcases hm with e | e | e | e | e <;> subst e <;> assumption
theorem grow_pow {n : Nat} {rs : List Row} (h : ∀ r ∈ rs, GRow n r) (hn : rs.Nodup) : rs.length ≤ 3 ^ n := by
  have := List.Nodup.length_le_of_subset (l₂ := tups n) hn fun r hr => mem_tups.mpr (h r hr)
  rwa [tups_len] at this
theorem grow_two {n : Nat} {rs : List Row} (h : ∀ r ∈ rs, GRow n r) (hn : rs.Nodup) (h2 : 2 ≤ rs.length) : 1 ≤ n := by
  have := grow_pow h hn
  match n, this with
  | 0, z => exact absurd z (by show ¬ rs.length ≤ 1; omega)
  | n + 1, _ => omega
theorem valV_named {pats : List (Str × Pat)} {kvs : List (Key × V)} {x : Str} (h : NamedBy pats kvs) : (valV kvs (.inr x)).isSome = (look pats x).isSome := by
  cases e : look pats x with
  | none => rw [named_none h e]; rfl
  | some p =>
    cases e2 : valV kvs (.inr x) with
    | some v => rfl
    | none =>
      have z := valV_not e2
      rw [h] at z
      exact absurd (List.mem_map.mpr ⟨(x, p), look_mem e, rfl⟩) z
def answersS (K : PySem.W.Frag) : Sp := fun vs H Q E => ∃ (ka : Addr) (vx : V) (M : List Addr) (st : KSt) (x : Str), vs = [.ref ka, vx] ∧ KAt K H ka M st ∧ (∀ x p, look st.pats x = some p → p.head.length ≤ 3) ∧ Rep H (.str x) vx ∧ match look st.pats x with
  | some _ => ∀ v H' rs, Same H H' → SAsc rs → (∀ r, r ∈ rs ↔ st.cnt x r ≠ 0) → Rep H' (eRows rs) v → Q v H'
  | none => ∀ H', Same H H' → E (.ref (He.ga K "StandingError")) none H'
theorem ok_Keeper_answers (T : Tx K mg) : OkF P w K mg base (L2.CX P w) 2 (He.fAd K ("Keeper", some "answers")) ["self", "name"] (answersS K) := by
  refine mk_Keeper_answers T (fun vs H Q E ⟨_, _, _, _, _, e, _⟩ => by subst e; rfl) (fun cdv A outer s H vs Q E hr ⟨ka, vx, M, st, x, e, hK, h3, rx, q⟩ => ?_)
  subst e
  obtain ⟨dx, dp, dc, ds, ll, cd, vt, pk, ck, sk, ws, kin, eM⟩ := id hK
  have hu := hu_of hr
  refine wss_cons (ws_expr (we_meth (ok_Keeper_known T) hr (ve_var 0) kin.ins T.clKeeper T.me_Keeper_known rfl passE (aa_one (de_var 1 rx)) fun vs H1 s1 ⟨v1, e1, r1⟩ => ?_))
  subst e1
  refine ⟨ka, v1, M, st, x, rfl, hK.mono s1, r1, ?_⟩
  cases hx : look st.pats x with
  | none => rw [hx] at q; exact fun H2 s2 => q H2 (s1.trans s2)
  | some p =>
    rw [hx] at q
    intro v H2 s2 e2
    have s12 := s1.trans s2
    obtain ⟨hck, kvs, hcd, ct⟩ := (kin.mono s12).cnt x p hx
    obtain ⟨rs, k1, k2, k3, k4⟩ := ct.keys
    refine wss_one (rt_de s12 (de_tuple T.b_tuple (LE.lv (le_srtD (rs := rs) (d := p.head.length) (B := 3) rfl T.b_sorted (ve_dgetK hu (ve_fld (ve_var 0) (s12 _ _ kin.ins) T.clKeeper T.no_Keeper_counts rfl) (.inl (s12 _ _ kin.hc)) (ve_str (de_var 1 (rx.mono (.of s12)))) hck) hcd k1 (by have := grow_len k3 k2 (h3 x p hx); omega) (fun h2 => grow_two k3 k2 h2) fun r hr2 => ⟨(k3 r hr2).len, bd3 (k3 r hr2)⟩))) fun v' H' s' r' => q v' H' (srt rs) s' (srt_sasc k2) (fun r => by rw [mem_srt, k4]) r')
def waysS (K : PySem.W.Frag) : Sp := fun vs H Q E => ∃ (ka : Addr) (vx va : V) (M : List Addr) (st : KSt) (x : Str) (a : Row), vs = [.ref ka, vx, va] ∧ KAt K H ka M st ∧ Rep H (.str x) vx ∧ Rep H (eRow a) va ∧ match look st.pats x with
  | some _ => ∀ v H', Same H H' → v = .int (st.cnt x a : Int) → Q v H'
  | none => ∀ H', Same H H' → E (.ref (He.ga K "StandingError")) none H'
theorem ok_Keeper_ways (T : Tx K mg) : OkF P w K mg base (L2.CX P w) 2 (He.fAd K ("Keeper", some "ways")) ["self", "name", "answer"] (waysS K) := by
  refine mk_Keeper_ways T (fun vs H Q E ⟨_, _, _, _, _, _, _, e, _⟩ => by subst e; rfl) (fun cdv A outer s H vs Q E hr ⟨ka, vx, va, M, st, x, a, e, hK, rx, ra, q⟩ => ?_)
  subst e
  obtain ⟨dx, dp, dc, ds, ll, cd, vt, pk, ck, sk, ws, kin, eM⟩ := id hK
  have hu := hu_of hr
  refine wss_cons (ws_expr (we_meth (ok_Keeper_known T) hr (ve_var 0) kin.ins T.clKeeper T.me_Keeper_known rfl passE (aa_one (de_var 1 rx)) fun vs H1 s1 ⟨v1, e1, r1⟩ => ?_))
  subst e1
  refine ⟨ka, v1, M, st, x, rfl, hK.mono s1, r1, ?_⟩
  cases hx : look st.pats x with
  | none => rw [hx] at q; exact fun H2 s2 => q H2 (s1.trans s2)
  | some p =>
    rw [hx] at q
    intro v H2 s2 e2
    have s12 := s1.trans s2
    obtain ⟨hck, kvs, hcd, ct⟩ := (kin.mono s12).cnt x p hx
    exact wss_one (rt_ee s12 (ve_dget2T hu (ve_dgetK hu (ve_fld (ve_var 0) (s12 _ _ kin.ins) T.clKeeper T.no_Keeper_counts rfl) (.inl (s12 _ _ kin.hc)) (ve_str (de_var 1 (rx.mono (.of s12)))) hck) (.inl hcd) (de_var 2 (ra.mono (.of s12))) (ve_n de_int) ⟨rfl, rfl, rfl, rfl⟩) fun v' H' s' e' => q v' H' s' (by rw [e']; exact ct.get a))
end
end J
/-! stand, fall. -/
namespace J
open PySem PySem.Spec PyProof.Rows L2
section
variable {κ : Type} [DecidableEq κ]
theorem valV_drop (k j : κ) : ∀ kvs : List (κ × V), valV (dropK kvs k) j = if j = k then none else valV kvs j
  | [] => by rw [show dropK ([] : List (κ × V)) k = [] from rfl, valV_nil]; split <;> rfl
  | p :: r => by
    by_cases h : p.1 = k
    · rw [dropK_pos h, valV_drop k j r]
      by_cases e : j = k
      · rw [if_pos e, if_pos e]
      · rw [if_neg e, if_neg e, valV_neg fun e2 => e (by rw [← e2, h])]
    · rw [dropK_neg h]
      by_cases e2 : p.1 = j
      · rw [valV_pos e2, valV_pos e2, if_neg fun e => h (by rw [e2, e])]
      · rw [valV_neg e2, valV_neg e2, valV_drop k j r]
theorem drop_keys (kvs : List (κ × V)) (k : κ) : (dropK kvs k).map (·.1) = (kvs.map (·.1)).filter fun a => decide (a ≠ k) := by
  unfold dropK
  rw [List.filter_map]
  rfl
end
theorem look_snoc {pats : List (Str × Pat)} {x y : Str} {p : Pat} (h : look pats x = none) : look (pats ++ [(x, p)]) y = if y = x then some p else look pats y := by
  unfold look at *
  rw [List.find?_append]
  by_cases e : y = x
  · subst e
    rw [if_pos rfl, Option.map_eq_none_iff.mp h, List.find?_cons, decide_eq_true rfl]
    rfl
  · rw [if_neg e, List.find?_cons, decide_eq_false fun e2 => e e2.symm]
    simp
theorem look_del {pats : List (Str × Pat)} {x y : Str} : look (pats.filter fun q => decide (q.1 ≠ x)) y = if y = x then none else look pats y := by
  unfold look
  rw [List.find?_filter]
  by_cases e : y = x
  · subst e
    rw [if_pos rfl, Option.map_eq_none_iff, List.find?_eq_none]
    intro q _
    simp
  · rw [if_neg e]
    congr 2
    funext q
    by_cases e2 : q.1 = y
    · simp [e2, e]
    · simp [e2]
def stStand (st : KSt) (x : Str) (p : Pat) (g : Row → Nat) (s : Nat) : KSt := ⟨st.cat, st.pats ++ [(x, p)], fun y => if y = x then g else st.cnt y, fun y => if y = x then s else st.size y, st.n⟩
def stFall (st : KSt) (x : Str) : KSt := ⟨st.cat, st.pats.filter fun q => decide (q.1 ≠ x), st.cnt, st.size, st.n⟩
section
variable {P : Program} {w : World} {K : PySem.W.Frag} {mg : Str → Option Value} {base : Heap}
theorem named_put {pats : List (Str × Pat)} {kvs : List (Key × V)} {x : Str} {p : Pat} {v : V} (h : NamedBy pats kvs) (hx : look pats x = none) : NamedBy (pats ++ [(x, p)]) (putK kvs (.inr x) v) := by
  unfold NamedBy
  rw [putK_new _ (named_none h hx), List.map_append, h, List.map_append]
  rfl
theorem named_drop {pats : List (Str × Pat)} {kvs : List (Key × V)} {x : Str} (h : NamedBy pats kvs) : NamedBy (pats.filter fun q => decide (q.1 ≠ x)) (dropK kvs (.inr x)) := by
  unfold NamedBy
  rw [drop_keys, h, List.filter_map]
  congr 2
  funext q
  show decide ((Sum.inr q.1 : Key) ≠ .inr x) = decide (q.1 ≠ x)
  exact decide_eq_decide.mpr ⟨fun h e => h (by rw [e]), fun h e => h (Sum.inr.inj e)⟩
theorem KIn.stand {H Hf : Hp} {ka dx dp dc ds ll d : Addr} {cd : Str → Addr} {vt vp : V} {pk ck sk : List (Key × V)} {kvs : List (List Key × V)} {ws : List V} {st : KSt} {x : Str} {p : Pat} {g : Row → Nat} {sz : Nat} (h : KIn K H ka dx dp dc ds ll cd vt pk ck sk ws st) (hfr : SameB [dp, dc, ds] H Hf) (hx : look st.pats x = none) (hn : H d = none)
    (h1 : Hf dp = some (.dK (putK pk (.inr x) vp))) (h2 : Hf dc = some (.dK (putK ck (.inr x) (.ref d)))) (h3 : Hf ds = some (.dK (putK sk (.inr x) (.int (sz : Int))))) (h4 : Hf d = some (.dT kvs)) (h5 : CtD p.head.length kvs g) (h6 : Rep Hf (ePat p) vp) (h7 : st.pats.length ≤ 2) :
    KIn K Hf ka dx dp dc ds ll (fun y => if y = x then d else cd y) vt (putK pk (.inr x) vp) (putK ck (.inr x) (.ref d)) (putK sk (.inr x) (.int (sz : Int))) ws (stStand st x p g sz) := by
  have k : Kp H Hf := hfr.kp fun m hm => by
    simp only [List.mem_cons, List.not_mem_nil, or_false] at hm
    rcases hm with e | e | e <;> subst e
    · exact ⟨_, h.hp, rfl⟩
    · exact ⟨_, h.hc, rfl⟩
    · exact ⟨_, h.hs, rfl⟩
  have off : ∀ a o, H a = some o → (∀ kvs, o ≠ .dK kvs) → Hf a = some o := fun a o e z => hfr a o e fun hm => by
    simp only [List.mem_cons, List.not_mem_nil, or_false] at hm
    rcases hm with e2 | e2 | e2 <;> rw [e2] at e
    · rw [h.hp] at e; cases e; exact z _ rfl
    · rw [h.hc] at e; cases e; exact z _ rfl
    · rw [h.hs] at e; cases e; exact z _ rfl
  have cdn : ∀ y q, look st.pats y = some q → cd y ≠ d := fun y q e e2 => by
    obtain ⟨_, kv, z, _⟩ := h.cnt y q e
    rw [e2, hn] at z; cases z
  have lk : ∀ y q, look (stStand st x p g sz).pats y = some q → (y = x ∧ q = p) ∨ (y ≠ x ∧ look st.pats y = some q) := fun y q e => by
    have e : look (st.pats ++ [(x, p)]) y = some q := e
    rw [look_snoc hx] at e
    by_cases e2 : y = x
    · rw [if_pos e2] at e; cases e; exact .inl ⟨e2, rfl⟩
    · rw [if_neg e2] at e; exact .inr ⟨e2, e⟩
  have nk : ∀ {y : Str}, y ≠ x → ¬ (Sum.inr y : Key) = .inr x := fun e e2 => e (Sum.inr.inj e2)
  exact
    { ins := off _ _ h.ins nofun, tab := h.tab.mono k, hp := h1, hc := h2, hs := h3, hl := off _ _ h.hl nofun, wl := h.wl, pc := h.pc, ps := h.ps, cs := h.cs, kp := named_put h.kp hx, kc := named_put h.kc hx, ks := named_put h.ks hx
      pat := fun y q e => by
        rcases lk y q e with ⟨e1, e2⟩ | ⟨e1, e2⟩
        · subst e1 e2; exact ⟨vp, by rw [valV_put, if_pos rfl], h6⟩
        · obtain ⟨vq, z1, z2⟩ := h.pat y q e2
          exact ⟨vq, by rw [valV_put, if_neg (nk e1)]; exact z1, z2.mono k⟩
      cnt := fun y q e => by
        rcases lk y q e with ⟨e1, e2⟩ | ⟨e1, e2⟩
        · subst e1 e2
          refine ⟨by rw [valV_put, if_pos rfl, if_pos rfl], kvs, by rw [if_pos rfl]; exact h4, ?_⟩
          show CtD _ _ (if y = y then g else _)
          rw [if_pos rfl]; exact h5
        · obtain ⟨z1, kv, z2, z3⟩ := h.cnt y q e2
          refine ⟨by rw [valV_put, if_neg (nk e1), if_neg e1]; exact z1, kv, by rw [if_neg e1]; exact off _ _ z2 nofun, ?_⟩
          show CtD _ _ (if y = x then g else _)
          rw [if_neg e1]; exact z3
      siz := fun y q e => by
        rcases lk y q e with ⟨e1, e2⟩ | ⟨e1, e2⟩
        · subst e1 e2
          show _ = some (V.int ((if y = y then sz else _ : Nat) : Int))
          rw [valV_put, if_pos rfl, if_pos rfl]
        · show _ = some (V.int ((if y = x then sz else _ : Nat) : Int))
          rw [valV_put, if_neg (nk e1), if_neg e1]; exact h.siz y q e2
      inj := fun y z q q2 e e2 e3 => by
        rcases lk y q e with ⟨a1, a2⟩ | ⟨a1, a2⟩ <;> rcases lk z q2 e2 with ⟨b1, b2⟩ | ⟨b1, b2⟩
        · rw [a1, b1]
        · rw [if_pos a1, if_neg b1] at e3; exact absurd e3.symm (cdn z q2 b2)
        · rw [if_neg a1, if_pos b1] at e3; exact absurd e3 (cdn y q a2)
        · rw [if_neg a1, if_neg b1] at e3; exact h.inj y z q q2 a2 b2 e3
      nd := by
        show ((st.pats ++ [(x, p)]).map (·.1)).Nodup
        rw [List.map_append]
        exact List.nodup_append.mpr ⟨h.nd, List.nodup_cons.mpr ⟨nofun, List.nodup_nil⟩, fun a ha b hb e => look_none hx (by
          have hb : b = x := List.mem_singleton.mp hb
          rw [← hb, ← e]; exact ha)⟩
      few := by show (st.pats ++ [(x, p)]).length ≤ 3; rw [List.length_append]; show _ + 1 ≤ 3; omega }
theorem KIn.fall {H Hf : Hp} {ka dx dp dc ds ll : Addr} {cd : Str → Addr} {vt : V} {pk ck sk : List (Key × V)} {ws : List V} {st : KSt} {x : Str} (h : KIn K H ka dx dp dc ds ll cd vt pk ck sk ws st) (hfr : SameB [dp, dc, ds] H Hf)
    (h1 : Hf dp = some (.dK (dropK pk (.inr x)))) (h2 : Hf dc = some (.dK (dropK ck (.inr x)))) (h3 : Hf ds = some (.dK (dropK sk (.inr x)))) : KIn K Hf ka dx dp dc ds ll cd vt (dropK pk (.inr x)) (dropK ck (.inr x)) (dropK sk (.inr x)) ws (stFall st x) := by
  have k : Kp H Hf := hfr.kp fun m hm => by
    simp only [List.mem_cons, List.not_mem_nil, or_false] at hm
    rcases hm with e | e | e <;> subst e
    · exact ⟨_, h.hp, rfl⟩
    · exact ⟨_, h.hc, rfl⟩
    · exact ⟨_, h.hs, rfl⟩
  have off : ∀ a o, H a = some o → (∀ kvs, o ≠ .dK kvs) → Hf a = some o := fun a o e z => hfr a o e fun hm => by
    simp only [List.mem_cons, List.not_mem_nil, or_false] at hm
    rcases hm with e2 | e2 | e2 <;> rw [e2] at e
    · rw [h.hp] at e; cases e; exact z _ rfl
    · rw [h.hc] at e; cases e; exact z _ rfl
    · rw [h.hs] at e; cases e; exact z _ rfl
  have lk : ∀ y q, look (stFall st x).pats y = some q → y ≠ x ∧ look st.pats y = some q := fun y q e => by
    have e : look (st.pats.filter fun q => decide (q.1 ≠ x)) y = some q := e
    rw [look_del] at e
    by_cases e2 : y = x
    · rw [if_pos e2] at e; cases e
    · rw [if_neg e2] at e; exact ⟨e2, e⟩
  have nk : ∀ {y : Str}, y ≠ x → ¬ (Sum.inr y : Key) = .inr x := fun e e2 => e (Sum.inr.inj e2)
  exact
    { ins := off _ _ h.ins nofun, tab := h.tab.mono k, hp := h1, hc := h2, hs := h3, hl := off _ _ h.hl nofun, wl := h.wl, pc := h.pc, ps := h.ps, cs := h.cs, kp := named_drop h.kp, kc := named_drop h.kc, ks := named_drop h.ks
      pat := fun y q e => by
        obtain ⟨e1, e2⟩ := lk y q e
        obtain ⟨vq, z1, z2⟩ := h.pat y q e2
        exact ⟨vq, by rw [valV_drop, if_neg (nk e1)]; exact z1, z2.mono k⟩
      cnt := fun y q e => by
        obtain ⟨e1, e2⟩ := lk y q e
        obtain ⟨z1, kv, z2, z3⟩ := h.cnt y q e2
        exact ⟨by rw [valV_drop, if_neg (nk e1)]; exact z1, kv, off _ _ z2 nofun, z3⟩
      siz := fun y q e => by
        obtain ⟨e1, e2⟩ := lk y q e
        rw [valV_drop, if_neg (nk e1)]; exact h.siz y q e2
      inj := fun y z q q2 e e2 e3 => h.inj y z q q2 (lk y q e).2 (lk z q2 e2).2 e3
      nd := (h.nd).sublist ((List.filter_sublist).map _)
      few := Nat.le_trans (List.length_filter_le _ _) h.few }
end
end J
/-! stand, fall, walked. -/
namespace J
open PySem PySem.Spec PyProof.Rows L2
section
variable {X : Cx} {a e o i : Expr} {es : List Expr} {σ : L2.St} {H : Hp} {pos tpos p2 : Pos} {d : PyData} {q : Addr} {kvs : List (Key × V)} {k : Key} {D : Ends}
theorem de_lenD {p : Pos} (hm : X.mg "len" = none) (ha : VE X e σ H (.ref q)) (hk : H q = some (.dK kvs)) (hg : Gl X "len" := by rfl) (hs : starEach [e] X.env = (false, eval e X.env) :: starEach [] X.env := by rfl) : DE X (.Call (.Name "len" p) [e] [] pos) σ H (.int (kvs.length : Int)) :=
  ee_blt call_lenD hm PySem.boot_len (aa_one ha hs) (fun vs H2 s2 ⟨v, e1, e2⟩ => ⟨q, kvs, by rw [e1, e2], s2 _ _ hk, Same.refl H2, rfl⟩) (fun _ _ _ _ k ⟨q, xs, h1, h2, h3⟩ => ⟨q, xs, h1, h2, k _ _ h3⟩) (hg := hg) (he := hs)
theorem de_ix0 {n : Nat} (ha : EE X a σ H fun v H2 => ∃ ds, Rep H2 (.tuple (d :: ds)) v) : DE X (.Subscript a (.Constant (.int 0) n p2) pos) σ H d := fun H1 s =>
  we_of (pe_ix ix_tup pe_we pe_we plainIx) (ha.go s fun x H2 s2 ⟨ds, r⟩ => (de_int (i := 0) (H := H2)).go (Same.refl H2) fun y H3 s3 r2 => by
    obtain ⟨p, xs, e1, t, rl⟩ := (r.mono (.of s3)).seq (K := X.K)
    obtain ⟨v, h1, h2⟩ := rep_atI rl (i := ((0 : Nat) : Int)) (d := d) (atI_n rfl)
    exact ⟨p, xs, 0, v, e1, r2, t, h1, s2.trans s3, h2⟩)
theorem ws_delK (ho : VE X o σ H (.ref q)) (hd : H q = some (.dK kvs)) (hi : VE X i σ H (kV k)) (hv : (valV kvs k).isSome = true) (hq : ∀ H1, Same H H1 → D.nx σ (upd H1 q (.dK (dropK kvs k)))) : WS X (.Delete [.Subscript o i tpos] pos) D σ H :=
  ws_of (ps_ddel pe_we pe_we) (ho.go (Same.refl H) fun x H1 s1 e1 => hi.go s1 fun y H2 s2 e2 => by
    subst e1 e2
    exact ⟨q, kvs, k, rfl, (s1.trans s2) _ _ hd, rfl, hv, hq H2 (s1.trans s2)⟩)
/-- a list display of texts, some told by length only -/
theorem ee_lst3 {a b c : Expr} {n : Nat} (ha : SE X a σ H n) (hb : SE X b σ H n) (hc : SE X c σ H n) (hs1 : starEach [a, b, c] X.env = (false, eval a X.env) :: starEach [b, c] X.env := by rfl) (hs2 : starEach [b, c] X.env = (false, eval b X.env) :: starEach [c] X.env := by rfl) (hs3 : starEach [c] X.env = (false, eval c X.env) :: starEach [] X.env := by rfl) :
    EE X (.List [a, b, c] pos) σ H fun v H2 => ∃ (l : Addr) (ys : List Str), v = .ref l ∧ SqL X.K H2 l (ys.map V.str) ∧ ys.length ≤ 10 ∧ ∀ y ∈ ys, y.length ≤ n := fun H1 s =>
  we_of (pe_lst pa_we) ((aav_cons (fun _ _ _ _ h => h) ha (aav_cons (fun _ _ _ _ h => h) hb (aa_one hc hs3) hs2) hs1).go s fun vs H2 s2 ⟨v1, r1, e1, ⟨y1, f1, z1⟩, v2, r2, e2, ⟨y2, f2, z2⟩, v3, e3, y3, f3, z3⟩ => by
    subst e1 e2 e3 f1 f2 f3
    refine ⟨szl (by show 3 ≤ 100000; decide), fun l hl => ⟨s2.trans (.new hl), l, [y1, y2, y3], rfl, SqL.of upd_same, by show 3 ≤ 10; decide, fun y hy => ?_⟩⟩
    simp only [List.mem_cons, List.not_mem_nil, or_false] at hy
    rcases hy with e | e | e <;> subst e <;> assumption)
end
theorem patOk_of {m : Nat} {c : Cat} {p : Pat} (hg : GCat m c) (hm : m ≤ 100) (hp : GPat c p) : PatOk c p where
  clen := Nat.le_trans hg.few (by decide)
  alen := hp.few
  apos := hp.one
  tab := fun a ha => by
    obtain ⟨t, h1, h2⟩ := hp.fit a ha
    have gt := hg.tab t (findT_mem h1).1
    exact ⟨t, h1, by rw [← h2]; exact gt.row, Nat.le_trans gt.few hm⟩
  lo := hp.lo
  hi := hp.hi
  olen := hp.vlen
  head := hp.head
  hlen := hp.hlen
theorem brs_dig {brs : List Br} : ∀ k, ∀ r ∈ levs brs k, GRow k r
  | 0, r, hr => by
    have e : r = [] := by
      unfold levs lev0 at hr
      split at hr
      · cases hr
      · exact List.mem_singleton.mp hr
    rw [e]
    exact ⟨rfl, nofun⟩
  | k + 1, r, hr => by
    obtain ⟨p, hp, hq⟩ := List.mem_flatMap.mp (show r ∈ deepen brs (levs brs k) from hr)
    obtain ⟨x, hx, e⟩ := List.mem_map.mp hq
    have g := brs_dig k p hp
    rw [← e]
    refine ⟨by rw [List.length_append, g.len]; rfl, fun n hn => (List.mem_append.mp hn).elim (g.val n) fun h => ?_⟩
    rw [List.mem_singleton.mp h]
    exact (mem_only3.mp hx).1
section
variable {P : Program} {w : World} {K : PySem.W.Frag} {mg : Str → Option Value} {base : Heap}
theorem KIn.off {H : Hp} {ka dx dp dc ds ll : Addr} {cd : Str → Addr} {vt : V} {pk ck sk : List (Key × V)} {ws : List V} {st : KSt} (h : KIn K H ka dx dp dc ds ll cd vt pk ck sk ws st) {a : Addr} {o : HO} (e : H a = some o) (z : ∀ kvs, o ≠ .dK kvs) : a ∉ [dp, dc, ds] := fun hm => by
  simp only [List.mem_cons, List.not_mem_nil, or_false] at hm
  rcases hm with e2 | e2 | e2 <;> rw [e2] at e
  · rw [h.hp] at e; cases e; exact z _ rfl
  · rw [h.hc] at e; cases e; exact z _ rfl
  · rw [h.hs] at e; cases e; exact z _ rfl
theorem KIn.kp3 {H Hf : Hp} {ka dx dp dc ds ll : Addr} {cd : Str → Addr} {vt : V} {pk ck sk : List (Key × V)} {ws : List V} {st : KSt} (h : KIn K H ka dx dp dc ds ll cd vt pk ck sk ws st) (b : SameB [dp, dc, ds] H Hf) : Kp H Hf := b.kp fun m hm => by
  simp only [List.mem_cons, List.not_mem_nil, or_false] at hm
  rcases hm with e | e | e <;> subst e
  · exact ⟨_, h.hp, rfl⟩
  · exact ⟨_, h.hc, rfl⟩
  · exact ⟨_, h.hs, rfl⟩
theorem kM_dicts {ka dp dc ds ll : Addr} {cd : Str → Addr} {st : KSt} : ∀ m ∈ [dp, dc, ds], m ∈ kM ka dp dc ds ll cd st := fun m hm => by
  unfold kM
  simp only [List.mem_cons, List.not_mem_nil, or_false, List.mem_append] at hm ⊢
  rcases hm with e | e | e <;> simp [e]
def standS (K : PySem.W.Frag) : Sp := fun vs H Q E => ∃ (ka : Addr) (vx vp : V) (M : List Addr) (st : KSt) (x : Str) (p : Pat) (m : Nat), vs = [.ref ka, vx, vp] ∧ KAt K H ka M st ∧ Rep H (.str x) vx ∧ Rep H (ePat p) vp ∧ x ∈ patNames ∧ GCat m st.cat ∧ m ≤ 60 ∧ GPat st.cat p ∧ st.n ≤ 900 ∧ (∀ q ∈ st.pats, q.1 ∈ patNames) ∧ match look st.pats x with
  | some _ => ∀ H', Same H H' → E (.ref (He.ga K "StandingError")) none H'
  | none => ∀ H' M', SameB M H H' → (∀ m ∈ M', m ∈ M ∨ H m = none) → KAt K H' ka M' { stStand st x p (cntOf p (joinedL st.cat p)) (joinedL st.cat p).length with n := st.n + 1 } → Q .non H'
theorem ok_Keeper_stand (T : Tx K mg) : OkF P w K mg base (L2.CX P w) 9 (He.fAd K ("Keeper", some "stand")) ["self", "name", "pattern"] (standS K) := by
  refine mk_Keeper_stand T (fun vs H Q E ⟨_, _, _, _, _, _, _, _, e, _⟩ => by subst e; rfl) (fun cdv A outer s H vs Q E hr ⟨ka, vx, vp, M, st, x, p, m, e, hK, rx, rp, hx, hg, hm, hp, hn, hnm, q⟩ => ?_)
  subst e
  obtain ⟨dx, dp, dc, ds, ll, cd, vt, pk, ck, sk, ws, kin, eM⟩ := id hK
  have hu := hu_of hr
  have ok := patOk_of hg (by omega) hp
  refine wss_cons (ws_if (BT.go (bt_or (bt_not (bt_val (de_call (ok_is_name T |>.mono (by decide)) hr T.gis_name passL (aa_cons (de_var 1 rx) aa_nil) ⟨x, ok_pat hx, rfl, rfl⟩))) fun _ => bt_cmp (ce_dinK hu (ve_str (de_var 1 rx)) (ve_fld (ve_var 0) kin.ins T.clKeeper T.no_Keeper_patterns rfl) (.inl kin.hp))) (Same.refl H) fun H1 s1 => ?_))
  rw [valV_named kin.kp]
  cases hl : look st.pats x with
  | some p0 =>
    rw [hl] at q
    rw [if_pos (by simp)]
    exact wss_one (ws_raise T.ex_StandingError T.gStandingError (q H1 s1))
  | none =>
  rw [hl] at q
  rw [if_neg (by decide)]
  have k1 := kin.mono s1
  have rx1 := rx.mono (.of s1)
  have rp1 := rp.mono (.of s1)
  have hpl : st.pats.length ≤ 2 := by
    have := List.Nodup.length_le_of_subset (l₁ := x :: st.pats.map (·.1)) (l₂ := patNames) (List.nodup_cons.mpr ⟨look_none hl, kin.nd⟩) fun y hy => by
      rcases List.mem_cons.mp hy with e | e
      · rw [e]; exact hx
      · obtain ⟨q0, h1, h2⟩ := List.mem_map.mp e
        rw [← h2]; exact hnm q0 h1
    rw [List.length_cons, List.length_map] at this
    have h3 : patNames.length = 3 := rfl
    omega
  have hpkl := named_len kin.kp
  have hckl := named_len kin.kc
  have hskl := named_len kin.ks
  refine wss_nil (wss_cons (ws_expr ((de_call (ok_check_fit T |>.mono (by decide)) hr T.gcheck_fit passL (aa_cons (ve_de (ve_fld (ve_var 0) k1.ins T.clKeeper T.no_Keeper_tables rfl) k1.tab) (aa_cons (de_var 2 rp1) aa_nil)) ⟨m, st.cat, p, hg, hm, hp, rfl, rfl⟩).go (Same.refl H1) fun _ H2 s2 _ => ?_)))
  have k2 := k1.mono s2
  have rx2 := rx1.mono (.of s2)
  have rp2 := rp1.mono (.of s2)
  refine wss_cons (ws_if (BT.go (bt_cmp (ce_ge (de_lenD T.b_len (ve_fld (ve_var 0) k2.ins T.clKeeper T.no_Keeper_patterns rfl) k2.hp) (de_gint T.STANDING_LIMIT))) (Same.refl H2) fun H3 s3 => ?_))
  rw [decide_eq_false (by omega), if_neg (by decide)]
  have k3 := k2.mono s3
  have rx3 := rx2.mono (.of s3)
  have rp3 := rp2.mono (.of s3)
  refine wss_nil (wss_cons (ws_de (d := eRows (joinedL st.cat p)) 3 sc_Keeper_stand.nd (de_ix0 (ee_call (ok_joined T) hr T.gjoined passL (aa_cons (ve_de (ve_fld (ve_var 0) k3.ins T.clKeeper T.no_Keeper_tables rfl) k3.tab) (aa_cons (de_var 2 rp3) (aa_cons (de_call (d := eStrs (pvars p)) (ok_all_variables T |>.mono (by decide)) hr T.gall_variables passL (aa_cons (de_var 2 rp3) aa_nil) ⟨p, ⟨ok.alen, ok.hi, by have := ok.hlen; omega⟩, rfl, rfl⟩) (aa_cons (de_gint T.VISIT_LIMIT) aa_nil)))) fun vs H4 Q s4 rr hq => ⟨_, joinedL st.cat p, rr, ⟨st.cat, p, 20000, ok, .inr rfl, rfl, rfl⟩, fun v H5 ns s5 r5 => hq v H5 s5 ⟨[eRow ns], r5⟩⟩)) fun vr H4 s4 rr => ?_))
  have k4 := k3.mono s4
  have rx4 := rx3.mono (.of s4)
  have rp4 := rp3.mono (.of s4)
  have hjl : (joinedL st.cat p).length ≤ 27 := Nat.le_trans (levs_len _ _) (Nat.pow_le_pow_right (n := 3) (j := 3) (by decide) ok.olen)
  have hS4 := ((s1.trans s2).trans s3).trans s4
  refine wss_cons (ws_dputK hu mono_rep (de_var 2 rp4) (ve_fld (ve_var 0) k4.ins T.clKeeper T.no_Keeper_patterns rfl) k4.hp (ve_str (de_var 1 rx4)) (by omega) fun vp2 H5 s5 rp5 => ?_)
  have b5 : SameB [dp, dc, ds] H4 (upd H5 dp (.dK (putK pk (Sum.inr x) vp2))) := (SameB.of s5).trans (.upd (by simp))
  have a5 : (upd H5 dp (.dK (putK pk (Sum.inr x) vp2))) dp = some (.dK (putK pk (Sum.inr x) vp2)) := upd_same
  have c5 : (upd H5 dp (.dK (putK pk (Sum.inr x) vp2))) dc = some (.dK ck) := by rw [upd_ne (Ne.symm k4.pc)]; exact s5 _ _ k4.hc
  have z5 : (upd H5 dp (.dK (putK pk (Sum.inr x) vp2))) ds = some (.dK sk) := by rw [upd_ne (Ne.symm k4.ps)]; exact s5 _ _ k4.hs
  have rv5 : Rep (upd H5 dp (.dK (putK pk (Sum.inr x) vp2))) (ePat p) vp2 := rp5.mono (.upd (s5 _ _ k4.hp) rfl)
  generalize upd H5 dp (.dK (putK pk (Sum.inr x) vp2)) = H6 at *
  have kp6 := k4.kp3 b5
  have i6 := b5 _ _ k4.ins (k4.off k4.ins nofun)
  refine wss_cons (ws_dputK hu (P := fun v H => ∃ d kvs, v = V.ref d ∧ H6 d = none ∧ H d = some (.dT kvs) ∧ CtD p.head.length kvs (cntOf p (joinedL st.cat p))) (fun _ _ _ s ⟨d, kvs, h1, h2, h3, h4⟩ => ⟨d, kvs, h1, h2, s _ _ h3, h4⟩) (ee_call (ok_counted T |>.mono (by decide)) hr T.gcounted passL (aa_cons (de_var 2 (rp4.mono kp6)) (aa_cons (de_var 3 (rr.mono kp6)) aa_nil)) fun vs H7 Q s7 rr7 hq => ?_) (ve_fld (ve_var 0) i6 T.clKeeper T.no_Keeper_counts rfl) c5 (ve_str (de_var 1 (rx4.mono kp6))) (by omega) fun vd H7 s7 ⟨d, kvs, e7, n7, d7, ct7⟩ => ?_)
  · obtain ⟨w1, w2, e, q1, q2⟩ := rr7.two
    subst e
    exact ⟨w1, w2, st.cat, p, joinedL st.cat p, rfl, q1, q2, ok, fun r hr => brs_dig _ r hr, by omega, fun d kvs H8 s8 n8 d8 c8 => hq _ H8 s8 ⟨d, kvs, rfl, s7.free n8, d8, c8⟩⟩
  subst e7
  have hdc : d ≠ dc := fun e => by rw [e, c5] at n7; cases n7
  have hdd : d ≠ ds := fun e => by rw [e, z5] at n7; cases n7
  have b7 : SameB [dp, dc, ds] H4 (upd H7 dc (.dK (putK ck (Sum.inr x) (.ref d)))) := (b5.trans (.of s7)).trans (.upd (by simp))
  have a7 : (upd H7 dc (.dK (putK ck (Sum.inr x) (.ref d)))) dp = some (.dK (putK pk (Sum.inr x) vp2)) := by rw [upd_ne k4.pc]; exact s7 _ _ a5
  have c7 : (upd H7 dc (.dK (putK ck (Sum.inr x) (.ref d)))) dc = some (.dK (putK ck (Sum.inr x) (.ref d))) := upd_same
  have z7 : (upd H7 dc (.dK (putK ck (Sum.inr x) (.ref d)))) ds = some (.dK sk) := by rw [upd_ne (Ne.symm k4.cs)]; exact s7 _ _ z5
  have g7 : (upd H7 dc (.dK (putK ck (Sum.inr x) (.ref d)))) d = some (.dT kvs) := by rw [upd_ne hdc]; exact d7
  have rv7 : Rep (upd H7 dc (.dK (putK ck (Sum.inr x) (.ref d)))) (ePat p) vp2 := rv5.mono ((Kp.of s7).trans (.upd (s7 _ _ c5) rfl))
  generalize upd H7 dc (.dK (putK ck (Sum.inr x) (.ref d))) = H8 at *
  have kp8 := k4.kp3 b7
  have i8 := b7 _ _ k4.ins (k4.off k4.ins nofun)
  refine wss_cons (ws_dputK hu mono_rep (DE.is (d2 := .int ((joinedL st.cat p).length : Int)) (de_len T.b_len (DE.qe (de_var 3 (rr.mono kp8)))) (by rw [List.length_map])) (ve_fld (ve_var 0) i8 T.clKeeper T.no_Keeper_sizes rfl) z7 (ve_str (de_var 1 (rx4.mono kp8))) (by omega) fun vz H9 s9 rz => ?_)
  cases (show vz = _ from rz)
  have b9 : SameB [dp, dc, ds] H4 (upd H9 ds (.dK (putK sk (Sum.inr x) (.int ((joinedL st.cat p).length : Int))))) := (b7.trans (.of s9)).trans (.upd (by simp))
  have kin9 := k4.stand b9 hl (d := d) (vp := vp2) (kvs := kvs) (g := cntOf p (joinedL st.cat p)) (sz := (joinedL st.cat p).length) (by
    cases e : H4 d with
    | none => rfl
    | some o =>
      have := b5 d o e fun hm => by
        simp only [List.mem_cons, List.not_mem_nil, or_false] at hm
        rcases hm with e2 | e2 | e2
        · rw [e2, a5] at n7; cases n7
        · exact hdc e2
        · exact hdd e2
      rw [n7] at this; cases this) (by rw [upd_ne k4.ps]; exact s9 _ _ a7) (by rw [upd_ne k4.cs]; exact s9 _ _ c7) upd_same (by rw [upd_ne hdd]; exact s9 _ _ g7) ct7 (rv7.mono ((Kp.of s9).trans (.upd (s9 _ _ z7) rfl))) hpl
  have hd4 : H d = none := by
    cases e : H d with
    | none => rfl
    | some o =>
      have := b5 d o (hS4 _ _ e) fun hm => by
        simp only [List.mem_cons, List.not_mem_nil, or_false] at hm
        rcases hm with e2 | e2 | e2
        · rw [e2, a5] at n7; cases n7
        · exact hdc e2
        · exact hdd e2
      rw [n7] at this; cases this
  generalize upd H9 ds (.dK (putK sk (Sum.inr x) (.int ((joinedL st.cat p).length : Int)))) = H10 at *
  have kp10 := k4.kp3 b9
  refine wss_one (ws_expr (we_meth (ok_Keeper_note T |>.mono (by decide)) hr (ve_var 0) kin9.ins T.clKeeper T.me_Keeper_note rfl passL (aa_one (ee_lst3 (se_de (n := 2000) (x := "stand") de_str (by decide)) (se_de (de_var 1 (rx4.mono kp10)) (by have := okW_len x (ok_pat hx); omega)) (se_call (ok_write_pattern T |>.mono (by decide)) hr T.gwrite_pattern (aa_cons (de_var 2 (rp4.mono kp10)) aa_nil) ⟨st.cat, p, hp, rfl⟩))) fun vs H11 s11 ⟨v11, e11, l, ys, e12, tl, hy1, hy2⟩ => ?_))
  subst e11 e12
  refine ⟨ka, l, _, _, ys, rfl, ⟨dx, dp, dc, ds, ll, _, vt, _, _, _, ws, kin9.mono s11, rfl⟩, tl, hy1, hy2, by show st.n ≤ 1000; omega, fun v12 H12 e12 b12 kat => ?_⟩
  subst e12
  have hMM : ∀ m ∈ kM ka dp dc ds ll (fun y => if y = x then d else cd y) (stStand st x p (cntOf p (joinedL st.cat p)) (joinedL st.cat p).length), m ∈ M ∨ H m = none := fun m hm => by
    rw [eM]
    unfold kM at hm ⊢
    rcases List.mem_append.mp hm with hm | hm
    · exact .inl (List.mem_append_left _ hm)
    · obtain ⟨q0, hq0, e⟩ := List.mem_map.mp hm
      rcases List.mem_append.mp (show q0 ∈ st.pats ++ [(x, p)] from hq0) with h1 | h1
      · have hne : q0.1 ≠ x := fun e2 => look_none hl (by rw [← e2]; exact List.mem_map.mpr ⟨q0, h1, rfl⟩)
        have e : (if q0.1 = x then d else cd q0.1) = m := e
        rw [if_neg hne] at e
        exact .inl (List.mem_append_right _ (List.mem_map.mpr ⟨q0, h1, e⟩))
      · have e : (if q0.1 = x then d else cd q0.1) = m := e
        rw [List.mem_singleton.mp h1, if_pos rfl] at e
        exact .inr (by rw [← e]; exact hd4)
  refine q H12 _ ?_ hMM kat
  have bM := (SameB.of (M := M) hS4).trans ((b9.wide (N := M) fun m hm => by rw [eM]; exact kM_dicts m hm).trans (.of s11))
  exact fun a o h hn => b12 a o (bM a o h hn) fun hm => (hMM a hm).elim hn fun z => by rw [z] at h; cases h
theorem ok_Keeper_fall (T : Tx K mg) : OkF P w K mg base (L2.CX P w) 2 (He.fAd K ("Keeper", some "fall")) ["self", "name"] (fun vs H Q E => ∃ (ka : Addr) (vx : V) (M : List Addr) (st : KSt) (x : Str), vs = [.ref ka, vx] ∧ KAt K H ka M st ∧ Rep H (.str x) vx ∧ x ∈ patNames ∧ st.n ≤ 900 ∧ match look st.pats x with
  | none => ∀ H', Same H H' → E (.ref (He.ga K "StandingError")) none H'
  | some _ => ∀ H' M', SameB M H H' → (∀ m ∈ M', m ∈ M ∨ H m = none) → KAt K H' ka M' { stFall st x with n := st.n + 1 } → Q .non H') := by
  refine mk_Keeper_fall T (fun vs H Q E ⟨_, _, _, _, _, e, _⟩ => by subst e; rfl) (fun cdv A outer s H vs Q E hr ⟨ka, vx, M, st, x, e, hK, rx, hx, hn, q⟩ => ?_)
  subst e
  obtain ⟨dx, dp, dc, ds, ll, cd, vt, pk, ck, sk, ws, kin, eM⟩ := id hK
  have hu := hu_of hr
  refine wss_cons (ws_expr (we_meth (ok_Keeper_known T) hr (ve_var 0) kin.ins T.clKeeper T.me_Keeper_known rfl passE (aa_one (de_var 1 rx)) fun vs H1 s1 ⟨v1, e1, r1⟩ => ?_))
  subst e1
  refine ⟨ka, v1, M, st, x, rfl, hK.mono s1, r1, ?_⟩
  cases hl : look st.pats x with
  | none => rw [hl] at q; exact fun H2 s2 => q H2 (s1.trans s2)
  | some p =>
  rw [hl] at q
  intro v H2 s2 e2
  have s12 := s1.trans s2
  have k2 := kin.mono s12
  have rx2 := rx.mono (.of s12)
  have his : ∀ {kvs : List (Key × V)}, NamedBy st.pats kvs → (valV kvs (.inr x)).isSome = true := fun h => by rw [valV_named h, hl]; rfl
  refine wss_cons (ws_delK (k := .inr x) (ve_fld (ve_var 0) k2.ins T.clKeeper T.no_Keeper_patterns rfl) k2.hp (ve_str (de_var 1 rx2)) (his k2.kp) fun H3 s3 => ?_)
  have b3 : SameB [dp, dc, ds] H2 (upd H3 dp (.dK (dropK pk (Sum.inr x)))) := (SameB.of s3).trans (.upd (by simp))
  have a3 : (upd H3 dp (.dK (dropK pk (Sum.inr x)))) dp = some (.dK (dropK pk (Sum.inr x))) := upd_same
  have c3 : (upd H3 dp (.dK (dropK pk (Sum.inr x)))) dc = some (.dK ck) := by rw [upd_ne (Ne.symm k2.pc)]; exact s3 _ _ k2.hc
  have z3 : (upd H3 dp (.dK (dropK pk (Sum.inr x)))) ds = some (.dK sk) := by rw [upd_ne (Ne.symm k2.ps)]; exact s3 _ _ k2.hs
  generalize upd H3 dp (.dK (dropK pk (Sum.inr x))) = H4 at *
  have kp4 := k2.kp3 b3
  have i4 := b3 _ _ k2.ins (k2.off k2.ins nofun)
  refine wss_cons (ws_delK (k := .inr x) (ve_fld (ve_var 0) i4 T.clKeeper T.no_Keeper_counts rfl) c3 (ve_str (de_var 1 (rx2.mono kp4))) (his k2.kc) fun H5 s5 => ?_)
  have b5 : SameB [dp, dc, ds] H2 (upd H5 dc (.dK (dropK ck (Sum.inr x)))) := (b3.trans (.of s5)).trans (.upd (by simp))
  have a5 : (upd H5 dc (.dK (dropK ck (Sum.inr x)))) dp = some (.dK (dropK pk (Sum.inr x))) := by rw [upd_ne k2.pc]; exact s5 _ _ a3
  have c5 : (upd H5 dc (.dK (dropK ck (Sum.inr x)))) dc = some (.dK (dropK ck (Sum.inr x))) := upd_same
  have z5 : (upd H5 dc (.dK (dropK ck (Sum.inr x)))) ds = some (.dK sk) := by rw [upd_ne (Ne.symm k2.cs)]; exact s5 _ _ z3
  generalize upd H5 dc (.dK (dropK ck (Sum.inr x))) = H6 at *
  have kp6 := k2.kp3 b5
  have i6 := b5 _ _ k2.ins (k2.off k2.ins nofun)
  refine wss_cons (ws_delK (k := .inr x) (ve_fld (ve_var 0) i6 T.clKeeper T.no_Keeper_sizes rfl) z5 (ve_str (de_var 1 (rx2.mono kp6))) (his k2.ks) fun H7 s7 => ?_)
  have b7 : SameB [dp, dc, ds] H2 (upd H7 ds (.dK (dropK sk (Sum.inr x)))) := (b5.trans (.of s7)).trans (.upd (by simp))
  have kin7 := k2.fall b7 (x := x) (by rw [upd_ne k2.ps]; exact s7 _ _ a5) (by rw [upd_ne k2.cs]; exact s7 _ _ c5) upd_same
  generalize upd H7 ds (.dK (dropK sk (Sum.inr x))) = H8 at *
  have kp8 := k2.kp3 b7
  refine wss_one (ws_expr (we_meth (ok_Keeper_note T |>.mono (by decide)) hr (ve_var 0) kin7.ins T.clKeeper T.me_Keeper_note rfl passL (aa_one (LE.lv (le_lst (ds := [("fall" : Str), x].map .str) (aa_cons de_str (aa_cons (de_var 1 (rx2.mono kp8)) aa_nil)) (by show 2 ≤ 100000; decide)))) fun vs H9 s9 ⟨v9, e9, l, ys, e10, tl, rl⟩ => ?_))
  subst e9 e10
  rw [rl.strs] at tl
  refine ⟨ka, l, _, _, _, rfl, ⟨dx, dp, dc, ds, ll, _, vt, _, _, _, ws, kin7.mono s9, rfl⟩, tl, by show 2 ≤ 10; decide, fun y hy => ?_, by show st.n ≤ 1000; omega, fun v12 H12 e12 b12 kat => ?_⟩
  · simp only [List.mem_cons, List.not_mem_nil, or_false] at hy
    rcases hy with e | e <;> subst e
    · decide
    · have := okW_len _ (ok_pat hx); omega
  subst e12
  have hMM : ∀ m ∈ kM ka dp dc ds ll cd (stFall st x), m ∈ M ∨ H m = none := fun m hm => by
    rw [eM]
    unfold kM at hm ⊢
    rcases List.mem_append.mp hm with hm | hm
    · exact .inl (List.mem_append_left _ hm)
    · obtain ⟨q0, hq0, e⟩ := List.mem_map.mp hm
      exact .inl (List.mem_append_right _ (List.mem_map.mpr ⟨q0, (List.mem_filter.mp hq0).1, e⟩))
  refine q H12 _ ?_ hMM kat
  have bM := (SameB.of (M := M) s12).trans ((b7.wide (N := M) fun m hm => by rw [eM]; exact kM_dicts m hm).trans (.of s9))
  exact fun a o h hn => b12 a o (bM a o h hn) fun hm => (hMM a hm).elim hn fun z => by rw [z] at h; cases h
end
end J
/-! Walks over a dict's keys: the dict is locked the while. -/
namespace J
open PySem PySem.Spec PyProof.Rows L2
theorem Kp.ofT {H : Hp} {q : Addr} {u o : HO} (h : H q = some u) (z : (∀ xs, u ≠ .tup xs) ∧ ∀ ob xs, u ≠ .frz ob (.tup xs)) : Kp H (L2.upd H q o) := fun a => ⟨fun xs e => by
  rw [upd_ne fun e2 => by rw [e2, h] at e; cases e; exact z.1 _ rfl]; exact e, fun ob xs e => by
  rw [upd_ne fun e2 => by rw [e2, h] at e; cases e; exact z.2 _ _ rfl]; exact e⟩
theorem frz_T (od : Obj) (kvs : List (List Key × V)) : (∀ xs, HO.frz od (.dT kvs) ≠ .tup xs) ∧ ∀ ob xs, HO.frz od (.dT kvs) ≠ .frz ob (.tup xs) := by
  constructor
  · intro xs e
    exact HO.noConfusion e
  · intro ob xs e
    injection e with _ e2
    exact HO.noConfusion e2
theorem frz_K (od : Obj) (kvs : List (Key × V)) : (∀ xs, HO.frz od (.dK kvs) ≠ .tup xs) ∧ ∀ ob xs, HO.frz od (.dK kvs) ≠ .frz ob (.tup xs) := by
  constructor
  · intro xs e
    exact HO.noConfusion e
  · intro ob xs e
    injection e with _ e2
    exact HO.noConfusion e2
section
variable {X : Cx} {iter tg elt : Expr} {body : List Stmt} {pos tp : Pos} {σ : L2.St} {H : Hp} {g : TG} {D : Ends} {q : Addr} {scope : Scope} {x : Str}
/-- the ends of a body while q is locked -/
def lkE (D : Ends) (q : Addr) (od : Obj) (u : HO) (N : L2.St → Hp → Prop) : Ends := { nx := N, ct := N, bk := fun σ' H' => H' q = some (.frz od u) ∧ D.nx σ' (upd H' q u), rt := fun v H' => H' q = some (.frz od u) ∧ D.rt v (upd H' q u) }
theorem ws_forKT {kvs : List (List Key × V)} (hp : PassesOwn (model X.prog X.w) X.A X.env X.xe) (hit : ∀ od, VE X iter σ (upd H q (.frz od (.dT kvs))) (.ref q)) (hq : H q = some (.dT kvs)) (hg : PG X tg g) (Pv : Obj → Nat → L2.St → Hp → Prop) (hc : X.calm = true)
    (h0 : ∀ od H1, Same (upd H q (.frz od (.dT kvs))) H1 → Pv od 0 σ H1) (hk : ∀ od i σ' H', Pv od i σ' H' → H' q = some (.frz od (.dT kvs)))
    (hs : ∀ od i k v b σ' H', kvs[i]? = some (k, v) → H' b = some (.tup (k.map kV)) → Pv od i σ' H' → g (.ref b) σ' H' fun σ2 H2 => WSs X body (lkE D q od (.dT kvs) (Pv od (i + 1))) σ2 H2)
    (hd : ∀ od σ' H', Pv od kvs.length σ' H' → D.nx σ' (upd H' q (.dT kvs))) (hf : ∀ x, foldedSetIterable iter X.env x = pure x := by intro _; rfl) : WS X (.For tg iter body [] pos) D σ H :=
  ws_of (ps_lock (ps_for hp hc (pi_keys pe_we) hg pss_we hf)) ⟨q, .dT kvs, hq, trivial, fun od => (hit od).go (Same.refl _) fun v H1 s1 e1 => ⟨q, od, e1, .inr ⟨kvs, s1 _ _ upd_same, by
    refine for_it walk_keysT (Pv od) (h0 od H1 s1) (fun i σ' H' _ p => hk od i σ' H' p) (fun i x σ' H' H2 hi p ⟨eH, k, v, b, h1, h2, h3⟩ => ?_) fun σ' H' p => ⟨hk od _ σ' H' p, hd od σ' H' p⟩
    subst eH h2
    exact hs od i k v b σ' _ h1 h3 p⟩⟩⟩
theorem ws_forKK {kvs : List (Key × V)} (hp : PassesOwn (model X.prog X.w) X.A X.env X.xe) (hit : ∀ od, VE X iter σ (upd H q (.frz od (.dK kvs))) (.ref q)) (hq : H q = some (.dK kvs)) (hg : PG X tg g) (Pv : Obj → Nat → L2.St → Hp → Prop) (hc : X.calm = true)
    (h0 : ∀ od H1, Same (upd H q (.frz od (.dK kvs))) H1 → Pv od 0 σ H1) (hk : ∀ od i σ' H', Pv od i σ' H' → H' q = some (.frz od (.dK kvs)))
    (hs : ∀ od i k v σ' H', kvs[i]? = some (k, v) → Pv od i σ' H' → g (kV k) σ' H' fun σ2 H2 => WSs X body (lkE D q od (.dK kvs) (Pv od (i + 1))) σ2 H2)
    (hd : ∀ od σ' H', Pv od kvs.length σ' H' → D.nx σ' (upd H' q (.dK kvs))) (hf : ∀ x, foldedSetIterable iter X.env x = pure x := by intro _; rfl) : WS X (.For tg iter body [] pos) D σ H :=
  ws_of (ps_lock (ps_for hp hc (pi_keys pe_we) hg pss_we hf)) ⟨q, .dK kvs, hq, trivial, fun od => (hit od).go (Same.refl _) fun v H1 s1 e1 => ⟨q, od, e1, .inl ⟨kvs, s1 _ _ upd_same, by
    refine for_it walk_keys (Pv od) (h0 od H1 s1) (fun i σ' H' _ p => hk od i σ' H' p) (fun i x σ' H' H2 hi p ⟨eH, k, v, h1, h2⟩ => ?_) fun σ' H' p => ⟨hk od _ σ' H' p, hd od σ' H' p⟩
    subst eH h2
    exact hs od i k v σ' _ h1 p⟩⟩⟩
theorem same_unlock {H H' : Hp} {q : Addr} {od : Obj} {u : HO} (hq : H q = some u) (s : Same (upd H q (.frz od u)) H') : Same H (upd H' q u) := fun a o e => by
  by_cases h : a = q
  · subst h; rw [hq] at e; cases e; exact upd_same
  · rw [upd_ne h]; exact s a o (by rw [upd_ne h]; exact e)
/-- [elt for x in (a dict by tuples)], the items ints -/
theorem le_mKT {kvs : List (List Key × V)} (N : List Str) (sc : Scope) (j : Nat) (gd : List Key × V → Int) (hc : X.calm = true) (hN : X.N.Nodup) (hit : ∀ H1 od, Same H H1 → VE X iter σ (upd H1 q (.frz od (.dT kvs))) (.ref q)) (hq : H q = some (.dT kvs)) (hz : kvs.length < 100000)
    (hb : ∀ H1 od (kv : List Key × V) b H2, kv ∈ kvs → Same H H1 → Same (upd H1 q (.frz od (.dT kvs))) H2 → H2 b = some (.tup (kv.1.map kV)) → Blk X scope fun Y => DE Y elt (σ.set j (some (.ref b))) H2 (.int (gd kv)))
    (ok : blkC N sc scope [(x, j)] = true := by decide +kernel) (h1 : X.N = N := by rfl) (h2 : X.env.scope = sc := by rfl) (hi : X.N[j]? = some x := by rfl) (hl : scope.names.lookup x = some .local := by rfl) (hs : ∀ x, foldedSetIterable iter X.env x = pure x := by intro _; rfl) :
    LE X (.ListComp elt [⟨.Name x tp, iter, [], 0⟩] scope pos) σ H ((kvs.map gd).map .int) := fun H1 s =>
  we_of (pe_lock (pe_lc (own := [(x, j)]) hc hN (pi_keys pe_we) (by subst h1 h2; exact blkOk_by ok) (pg_blk hN hi hl) (pts_blk (ifs := [])) pe_blk hs)) ⟨q, .dT kvs, s _ _ hq, trivial, fun od => (hit H1 od s).go (Same.refl _) fun v H2 s2 e1 => ⟨q, od, e1, .inr ⟨kvs, s2 _ _ upd_same, fun D hD => by
    refine lc_it walk_keysT (fun i H' => Cv H2 D (((kvs.take i).filter fun _ => true).map fun kv => .int (gd kv)) H') (Cv.start hD) (fun i H' _ c => c.1 _ _ (s2 _ _ upd_same)) (fun i x H' H'' hi c ⟨eH, k, v, b, hk1, hk2, hk3⟩ => ?_) fun H' c => ?_
    · subst eH hk2
      refine ⟨wipe1, ?_⟩
      rw [made_snoc kvs (fun _ => true) (fun kv => PyData.int (gd kv)) i (k, v) hk1, show (wipe σ ([(_, j)].map (·.2))).set j _ = σ.set j _ from wipe2]
      exact cv_turn hD c (Nat.lt_of_le_of_lt (made_len _ _ _ i) hz) (fun _ _ _ _ _ => bts_nil) fun _ => hb H1 od (k, v) b _ (List.mem_of_getElem? hk1) s (s2.trans c.1) hk3
    · rw [List.take_length, filter_true] at c
      obtain ⟨c1, acc, c2, c3⟩ := c
      have hDq : D ≠ q := fun e => by rw [e, s2 _ _ upd_same] at hD; cases hD
      have hDn : H1 D = none := by
        cases e : H1 D with
        | none => rfl
        | some o => have := s2 D o (by rw [upd_ne hDq]; exact e); rw [hD] at this; cases this
      refine ⟨c1 _ _ (s2 _ _ upd_same), same_unlock (s _ _ hq) (s2.trans c1), D, acc, rfl, hDn, by rw [upd_ne hDq]; exact c2, ?_⟩
      rw [List.map_map]
      exact c3.mono (.ofT (c1 _ _ (s2 _ _ upd_same)) (frz_T od kvs))⟩⟩⟩
end
end J
/-! The parts of a change, in plain. -/
namespace J
open PySem PySem.Spec PyProof.Rows L2
theorem copy_vars {x : Str} {k : Nat} {as : List Atm} : (copyAtms x k as).map (·.vars) = as.map (·.vars) := by
  unfold copyAtms
  rw [List.map_map]
  refine List.ext_getElem (by rw [List.length_map, List.length_map, List.length_range]) fun i h1 h2 => ?_
  rw [List.length_map] at h2
  rw [List.getElem_map, List.getElem_map, List.getElem_range]
  show (as.getD i _).vars = _
  rw [List.getD_eq_getElem?_getD, List.getElem?_eq_getElem h2]
  rfl
theorem copy_pvars {p : Pat} {x : Str} {k : Nat} : pvars (copyPat p x k) = pvars p := by
  unfold pvars
  rw [List.flatMap_def, List.flatMap_def, show (copyPat p x k).atoms.map (·.vars) = p.atoms.map (·.vars) from copy_vars]
theorem mem_copy {p : Pat} {x : Str} {k : Nat} {a : Atm} (h : a ∈ (copyPat p x k).atoms) : ∃ j b, p.atoms[j]? = some b ∧ a = copyAtm x k j b := by
  obtain ⟨j, hj, e⟩ := List.mem_map.mp h
  exact ⟨j, p.atoms.getD j ⟨"", []⟩, getD_at _ (List.mem_range.mp hj), e.symm⟩
theorem tabNames_ne : ("0" : Str) ∉ tabNames ∧ ("1" : Str) ∉ tabNames := by decide +kernel
theorem find_copy {c : Cat} {t : Tab} {r : Row} {y : Str} (h0 : y ≠ "0") (h1 : y ≠ "1") : findT (copyCat c t r) y = findT c y := by
  unfold findT copyCat
  rw [List.cons_append, List.cons_append, List.find?_cons, decide_eq_false (fun e => h0 (show y = "0" from e.symm)), List.find?_cons, decide_eq_false (fun e => h1 (show y = "1" from e.symm))]
  rfl
theorem find_copy0 {c : Cat} {t : Tab} {r : Row} : findT (copyCat c t r) "0" = some ⟨"0", t.cols, [r]⟩ := rfl
theorem find_copy1 {c : Cat} {t : Tab} {r : Row} : findT (copyCat c t r) "1" = some ⟨"1", t.cols, othersOf t r⟩ := rfl
theorem copyOk {m : Nat} {c : Cat} {p : Pat} {x : Str} {r : Row} {t : Tab} {k : Nat} (hg : GCat m c) (hm : m ≤ 100) (hp : GPat c p) (hf : findT c x = some t) (hr : GRow t.cols r) : PatOk (copyCat c t r) (copyPat p x k) where
  clen := by
    have := hg.few
    show (_ ++ c).length ≤ 10
    rw [List.length_append]
    show 2 + _ ≤ 10
    omega
  alen := by
    show (copyAtms x k p.atoms).length ≤ 3
    unfold copyAtms
    rw [List.length_map, List.length_range]; exact hp.few
  apos := by
    show 0 < (copyAtms x k p.atoms).length
    unfold copyAtms
    rw [List.length_map, List.length_range]; exact hp.one
  tab := fun a ha => by
    obtain ⟨j, b, hb, e⟩ := mem_copy ha
    have hb := List.mem_of_getElem? hb
    obtain ⟨tb, f1, f2⟩ := hp.fit b hb
    have gt := hg.tab tb (findT_mem f1).1
    subst e
    by_cases hc : b.tab = x ∧ j ≤ k
    · have e2 : tb = t := by rw [hc.1, hf] at f1; exact (Option.some.inj f1).symm
      subst e2
      by_cases hj : j = k
      · refine ⟨⟨"0", tb.cols, [r]⟩, ?_, fun y hy => ?_, by show 1 ≤ 100; decide⟩
        · show findT _ (if _ then _ else _) = _
          rw [if_pos hc, if_pos hj]; exact find_copy0
        · rw [List.mem_singleton.mp hy]
          show GRow b.vars.length r
          rw [← f2]; exact hr
      · refine ⟨⟨"1", tb.cols, othersOf tb r⟩, ?_, fun y hy => ?_, ?_⟩
        · show findT _ (if _ then _ else _) = _
          rw [if_pos hc, if_neg hj]; exact find_copy1
        · show GRow b.vars.length y
          rw [← f2]; exact gt.row y (List.mem_filter.mp hy).1
        · exact Nat.le_trans (List.length_filter_le _ _) (Nat.le_trans gt.few hm)
    · refine ⟨tb, ?_, fun y hy => ?_, Nat.le_trans gt.few hm⟩
      · show findT _ (if _ then _ else _) = _
        have hn := hp.nm b hb
        rw [if_neg hc, find_copy (fun e => tabNames_ne.1 (by rw [← e]; exact hn)) (fun e => tabNames_ne.2 (by rw [← e]; exact hn))]
        exact f1
      · show GRow b.vars.length y
        rw [← f2]; exact gt.row y hy
  lo := fun a ha => by
    obtain ⟨j, b, hb, e⟩ := mem_copy ha
    subst e; exact hp.lo b (List.mem_of_getElem? hb)
  hi := fun a ha => by
    obtain ⟨j, b, hb, e⟩ := mem_copy ha
    subst e; exact hp.hi b (List.mem_of_getElem? hb)
  olen := by rw [copy_pvars]; exact hp.vlen
  head := by rw [copy_pvars]; exact hp.head
  hlen := hp.hlen
/-- the counts of one part, of some parts -/
def partG (c : Cat) (p : Pat) (t : Tab) (x : Str) (r : Row) (k : Nat) : Row → Nat := cntOf (copyPat p x k) (joinedL (copyCat c t r) (copyPat p x k))
def sumG (c : Cat) (p : Pat) (t : Tab) (x : Str) (r : Row) (ks : List Nat) (a : Row) : Nat := (ks.map fun k => partG c p t x r k a).sum
def chgG (c : Cat) (p : Pat) (t : Tab) (x : Str) (r : Row) : Row → Nat := sumG c p t x r (copyKs p x)
theorem sumG_snoc {c : Cat} {p : Pat} {t : Tab} {x : Str} {r : Row} {ks : List Nat} {i k : Nat} (h : ks[i]? = some k) (a : Row) : sumG c p t x r (ks.take (i + 1)) a = sumG c p t x r (ks.take i) a + partG c p t x r k a := by
  unfold sumG
  rw [List.take_add_one, h, Option.toList_some, List.map_append, List.sum_append]
  show _ + (_ + 0) = _
  rw [Nat.add_zero]
end J
/-! The levels, as tuples that pass a test. -/
namespace J
open PySem PySem.Spec PyProof.Rows L2
def nextB (brs : List Br) (p : Row) (x : Int) : Bool := (brs.filter fun br => br.places.contains p.length).all fun br => choicesOf br.places br.ks p x
def stepB (brs : List Br) (t : Row) : Bool := !brs.any (·.em) && (List.range t.length).all fun i => nextB brs (t.take i) (t.getD i 0)
theorem getD_app {p : Row} {x : Int} {i : Nat} (hi : i < p.length) : (p ++ [x]).getD i 0 = p.getD i 0 := by
  rw [List.getD_eq_getElem?_getD, List.getElem?_append_left hi, List.getD_eq_getElem?_getD]
theorem flat_filter {α β : Type} {f : α → Bool} {g : α → List β} : ∀ xs : List α, (xs.filter f).flatMap g = xs.flatMap fun x => if f x = true then g x else []
  | [] => rfl
  | x :: xs => by
    rw [List.filter_cons, List.flatMap_cons]
    cases h : f x with
    | true => rw [if_pos rfl, if_pos rfl, List.flatMap_cons, flat_filter xs]
    | false => rw [if_neg (by decide), if_neg (by decide), List.nil_append, flat_filter xs]
theorem stepB_snoc {brs : List Br} {p : Row} {x : Int} : stepB brs (p ++ [x]) = (stepB brs p && nextB brs p x) := by
  unfold stepB
  rw [List.length_append]
  show (_ && (List.range (p.length + 1)).all _) = _
  rw [List.range_succ, List.all_append, Bool.and_assoc]
  congr 2
  · rw [Bool.eq_iff_iff, List.all_eq_true, List.all_eq_true]
    constructor
    · intro h i hi
      have := h i hi
      have hi := List.mem_range.mp hi
      rw [List.take_append_of_le_length (by omega), getD_app hi] at this
      exact this
    · intro h i hi
      have := h i hi
      have hi := List.mem_range.mp hi
      rw [List.take_append_of_le_length (by omega), getD_app hi]
      exact this
  · rw [List.all_cons, List.all_nil, Bool.and_true, List.take_left' rfl]
    congr 1
    rw [List.getD_eq_getElem?_getD, List.getElem?_append_right (Nat.le_refl _), Nat.sub_self]
    rfl
theorem levs_is (brs : List Br) : ∀ k, levs brs k = (tups k).filter (stepB brs)
  | 0 => by
    unfold levs lev0 tups
    rw [List.filter_cons, List.filter_nil]
    have : stepB brs [] = !brs.any (·.em) := by unfold stepB; rw [List.length_nil, List.range_zero, List.all_nil, Bool.and_true]
    rw [this]
    cases brs.any (·.em) <;> rfl
  | k + 1 => by
    show deepen brs (levs brs k) = _
    rw [levs_is brs k]
    unfold deepen
    show _ = ((tups k).flatMap fun p => [0, 1, 2].map fun x => p ++ [x]).filter _
    rw [List.filter_flatMap, flat_filter]
    congr 1
    funext p
    rw [List.filter_map]
    have e : ((stepB brs) ∘ fun x => p ++ [x]) = fun x => stepB brs p && nextB brs p x := funext fun x => stepB_snoc
    rw [e]
    cases hp : stepB brs p with
    | true => simp only [Bool.true_and]; rfl
    | false => simp
end J
/-! The test is: every atom's tuple is a row of its table. -/
namespace J
open PySem PySem.Spec PyProof.Rows L2
def rowsIn (c : Cat) (x : Str) : List Row := match findT c x with | some t => t.rows | none => []
def atmT (order vars : List Str) (t : Row) : Row := vars.map fun v => t.getD (idx order v) 0
def fitsB (c : Cat) (p : Pat) (t : Row) : Bool := p.atoms.all fun a => decide (atmT (pvars p) a.vars t ∈ rowsIn c a.tab)
def valAt (order vars : List Str) (row : Row) (k : Nat) : Int := row.getD (idx vars (order.getD k "")) 0
theorem key_is {order vars : List Str} {row : Row} : keyOf (colsOf order vars) row = (placesOf order vars).map (valAt order vars row) := by
  unfold keyOf colsOf
  rw [List.map_map]
  rfl
theorem places_asc (order vars : List Str) : (placesOf order vars).Pairwise (· < ·) := List.Pairwise.filter _ List.pairwise_lt_range
theorem split_at : ∀ {ps : List Nat} {i : Nat}, ps.Pairwise (· < ·) → i ∈ ps → ∃ rest, ps = ps.filter (fun k => decide (k < i)) ++ i :: rest
  | [], i, _, h => nomatch h
  | a :: ps, i, hp, h => by
    have h2 := List.pairwise_cons.mp hp
    rcases List.mem_cons.mp h with e | e
    · subst e
      refine ⟨ps, ?_⟩
      rw [List.filter_cons, if_neg (by simp), List.filter_eq_nil_iff.mpr fun b hb => by simpa using Nat.le_of_lt (h2.1 b hb)]
      rfl
    · obtain ⟨rest, er⟩ := split_at h2.2 e
      refine ⟨rest, ?_⟩
      rw [List.filter_cons, if_pos (by simpa using h2.1 i e), List.cons_append, ← er]
theorem prefix_at {ps : List Nat} {i : Nat} {f g : Nat → Int} {x : Int} (hp : ps.Pairwise (· < ·)) (hi : i ∈ ps) : (ps.filter (fun k => decide (k < i))).map g ++ [x] <+: ps.map f ↔ (∀ k ∈ ps, k < i → g k = f k) ∧ x = f i := by
  obtain ⟨rest, er⟩ := split_at hp hi
  generalize hq : ps.filter (fun k => decide (k < i)) = qs at *
  have hm : ∀ k, k ∈ qs ↔ k ∈ ps ∧ k < i := fun k => by rw [← hq, List.mem_filter, decide_eq_true_eq]
  rw [er, List.map_append, List.map_cons]
  constructor
  · intro h
    have h3 : qs.map g ++ [x] = qs.map f ++ [f i] := by
      obtain ⟨z, hz⟩ := h
      rw [List.append_assoc] at hz
      have h4 := List.append_inj hz (by rw [List.length_map, List.length_map])
      have h5 := (List.cons.inj h4.2).1
      rw [h4.1, h5]
    have h4 := List.append_inj h3 (by rw [List.length_map, List.length_map])
    refine ⟨fun k hk hlt => ?_, (List.cons.inj h4.2).1⟩
    rw [← er] at hk
    exact List.map_inj_left.mp h4.1 k ((hm k).mpr ⟨hk, hlt⟩)
  · rintro ⟨h1, h2⟩
    refine ⟨rest.map f, ?_⟩
    rw [h2, List.append_assoc, List.map_congr_left fun k hk => h1 k (by rw [← er]; exact ((hm k).mp hk).1) ((hm k).mp hk).2]
    rfl
theorem choices_is {order vars : List Str} {rs : List Row} {pre : Row} {x : Int} (hi : pre.length ∈ placesOf order vars) : choicesOf (placesOf order vars) (rs.map (keyOf (colsOf order vars))) pre x = decide (∃ row ∈ rs, (∀ k ∈ placesOf order vars, k < pre.length → pre.getD k 0 = valAt order vars row k) ∧ x = valAt order vars row pre.length) := by
  unfold choicesOf
  refine decide_eq_decide.mpr ⟨?_, ?_⟩
  · rintro ⟨k, hk, h⟩
    obtain ⟨row, hr, e⟩ := List.mem_map.mp hk
    subst e
    rw [key_is] at h
    exact ⟨row, hr, (prefix_at (places_asc _ _) hi).mp h⟩
  · rintro ⟨row, hr, h⟩
    refine ⟨_, List.mem_map.mpr ⟨row, hr, rfl⟩, ?_⟩
    rw [key_is]
    exact (prefix_at (places_asc _ _) hi).mpr h
theorem idx_getD {order : List Str} {v : Str} (h : v ∈ order) : order.getD (idx order v) "" = v := by
  rw [List.getD_eq_getElem?_getD, (idx_at h).1]
  rfl
theorem agrees_at {vars : List Str} {row : Row} (h : agreesB vars row = true) {j : Nat} (hj : j < vars.length) : row.getD j 0 = row.getD (idx vars (vars.getD j "")) 0 := of_decide_eq_true (List.all_eq_true.mp h j (List.mem_range.mpr hj))
theorem row_ext {r s : Row} {n : Nat} (h1 : r.length = n) (h2 : s.length = n) (h : ∀ j, j < n → r.getD j 0 = s.getD j 0) : r = s := by
  refine List.ext_getElem (by rw [h1, h2]) fun i hi1 hi2 => ?_
  have := h i (by omega)
  rw [List.getD_eq_getElem?_getD, List.getElem?_eq_getElem hi1, List.getD_eq_getElem?_getD, List.getElem?_eq_getElem hi2] at this
  exact this
theorem atmT_at {order vars : List Str} {t : Row} {j : Nat} (hj : j < vars.length) : (atmT order vars t).getD j 0 = t.getD (idx order (vars.getD j "")) 0 := by
  unfold atmT
  rw [List.getD_eq_getElem?_getD, List.getElem?_map, getD_at ("" : Str) hj]
  rfl
theorem atmT_len {order vars : List Str} {t : Row} : (atmT order vars t).length = vars.length := List.length_map ..
theorem step_fits {c : Cat} {p : Pat} (ok : PatOk c p) {t : Row} (ht : t.length = (pvars p).length) : stepB (brsOf c p) t = fitsB c p t := by
  have hno := nodup_pvars p
  rw [Bool.eq_iff_iff]
  unfold stepB fitsB
  rw [Bool.and_eq_true, List.all_eq_true, List.all_eq_true]
  constructor
  · rintro ⟨_, h⟩ a ha
    obtain ⟨tb, t1, t2, _⟩ := ok.tab a ha
    have hin : ∀ v ∈ a.vars, v ∈ pvars p := fun v hv => mem_pvars.mpr ⟨a, ha, hv⟩
    have hpne : placesOf (pvars p) a.vars ≠ [] := by
      obtain ⟨v0, hv0⟩ : ∃ v0, v0 ∈ a.vars := List.exists_mem_of_length_pos (ok.lo a ha)
      have hl := idx_lt (hin v0 hv0)
      exact List.ne_nil_of_mem (mem_places.mpr ⟨hl, by rw [idx_getD (hin v0 hv0)]; exact hv0⟩)
    have hlm := List.getLast_mem hpne
    generalize hi : (placesOf (pvars p) a.vars).getLast hpne = i at hlm
    have hmax : ∀ k ∈ placesOf (pvars p) a.vars, k ≤ i := fun k hk => by
      have hs := List.dropLast_concat_getLast hpne
      have hp := places_asc (pvars p) a.vars
      rw [← hs, hi] at hp hk
      rcases List.mem_append.mp hk with h | h
      · exact Nat.le_of_lt ((List.pairwise_append.mp hp).2.2 k h i List.mem_cons_self)
      · rw [List.mem_singleton.mp h]; exact Nat.le_refl _
    obtain ⟨hil, _⟩ := mem_places.mp hlm
    have hz := h i (List.mem_range.mpr (by omega))
    unfold nextB at hz
    have hpl : (t.take i).length = i := by rw [List.length_take]; omega
    have hb : brOf c (pvars p) a = ⟨placesOf (pvars p) a.vars, (rowsOf tb a.vars).map (keyOf (colsOf (pvars p) a.vars)), decide ((rowsOf tb a.vars).length = 0)⟩ := by unfold brOf; rw [t1]
    have hbm : brOf c (pvars p) a ∈ (brsOf c p).filter fun br => br.places.contains (t.take i).length := List.mem_filter.mpr ⟨List.mem_map.mpr ⟨a, ha, rfl⟩, by rw [hb, hpl]; exact List.contains_iff_mem.mpr hlm⟩
    have hc := List.all_eq_true.mp hz _ hbm
    rw [hb, choices_is (by rw [hpl]; exact hlm)] at hc
    obtain ⟨row, hr, h1, h2⟩ := of_decide_eq_true hc
    rw [hpl] at h1 h2
    obtain ⟨hrt, hag⟩ := List.mem_filter.mp hr
    have hall : ∀ k ∈ placesOf (pvars p) a.vars, t.getD k 0 = valAt (pvars p) a.vars row k := fun k hk => by
      rcases Nat.lt_or_ge k i with hlt | hge
      · have := h1 k hk hlt
        rw [List.getD_eq_getElem?_getD, List.getElem?_take, if_pos hlt, ← List.getD_eq_getElem?_getD] at this
        exact this
      · have : k = i := Nat.le_antisymm (hmax k hk) hge
        rw [this]; exact h2
    have hrl := (t2 row hrt).len
    have e : atmT (pvars p) a.vars t = row := row_ext atmT_len hrl fun j hj => by
      have hvm : a.vars.getD j "" ∈ a.vars := List.mem_of_getElem? (getD_at ("" : Str) hj)
      have hk : idx (pvars p) (a.vars.getD j "") ∈ placesOf (pvars p) a.vars := mem_places.mpr ⟨idx_lt (hin _ hvm), by rw [idx_getD (hin _ hvm)]; exact hvm⟩
      rw [atmT_at hj, hall _ hk, agrees_at hag hj]
      unfold valAt
      rw [idx_getD (hin _ hvm)]
    rw [e]
    unfold rowsIn
    rw [t1]
    exact decide_eq_true hrt
  · intro h
    have key : ∀ a ∈ p.atoms, ∃ tb, findT c a.tab = some tb ∧ atmT (pvars p) a.vars t ∈ rowsOf tb a.vars := fun a ha => by
      obtain ⟨tb, t1, t2, _⟩ := ok.tab a ha
      have hm := of_decide_eq_true (h a ha)
      unfold rowsIn at hm
      rw [t1] at hm
      refine ⟨tb, t1, List.mem_filter.mpr ⟨hm, List.all_eq_true.mpr fun j hj => decide_eq_true ?_⟩⟩
      have hj := List.mem_range.mp hj
      have hvm : a.vars.getD j "" ∈ a.vars := List.mem_of_getElem? (getD_at ("" : Str) hj)
      rw [atmT_at hj, atmT_at (idx_lt hvm), idx_getD hvm]
    refine ⟨?_, fun i hi => ?_⟩
    · rw [Bool.not_eq_true', List.any_eq_false]
      intro br hbr
      obtain ⟨a, ha, e⟩ := List.mem_map.mp hbr
      obtain ⟨tb, t1, hm⟩ := key a ha
      subst e
      unfold brOf
      rw [t1]
      have := List.length_pos_of_mem hm
      simp only [decide_eq_true_eq]
      omega
    · have hi := List.mem_range.mp hi
      unfold nextB
      have hpl : (t.take i).length = i := by rw [List.length_take]; omega
      rw [List.all_eq_true]
      intro br hbr
      obtain ⟨hb1, hb2⟩ := List.mem_filter.mp hbr
      obtain ⟨a, ha, e⟩ := List.mem_map.mp hb1
      obtain ⟨tb, t1, hm⟩ := key a ha
      have hb : brOf c (pvars p) a = ⟨placesOf (pvars p) a.vars, (rowsOf tb a.vars).map (keyOf (colsOf (pvars p) a.vars)), decide ((rowsOf tb a.vars).length = 0)⟩ := by unfold brOf; rw [t1]
      rw [← e, hb] at hb2 ⊢
      have hip := List.contains_iff_mem.mp hb2
      rw [choices_is hip]
      rw [hpl] at hip ⊢
      have hv : ∀ k ∈ placesOf (pvars p) a.vars, t.getD k 0 = valAt (pvars p) a.vars (atmT (pvars p) a.vars t) k := fun k hk => by
        obtain ⟨k1, k2⟩ := mem_places.mp hk
        unfold valAt
        rw [atmT_at (idx_lt k2), idx_getD k2]
        congr 1
        have h1 := idx_at (List.mem_of_getElem? (getD_at ("" : Str) k1))
        have h2 := getD_at ("" : Str) k1
        rcases Nat.lt_trichotomy (idx (pvars p) ((pvars p).getD k "")) k with hlt | heq | hgt
        · have h3 := idx_lt (List.mem_of_getElem? h2)
          have h4 := h1.1
          rw [← h2, List.getElem?_eq_getElem h3, List.getElem?_eq_getElem k1] at h4
          exact absurd ((List.getElem_inj hno).mp (Option.some.inj h4)) (by omega)
        · exact heq.symm
        · exact absurd h2 (h1.2 k hgt)
      refine decide_eq_true ⟨_, hm, fun k hk hlt => ?_, hv i hip⟩
      rw [← hv k hk, List.getD_eq_getElem?_getD, List.getElem?_take, if_pos hlt, ← List.getD_eq_getElem?_getD]
theorem joined_is {c : Cat} {p : Pat} (ok : PatOk c p) : joinedL c p = (tups (pvars p).length).filter (fitsB c p) := by
  unfold joinedL
  rw [levs_is]
  exact List.filter_congr fun t ht => step_fits ok (mem_tups.mp ht).len
end J
/-! The parts of a change add up. -/
namespace J
open PySem PySem.Spec PyProof.Rows L2
/-- one: c1 has the row r in its table x, c0 is without it -/
structure Differ (c0 c1 : Cat) (x : Str) (r : Row) (t : Tab) : Prop where
  at1 : findT c1 x = some t
  mem : r ∈ t.rows
  row : ∀ y, rowsIn c0 y = if y = x then othersOf t r else rowsIn c1 y
theorem fits_iff {c : Cat} {p : Pat} {t : Row} : fitsB c p t = true ↔ ∀ (j : Nat) (b : Atm), p.atoms[j]? = some b → atmT (pvars p) b.vars t ∈ rowsIn c b.tab := by
  unfold fitsB
  rw [List.all_eq_true]
  constructor
  · intro h j b hb
    exact of_decide_eq_true (h b (List.mem_of_getElem? hb))
  · intro h a ha
    obtain ⟨j, hj, e⟩ := List.getElem_of_mem ha
    exact decide_eq_true (h j a (by rw [List.getElem?_eq_getElem hj, e]))
theorem copy_at {p : Pat} {x : Str} {k j : Nat} {b : Atm} (h : p.atoms[j]? = some b) : (copyPat p x k).atoms[j]? = some (copyAtm x k j b) := by
  show (copyAtms x k p.atoms)[j]? = _
  unfold copyAtms
  obtain ⟨hj, e⟩ := List.getElem?_eq_some_iff.mp h
  rw [List.getElem?_map, List.getElem?_range hj]
  show some (copyAtm x k j (p.atoms.getD j _)) = _
  rw [List.getD_eq_getElem?_getD, h]
  rfl
theorem rows_copy {c : Cat} {t : Tab} {r : Row} {x : Str} {k j : Nat} {b : Atm} (hn : b.tab ∈ tabNames) : rowsIn (copyCat c t r) (copyAtm x k j b).tab = if b.tab = x ∧ j ≤ k then (if j = k then [r] else othersOf t r) else rowsIn c b.tab := by
  unfold rowsIn copyAtm
  show (match findT _ (if _ then _ else _) with | some t => t.rows | none => []) = _
  by_cases h : b.tab = x ∧ j ≤ k
  · rw [if_pos h, if_pos h]
    by_cases e : j = k
    · rw [if_pos e, if_pos e, find_copy0]
    · rw [if_neg e, if_neg e, find_copy1]
  · rw [if_neg h, if_neg h, find_copy (fun e => tabNames_ne.1 (by rw [← e]; exact hn)) (fun e => tabNames_ne.2 (by rw [← e]; exact hn))]
    all_goals (cases findT c b.tab <;> rfl)
/-- a part's test -/
theorem fits_copy {c : Cat} {p : Pat} {t : Tab} {r u : Row} {x : Str} {k : Nat} (hn : ∀ a ∈ p.atoms, a.tab ∈ tabNames) : fitsB (copyCat c t r) (copyPat p x k) u = true ↔ ∀ (j : Nat) (b : Atm), p.atoms[j]? = some b → atmT (pvars p) b.vars u ∈ (if b.tab = x ∧ j ≤ k then (if j = k then [r] else othersOf t r) else rowsIn c b.tab) := by
  rw [fits_iff, copy_pvars]
  constructor
  · intro h j b hb
    have := h j _ (copy_at hb)
    rw [rows_copy (hn b (List.mem_of_getElem? hb))] at this
    exact this
  · intro h j b hb
    obtain ⟨b0, hb0⟩ : ∃ b0, p.atoms[j]? = some b0 := by
      have hl : j < (copyPat p x k).atoms.length := (List.getElem?_eq_some_iff.mp hb).1
      have : (copyPat p x k).atoms.length = p.atoms.length := by show (copyAtms x k p.atoms).length = _; unfold copyAtms; rw [List.length_map, List.length_range]
      exact ⟨_, List.getElem?_eq_getElem (by omega : j < p.atoms.length)⟩
    rw [copy_at hb0] at hb
    cases hb
    rw [rows_copy (hn b0 (List.mem_of_getElem? hb0))]
    exact h j b0 hb0
theorem sum_zero {α : Type} {f : α → Nat} : ∀ {xs : List α}, (∀ x ∈ xs, f x = 0) → (xs.map f).sum = 0
  | [], _ => rfl
  | x :: xs, h => by
    rw [List.map_cons, List.sum_cons, h x List.mem_cons_self, sum_zero fun y hy => h y (List.mem_cons_of_mem _ hy)]
theorem ks_asc (p : Pat) (x : Str) : (copyKs p x).Pairwise (· < ·) := List.Pairwise.filter _ List.pairwise_lt_range
theorem mem_ks {p : Pat} {x : Str} {k : Nat} : k ∈ copyKs p x ↔ ∃ b, p.atoms[k]? = some b ∧ b.tab = x := by
  unfold copyKs
  rw [List.mem_filter, List.mem_range, decide_eq_true_eq]
  constructor
  · rintro ⟨h1, h2⟩
    exact ⟨_, getD_at ⟨"", []⟩ h1, h2⟩
  · rintro ⟨b, h1, h2⟩
    refine ⟨(List.getElem?_eq_some_iff.mp h1).1, ?_⟩
    rw [List.getD_eq_getElem?_getD, h1]
    exact h2
theorem mem_others {t : Tab} {r o : Row} : o ∈ othersOf t r ↔ o ∈ t.rows ∧ o ≠ r := by
  unfold othersOf
  rw [List.mem_filter]
  simp
theorem toNat_false {b : Bool} (h : ¬ b = true) : b.toNat = 0 := by
  cases b with
  | true => exact absurd rfl h
  | false => rfl
theorem toNat_true {b : Bool} (h : b = true) : b.toNat = 1 := by rw [h]; rfl
theorem point {c0 c1 : Cat} {p : Pat} {t : Tab} {x : Str} {r u : Row} (d : Differ c0 c1 x r t) (hn : ∀ a ∈ p.atoms, a.tab ∈ tabNames) : ((copyKs p x).map fun k => (fitsB (copyCat c1 t r) (copyPat p x k) u).toNat).sum + (fitsB c0 p u).toNat = (fitsB c1 p u).toNat := by
  have hx1 : rowsIn c1 x = t.rows := by unfold rowsIn; rw [d.at1]
  by_cases h1 : fitsB c1 p u = true
  · have f1 := fits_iff.mp h1
    rw [toNat_true h1]
    cases hfd : (copyKs p x).find? (fun k => decide (atmT (pvars p) ((p.atoms.getD k ⟨"", []⟩).vars) u = r)) with
    | none =>
      have hno := List.find?_eq_none.mp hfd
      have hne : ∀ (k : Nat) (b : Atm), p.atoms[k]? = some b → b.tab = x → atmT (pvars p) b.vars u ≠ r := fun k b hb hbx e => by
        refine hno k (mem_ks.mpr ⟨b, hb, hbx⟩) (decide_eq_true ?_)
        rw [List.getD_eq_getElem?_getD, hb]
        exact e
      have z1 : ∀ k ∈ copyKs p x, (fitsB (copyCat c1 t r) (copyPat p x k) u).toNat = 0 := fun k hk => toNat_false fun hf => by
        obtain ⟨b, hb, hbx⟩ := mem_ks.mp hk
        have := fits_copy hn |>.mp hf k b hb
        rw [if_pos ⟨hbx, Nat.le_refl _⟩, if_pos rfl] at this
        exact hne k b hb hbx (List.mem_singleton.mp this)
      have z2 : fitsB c0 p u = true := fits_iff.mpr fun j b hb => by
        rw [d.row]
        by_cases e : b.tab = x
        · rw [if_pos e]
          refine mem_others.mpr ⟨?_, hne j b hb e⟩
          have := f1 j b hb
          rw [e, hx1] at this
          exact this
        · rw [if_neg e]; exact f1 j b hb
      rw [sum_zero z1, toNat_true z2]
    | some k0 =>
      obtain ⟨hk0, as, bs, hks, has⟩ := List.find?_eq_some_iff_append.mp hfd
      have hk0 := of_decide_eq_true hk0
      have hk0m : k0 ∈ copyKs p x := List.mem_of_find?_eq_some hfd
      obtain ⟨b0, hb0, hb0x⟩ := mem_ks.mp hk0m
      have hb0r : atmT (pvars p) b0.vars u = r := by
        rw [List.getD_eq_getElem?_getD, hb0] at hk0
        exact hk0
      have hpw := ks_asc p x
      rw [hks] at hpw
      have hpw2 := List.pairwise_append.mp hpw
      have hc0 : ¬ fitsB c0 p u = true := fun hf => by
        have := fits_iff.mp hf k0 b0 hb0
        rw [d.row, if_pos hb0x] at this
        exact (mem_others.mp this).2 hb0r
      have has' : ∀ k ∈ as, (fitsB (copyCat c1 t r) (copyPat p x k) u).toNat = 0 := fun k hk => toNat_false fun hf => by
        have hkm : k ∈ copyKs p x := by rw [hks]; exact List.mem_append_left _ hk
        obtain ⟨b, hb, hbx⟩ := mem_ks.mp hkm
        have h2 := fits_copy hn |>.mp hf k b hb
        rw [if_pos ⟨hbx, Nat.le_refl _⟩, if_pos rfl] at h2
        have h3 := has k hk
        rw [List.getD_eq_getElem?_getD, hb] at h3
        have h4 : atmT (pvars p) b.vars u = r := List.mem_singleton.mp h2
        simp [h4] at h3
      have hbs' : ∀ k ∈ bs, (fitsB (copyCat c1 t r) (copyPat p x k) u).toNat = 0 := fun k hk => toNat_false fun hf => by
        have hlt : k0 < k := (List.pairwise_cons.mp hpw2.2.1).1 k hk
        have h2 := fits_copy hn |>.mp hf k0 b0 hb0
        rw [if_pos ⟨hb0x, Nat.le_of_lt hlt⟩, if_neg (by omega)] at h2
        exact (mem_others.mp h2).2 hb0r
      have hmid : fitsB (copyCat c1 t r) (copyPat p x k0) u = true := (fits_copy hn).mpr fun j b hb => by
        by_cases hc : b.tab = x ∧ j ≤ k0
        · rw [if_pos hc]
          by_cases e : j = k0
          · rw [if_pos e]
            subst e
            rw [hb0] at hb; cases hb
            rw [hb0r]; exact List.mem_singleton.mpr rfl
          · rw [if_neg e]
            have hjm : j ∈ copyKs p x := mem_ks.mpr ⟨b, hb, hc.1⟩
            rw [hks] at hjm
            have hja : j ∈ as := by
              rcases List.mem_append.mp hjm with h | h
              · exact h
              · rcases List.mem_cons.mp h with h | h
                · exact absurd h e
                · exact absurd ((List.pairwise_cons.mp hpw2.2.1).1 j h) (by omega)
            have h3 := has j hja
            rw [List.getD_eq_getElem?_getD, hb] at h3
            have h4 : atmT (pvars p) b.vars u ≠ r := by simpa using h3
            have h5 := f1 j b hb
            rw [hc.1, hx1] at h5
            exact mem_others.mpr ⟨h5, h4⟩
        · rw [if_neg hc]; exact f1 j b hb
      rw [hks, List.map_append, List.map_cons, List.sum_append, List.sum_cons, sum_zero has', sum_zero hbs', toNat_true hmid, toNat_false hc0]
  · have hz : ∀ k ∈ copyKs p x, (fitsB (copyCat c1 t r) (copyPat p x k) u).toNat = 0 := fun k _ => toNat_false fun hf => h1 (fits_iff.mpr fun j b hb => by
      have h2 := fits_copy hn |>.mp hf j b hb
      by_cases hc : b.tab = x ∧ j ≤ k
      · rw [if_pos hc] at h2
        rw [hc.1, hx1]
        by_cases e : j = k
        · rw [if_pos e] at h2
          rw [List.mem_singleton.mp h2]; exact d.mem
        · rw [if_neg e] at h2
          exact (mem_others.mp h2).1
      · rw [if_neg hc] at h2; exact h2)
    have hc0 : ¬ fitsB c0 p u = true := fun hf => h1 (fits_iff.mpr fun j b hb => by
      have h2 := fits_iff.mp hf j b hb
      rw [d.row] at h2
      by_cases e : b.tab = x
      · rw [if_pos e] at h2
        rw [e, hx1]
        exact (mem_others.mp h2).1
      · rw [if_neg e] at h2; exact h2)
    rw [sum_zero hz, toNat_false hc0, toNat_false h1]
end J
/-! changes. -/
namespace J
open PySem PySem.Spec PyProof.Rows L2
theorem le_call {X : Cx} {CX : CXT} {k : Nat} {f : Addr} {ps : List Str} {sp : Sp} {E : XK} {x : Str} {p pos : Pos} {a : Expr} {es : List Expr} {σ : L2.St} {H : Hp} {ds : List PyData} {Pr : List V → Hp → Prop} (O : OkF X.prog X.w X.K X.mg X.base CX k f ps sp) (hr : Room k X.A) (hm : X.mg x = some (.ref f)) (hx : Passes CX X E) (ha : AA X (a :: es) σ H Pr)
    (hsp : ∀ vs H2 Q, Same H H2 → Pr vs H2 → (∀ l xs H3, Same H2 H3 → H2 l = none → H3 l = some (.lst xs) → RepL H3 ds xs → Q (.ref l) H3) → sp vs H2 Q E) (hg : Gl X x := by rfl) (hdb : (x == ("__debug__" : Str)) = false := by decide) (he : starEach (a :: es) X.env = (false, eval a X.env) :: starEach es X.env := by rfl) (hpl : (backTo pos (starEach es X.env)).any (·.1) = false := by rfl) : LE X (.Call (.Name x p) (a :: es) [] pos) σ H ds :=
  fun H1 s => we_call O hr hm hx (ha.go s fun vs H2 s2 z => hsp vs H2 _ (s.trans s2) z fun l xs H3 s3 n3 h3 r3 => ⟨s2.trans s3, l, xs, rfl, s2.free n3, h3, r3⟩) hg hdb he hpl
/-- what changes leaves: by name the counts to come or to go -/
def FoundAt (H : Hp) (names : List Str) (n : Str → Nat) (G : Str → Row → Nat) (fk : List (Key × V)) : Prop := fk.map (·.1) = names.map Sum.inr ∧ ∀ y ∈ names, ∃ d kvs, valV fk (.inr y) = some (.ref d) ∧ H d = some (.dT kvs) ∧ CtD (n y) kvs (G y)
section
variable {P : Program} {w : World} {K : PySem.W.Frag} {mg : Str → Option Value} {base : Heap}
def patD (st : KSt) (y : Str) : Pat := (look st.pats y).getD ⟨[], []⟩
def changesS (K : PySem.W.Frag) : Sp := fun vs H Q _ => ∃ (ka : Addr) (vc vx vr : V) (M : List Addr) (st : KSt) (c : Cat) (m : Nat) (x : Str) (r : Row) (t : Tab), vs = [.ref ka, vc, vx, vr] ∧ KAt K H ka M st ∧ Rep H (eCat c) vc ∧ Rep H (.str x) vx ∧ Rep H (eRow r) vr ∧ GCat m c ∧ m ≤ 60 ∧ findT c x = some t ∧ GRow t.cols r ∧ (∀ y p, look st.pats y = some p → GPat c p) ∧
  ∀ fd fk H', Same H H' → H fd = none → H' fd = some (.dK fk) → FoundAt H' (srtS (kNames st)) (fun y => (patD st y).head.length) (fun y => chgG c (patD st y) t x r) fk → (∀ y d, valV fk (.inr y) = some (.ref d) → H d = none) → Q (.ref fd) H'
theorem ok_Keeper_changes (T : Tx K mg) : OkF P w K mg base (L2.CX P w) 9 (He.fAd K ("Keeper", some "changes")) ["self", "catalogue", "table", "row"] (changesS K) := by
  refine mk_Keeper_changes T (fun vs H Q E ⟨_, _, _, _, _, _, _, _, _, _, _, e, _⟩ => by subst e; rfl) (fun cdv A outer s H vs Q E hr ⟨ka, vc, vx, vr, M, st, c, m, x, r, t, e, hK, rc, rx, rr, hg, hm, hf, hgr, hpat, q⟩ => ?_)
  subst e
  obtain ⟨dx, dp, dc, ds, ll, cd, vt, pk, ck, sk, ws, kin, eM⟩ := id hK
  have hu := hu_of hr
  refine wss_cons (ws_set 4 sc_Keeper_changes.nd (we_newK fun fd hfd => ?_))
  have sf : Same H (upd H fd (.dK [])) := .new hfd
  have hnames : (srtS (kNames st)).length ≤ 3 := by
    have := kin.few
    rw [(srtS_perm _).length_eq]
    unfold kNames
    rw [List.length_map]; exact this
  have hnd : (srtS (kNames st)).Nodup := (srtS_perm _).nodup_iff.mpr kin.nd
  refine wss_cons (ws_forN (ds := (srtS (kNames st)).map .str) (passes_of rfl) rfl (le_srtK rfl T.b_sorted (ve_fld (ve_var 0) (sf _ _ kin.ins) T.clKeeper T.no_Keeper_patterns rfl) (sf _ _ kin.hp) (ks := kNames st) (by rw [kin.kp]; unfold kNames; rw [List.map_map]; rfl) (by have := kin.few; unfold kNames; rw [List.length_map]; omega)) (pg_name (i := 5) sc_Keeper_changes.nd rfl (.inl rfl))
    (fun H1 i σ' H' => ∃ (o5 o6 o7 o8 o9 o10 : Option V) (fk : List (Key × V)), σ' = [some (.ref ka), some vc, some vx, some vr, some (.ref fd), o5, o6, o7, o8, o9, o10] ∧ Same H H' ∧ SameB [fd] H1 H' ∧ H1 fd = some (.dK []) ∧ H' fd = some (.dK fk) ∧ FoundAt H' ((srtS (kNames st)).take i) (fun y => (patD st y).head.length) (fun y => chgG c (patD st y) t x r) fk ∧ ∀ y d, valV fk (.inr y) = some (.ref d) → H d = none)
    (fun H1 s1 => ⟨none, none, none, none, none, none, [], rfl, sf.trans s1, .refl _ _, s1 _ _ upd_same, s1 _ _ upd_same, ⟨rfl, fun y hy => by rw [List.take_zero] at hy; cases hy⟩, fun y d e => by cases e⟩) (fun H1 i σ' H' ⟨_, _, _, _, _, _, fk, _, _, b, h1, _⟩ => ⟨kp1 b h1 rfl, fun l xs _ h2 => b l _ h2 fun hm => by rw [List.mem_singleton.mp hm, h1] at h2; cases h2⟩) ?_ ?_)
  · rintro H1 i d v σ' H' s1 hd rd ⟨o5, o6, o7, o8, o9, o10, fk, eσ, s2, b, h1, h2, hF, hfr⟩
    subst eσ
    obtain ⟨y, hy, e⟩ := map_at hd
    subst e
    have hym := List.mem_of_getElem? hy
    have hi : i < 3 := Nat.lt_of_lt_of_le (List.getElem?_eq_some_iff.mp hy).1 hnames
    obtain ⟨p, hp⟩ := look_some (pats := st.pats) ((srtS_perm (kNames st)).mem_iff.mp hym)
    have gp := hpat y p hp
    have epd : patD st y = p := by unfold patD; rw [hp]; rfl
    obtain ⟨vp, hvp, rvp⟩ := (kin.mono s2).pat y p hp
    have hh := gp.hlen
    refine wss_cons (ws_set 6 sc_Keeper_changes.nd (we_newT fun cn hcn => ?_))
    have hcnH : H cn = none := s2.free hcn
    have hcf : cn ≠ fd := fun e => by rw [e, h2] at hcn; cases hcn
    have s3 : Same H' (upd H' cn (.dT [])) := .new hcn
    have hc3 : (upd H' cn (.dT [])) cn = some (.dT []) := upd_same
    generalize upd H' cn (.dT []) = H3 at *
    have s23 := s2.trans s3
    refine wss_cons (ws_nx (fun σ8 H8 => ∃ (o7 o8 o9 o10 : Option V) (kvs : List (List Key × V)), σ8 = [some (.ref ka), some vc, some vx, some vr, some (.ref fd), some v, some (.ref cn), o7, o8, o9, o10] ∧ SameB [cn] H3 H8 ∧ H8 cn = some (.dT kvs) ∧ CtD p.head.length kvs (chgG c p t x r)) (ws_forN (ds := (copyKs p x).map (copyAt c p t x r)) (passes_of rfl) rfl (le_call (ok_with_copies T |>.mono (by decide)) hr T.gwith_copies passL (aa_cons (de_var 1 (rc.mono (.of s23))) (aa_cons (ve_de (ve_dgetK hu (ve_fld (ve_var 0) (s23 _ _ kin.ins) T.clKeeper T.no_Keeper_patterns rfl) (.inl (s23 _ _ kin.hp)) (ve_str (de_var 5 (rd.mono (.of s3)))) hvp) (rvp.mono (.of s3))) (aa_cons (de_var 2 (rx.mono (.of s23))) (aa_cons (de_var 3 (rr.mono (.of s23))) aa_nil)))) fun vs H4 Q s4 rl hq => ?_) (Names2 7 8 rfl sc_Keeper_changes.nd rfl rfl ⟨.inl rfl, .inl rfl⟩ ⟨.inl rfl, .inl rfl⟩)
      (fun H4 j σ4 H5 => ∃ (o7 o8 o9 o10 : Option V) (kvs : List (List Key × V)), σ4 = [some (.ref ka), some vc, some vx, some vr, some (.ref fd), some v, some (.ref cn), o7, o8, o9, o10] ∧ SameB [cn] H3 H5 ∧ SameB [cn] H4 H5 ∧ (∃ z, H4 cn = some (.dT z)) ∧ H5 cn = some (.dT kvs) ∧ CtD p.head.length kvs (sumG c p t x r ((copyKs p x).take j)))
      (fun H4 s4 => ⟨_, _, _, _, [], rfl, .of s4, .refl _ _, ⟨_, s4 _ _ hc3⟩, s4 _ _ hc3, CtD.nil _⟩) (fun H4 j σ4 H5 ⟨_, _, _, _, kvs, _, _, b, ⟨z, h1⟩, _⟩ => ⟨kp1 b h1 rfl, fun l xs _ h2 => b l _ h2 fun hm => by rw [List.mem_singleton.mp hm, h1] at h2; cases h2⟩) ?_ ?_) ?_)
    · obtain ⟨w1, r', e, q1, h⟩ := rl
      subst e
      obtain ⟨w2, w3, w4, e, q2, q3, q4⟩ := h.three
      subst e
      have h3 := hg.few
      have h4 := (hg.tab t (findT_mem hf).1).few
      exact ⟨w1, w2, w3, w4, c, p, x, r, t, rfl, q1, q2, q3, q4, hf, by omega, by omega, gp.few, fun l xs H5 s5 n5 h5 r5 => hq l xs H5 s5 n5 h5 r5⟩
    · rintro H4 j d2 u σ4 H5 s4 hd2 rd2 ⟨o7, o8, o9, o10, kvs, eσ, b3, b4, ⟨z, hz⟩, h5, h6⟩
      subst eσ
      obtain ⟨k, hk, e⟩ := map_at hd2
      subst e
      have ok2 : PatOk (copyCat c t r) (copyPat p x k) := copyOk hg (by omega) gp hf hgr
      refine takes_tup2 (R := fun σ2 => WSs _ _ _ σ2 H5) rd2 (fun ua ub ra rb => ?_) _ fun _ z => z
      have hjl : (joinedL (copyCat c t r) (copyPat p x k)).length ≤ 27 := Nat.le_trans (levs_len _ _) (Nat.pow_le_pow_right (n := 3) (j := 3) (by decide) ok2.olen)
      refine wss_cons (ws_set 9 sc_Keeper_changes.nd (EE.go (ee_call (Pv := fun v H => ∃ d kv, v = V.ref d ∧ H5 d = none ∧ H d = some (.dT kv) ∧ CtD p.head.length kv (partG c p t x r k)) (ok_counted T |>.mono (by decide)) hr T.gcounted passL (aa_cons (de_var 8 rb) (aa_cons (de_ix0 (d := eRows (joinedL (copyCat c t r) (copyPat p x k))) (ee_call (ok_joined T) hr T.gjoined passL (aa_cons (de_var 7 ra) (aa_cons (de_var 8 rb) (aa_cons (de_call (d := eStrs (pvars (copyPat p x k))) (ok_all_variables T |>.mono (by decide)) hr T.gall_variables passL (aa_cons (de_var 8 rb) aa_nil) ⟨copyPat p x k, ⟨ok2.alen, ok2.hi, by have := ok2.hlen; omega⟩, rfl, rfl⟩) (aa_cons de_int aa_nil)))) fun vs H6 Q s6 rr6 hq => ⟨_, joinedL (copyCat c t r) (copyPat p x k), rr6, ⟨copyCat c t r, copyPat p x k, 0, ok2, .inl rfl, rfl, rfl⟩, fun v H7 ns s7 r7 => hq v H7 s7 ⟨[eRow ns], r7⟩⟩)) aa_nil)) fun vs H6 Q s6 rr6 hq => ?_) (Same.refl H5) fun v6 H6 s6 ⟨pd, pk2, e6, n6, h6p, ctp⟩ => ?_))
      · obtain ⟨w1, w2, e, q1, q2⟩ := rr6.two
        subst e
        exact ⟨w1, w2, copyCat c t r, copyPat p x k, joinedL (copyCat c t r) (copyPat p x k), rfl, q1, q2, ok2, fun r hr => brs_dig _ r hr, by omega, fun d kv H8 s8 n8 d8 c8 => hq _ H8 s8 ⟨d, kv, rfl, s6.free n8, d8, c8⟩⟩
      subst e6
      have hpc : pd ≠ cn := fun e => by rw [e, h5] at n6; cases n6
      obtain ⟨rs, k1, k2, k3, k4⟩ := ctp.keys
      have hlen : pk2.length = rs.length := by
        have := congrArg List.length k1
        rwa [List.length_map, List.length_map] at this
      refine wss_one (ws_forKT (passes_of rfl) (fun od => ve_var 9) h6p (pg_name (i := 10) sc_Keeper_changes.nd rfl (.inl rfl)) (fun od i7 σ7 H7 => ∃ (o : Option V) (kv : List (List Key × V)), σ7 = [some (.ref ka), some vc, some vx, some vr, some (.ref fd), some v, some (.ref cn), some ua, some ub, some (.ref pd), o] ∧ SameB [pd, cn] H6 H7 ∧ H7 pd = some (.frz od (.dT pk2)) ∧ H7 cn = some (.dT kv) ∧ CtD p.head.length kv (fun a => sumG c p t x r ((copyKs p x).take j) a + if a ∈ rs.take i7 then partG c p t x r k a else 0)) rfl
        (fun od H7 s7 => ⟨_, kvs, rfl, (SameB.upd (by simp)).trans (.of s7), s7 _ _ upd_same, s7 _ _ (by rw [upd_ne (Ne.symm hpc)]; exact s6 _ _ h5), h6.congr fun a => by rw [List.take_zero, if_neg (by simp), Nat.add_zero]⟩) (fun od i7 σ7 H7 ⟨_, _, _, _, h, _⟩ => h) ?_ ?_)
      · rintro od i7 kk vv bb σ7 H7 hkv hbb ⟨o, kv, eσ, b7, hp7, hc7, ct7⟩
        subst eσ
        have hkr : (pk2.map (·.1))[i7]? = some kk := by rw [List.getElem?_map, hkv]; rfl
        rw [k1] at hkr
        obtain ⟨a, ha, ek⟩ := map_at hkr
        subst ek
        have ham := List.mem_of_getElem? ha
        have hra : Rep H7 (eRow a) (.ref bb) := .ofTupI (by rw [inl_kV] at hbb; exact hbb)
        have hpa : partG c p t x r k a ≠ 0 := (k4 a).mp ham
        have hva : valV pk2 (kI a) = some (.int (partG c p t x r k a : Int)) := by rw [ctp.val, if_neg hpa]
        have hna : a ∉ rs.take i7 := fun hm => by
          obtain ⟨j2, hj2, e⟩ := List.getElem_of_mem hm
          rw [List.length_take] at hj2
          rw [List.getElem_take] at e
          obtain ⟨hi7, e3⟩ := List.getElem?_eq_some_iff.mp ha
          exact absurd ((List.getElem_inj k2).mp (e.trans e3.symm)) (by omega)
        have hkl := ct7.len hh
        have hgt := ct7.get a
        rw [if_neg hna, Nat.add_zero] at hgt
        refine wss_one (ws_dputT hu (r := a) mono_rep (DE.is (d2 := .int ((sumG c p t x r ((copyKs p x).take j) a + partG c p t x r k a : Nat) : Int)) (de_add (de_n ((ve_dget2T hu (ve_var 6) (.inl hc7) (de_var 10 hra) (ve_n de_int) ⟨rfl, rfl, rfl, rfl⟩).imp fun v5 H5 _ e5 => by rw [e5]; exact hgt)) (de_n (ve_dgetT hu (ve_var 9) (.inr ⟨od, hp7⟩) (de_var 10 hra) hva))) rfl) (ve_var 6) hc7 (de_var 10 hra) (by omega) fun v8 H8 s8 e8 => ?_)
        cases (show v8 = _ from e8)
        refine ⟨_, _, rfl, (b7.trans (.of s8)).trans (.upd (by simp)), by rw [upd_ne hpc]; exact s8 _ _ hp7, upd_same, (ct7.set (k3 a ham) (by omega)).congr fun b => ?_⟩
        rw [List.take_add_one, ha, Option.toList_some]
        by_cases eb : b = a
        · subst eb
          rw [if_pos rfl, if_pos (List.mem_append_right _ List.mem_cons_self)]
        · rw [if_neg eb]
          by_cases hb : b ∈ rs.take i7
          · rw [if_pos hb, if_pos (List.mem_append_left _ hb)]
          · rw [if_neg hb, if_neg fun hm => (List.mem_append.mp hm).elim hb fun e => eb (List.mem_singleton.mp e)]
      · rintro od σ7 H7 ⟨o, kv, eσ, b7, hp7, hc7, ct7⟩
        subst eσ
        rw [hlen, List.take_length] at ct7
        have bq : SameB [cn] H5 (upd H7 pd (.dT pk2)) := fun a o h hn => by
          by_cases e : a = pd
          · rw [e, n6] at h; cases h
          · rw [upd_ne e]
            exact b7 a o (s6 _ _ h) fun hm => by
              simp only [List.mem_cons, List.not_mem_nil, or_false] at hm
              exact hm.elim e fun e2 => hn (by rw [e2]; exact List.mem_cons_self)
        refine ⟨_, _, _, _, kv, rfl, b3.trans bq, b4.trans bq, ⟨z, hz⟩, by rw [upd_ne (Ne.symm hpc)]; exact hc7, ct7.congr fun a => ?_⟩
        rw [sumG_snoc hk]
        by_cases ha : a ∈ rs
        · rw [if_pos ha]
        · have : partG c p t x r k a = 0 := by
            by_cases e : partG c p t x r k a = 0
            · exact e
            · exact absurd ((k4 a).mpr e) ha
          rw [if_neg ha, this]
    · rintro H4 σ4 H5 s4 ⟨o7, o8, o9, o10, kvs, eσ, b3, b4, hz, h5, h6⟩
      rw [List.length_map, List.take_length] at h6
      exact ⟨o7, o8, o9, o10, kvs, eσ, b3, h5, h6⟩
    · rintro σ8 H8 ⟨o7, o8, o9, o10, kvs, eσ, b8, h8, ct8⟩
      subst eσ
      have hf8 : H8 fd = some (.dK fk) := b8 _ _ (s3 _ _ h2) fun hm => hcf (List.mem_singleton.mp hm).symm
      have rv8 : Rep H8 (.str y) v := rd
      have hfl : fk.length ≤ 3 := by
        have := congrArg List.length hF.1
        rw [List.length_map, List.length_map, List.length_take] at this
        omega
      have s8 : Same H H8 := same_out s23 b8 fun a ha => by rw [List.mem_singleton.mp ha]; exact hcnH
      refine wss_one (ws_dputK hu (P := fun v _ => v = V.ref cn) (fun _ _ _ _ h => h) (ve_var 6) (ve_var 4) hf8 (ve_str (de_var 5 rv8)) (by omega) fun v9 H9 s9 e9 => ?_)
      subst e9
      have hyn : y ∉ (srtS (kNames st)).take i := fun hm => by
        obtain ⟨j2, hj2, e⟩ := List.getElem_of_mem hm
        rw [List.length_take] at hj2
        rw [List.getElem_take] at e
        obtain ⟨hi7, e3⟩ := List.getElem?_eq_some_iff.mp hy
        exact absurd ((List.getElem_inj hnd).mp (e.trans e3.symm)) (by omega)
      have hvn : valV fk (.inr y) = none := by
        cases e : valV fk (.inr y) with
        | none => rfl
        | some v0 =>
          have z := valV_in e
          rw [hF.1] at z
          obtain ⟨q0, hq, e2⟩ := List.mem_map.mp z
          cases e2
          exact absurd hq hyn
      have up : ∀ a o, H' a = some o → a ≠ fd → (upd H9 fd (.dK (putK fk (Sum.inr y) (.ref cn)))) a = some o := fun a o h hne => by
        rw [upd_ne hne]
        exact s9 _ _ (b8 _ _ (s3 _ _ h) fun hm => by rw [List.mem_singleton.mp hm, hcn] at h; cases h)
      have cn9 : (upd H9 fd (.dK (putK fk (Sum.inr y) (.ref cn)))) cn = some (.dT kvs) := by rw [upd_ne hcf]; exact s9 _ _ h8
      have etk : (srtS (kNames st)).take (i + 1) = (srtS (kNames st)).take i ++ [y] := by rw [List.take_add_one, hy]; rfl
      refine ⟨_, _, _, _, _, _, _, rfl, (s8.trans s9).mut hfd, fun a o h hn => up a o (b a o h hn) fun e => hn (by rw [e]; exact List.mem_cons_self), h1, upd_same, ⟨?_, fun y2 hy2 => ?_⟩, fun y2 d hd => ?_⟩
      · rw [putK_new _ hvn, List.map_append, hF.1, etk, List.map_append]; rfl
      · rw [etk] at hy2
        rcases List.mem_append.mp hy2 with h | h
        · obtain ⟨d, kv, z1, z2, z3⟩ := hF.2 y2 h
          have hne : ¬ (Sum.inr y2 : Key) = .inr y := fun e => by cases e; exact hyn h
          exact ⟨d, kv, by rw [valV_put, if_neg hne]; exact z1, up d _ z2 (fun e => by rw [e, h2] at z2; cases z2), z3⟩
        · rw [List.mem_singleton.mp h]
          exact ⟨cn, kvs, by rw [valV_put, if_pos rfl], cn9, by show CtD (patD st y).head.length kvs (chgG c (patD st y) t x r); rw [epd]; exact ct8⟩
      · rw [valV_put] at hd
        split at hd
        · cases hd; exact hcnH
        · exact hfr y2 d hd
  · rintro H1 σ' H' s1 ⟨o5, o6, o7, o8, o9, o10, fk, eσ, s2, b, h1, h2, hF, hfr⟩
    subst eσ
    rw [List.length_map, List.take_length] at hF
    exact wss_one (ws_ret (EE.go (ve_var 4) (Same.refl H') fun v' H5 s5 e5 => by
      subst e5
      exact q fd fk H5 (s2.trans s5) hfd (s5 _ _ h2) ⟨hF.1, fun y hy => let ⟨d, kv, z1, z2, z3⟩ := hF.2 y hy; ⟨d, kv, z1, s5 _ _ z2, z3⟩⟩ hfr))
end
end J
/-! turn: one pattern's counts go over. -/
namespace J
open PySem PySem.Spec PyProof.Rows L2
theorem CtD.clear {n : Nat} {kvs : List (List Key × V)} {g : Row → Nat} {a : Row} {v : V} (h : CtD n kvs g) (ha : GRow n a) : CtD n (dropK (putK kvs (kI a) v) (kI a)) fun r => if r = a then 0 else g r := by
  obtain ⟨rs, h1, h2, h3, h4⟩ := h.keys
  refine ⟨fun r => ?_, rs.filter fun r => decide (r ≠ a), ?_, h2.sublist List.filter_sublist, fun r hr => h3 r (List.mem_filter.mp hr).1, fun r => ?_⟩
  · rw [valV_drop]
    by_cases e : r = a
    · subst e
      rw [if_pos rfl, if_pos rfl, if_pos rfl]
    · rw [if_neg fun e2 => e (kI_inj e2), if_neg e, valV_put, if_neg fun e2 => e (kI_inj e2), h.val]
  · rw [drop_keys]
    have e1 : (rs.map kI).filter (fun b => decide (b ≠ kI a)) = (rs.filter fun r => decide (r ≠ a)).map kI := by
      rw [List.filter_map]
      congr 2
      funext r
      show decide (kI r ≠ kI a) = decide (r ≠ a)
      exact decide_eq_decide.mpr ⟨fun h e => h (by rw [e]), fun h e => h (kI_inj e)⟩
    rw [← e1, ← h1]
    cases hv : valV kvs (kI a) with
    | some u => rw [put_keys hv]
    | none =>
      rw [putK_new _ hv, List.map_append, List.filter_append]
      show _ ++ List.filter _ [kI a] = _
      rw [List.filter_cons, if_neg (by simp), List.filter_nil, List.append_nil]
  · rw [List.mem_filter, h4]
    by_cases e : r = a
    · rw [if_pos e]; exact ⟨fun z => absurd e (of_decide_eq_true z.2), fun z => absurd rfl z⟩
    · rw [if_neg e]; exact ⟨fun z => z.1, fun z => ⟨z, decide_eq_true e⟩⟩
def stTurn (st : KSt) (x : Str) (g : Row → Nat) (s : Nat) : KSt := ⟨st.cat, st.pats, fun y => if y = x then g else st.cnt y, fun y => if y = x then s else st.size y, st.n⟩
section
variable {P : Program} {w : World} {K : PySem.W.Frag} {mg : Str → Option Value} {base : Heap}
theorem KIn.turn {H Hf : Hp} {ka dx dp dc ds ll : Addr} {cd : Str → Addr} {vt : V} {pk ck sk : List (Key × V)} {kvs : List (List Key × V)} {ws : List V} {st : KSt} {x : Str} {p : Pat} {g : Row → Nat} {sz : Nat} (h : KIn K H ka dx dp dc ds ll cd vt pk ck sk ws st) (hfr : SameB [cd x, ds] H Hf) (hx : look st.pats x = some p)
    (h1 : Hf (cd x) = some (.dT kvs)) (h2 : CtD p.head.length kvs g) (h3 : Hf ds = some (.dK (putK sk (.inr x) (.int (sz : Int))))) : KIn K Hf ka dx dp dc ds ll cd vt pk ck (putK sk (.inr x) (.int (sz : Int))) ws (stTurn st x g sz) := by
  obtain ⟨hck, kv0, hcd, _⟩ := h.cnt x p hx
  have k : Kp H Hf := hfr.kp fun m hm => by
    simp only [List.mem_cons, List.not_mem_nil, or_false] at hm
    rcases hm with e | e <;> subst e
    · exact ⟨_, hcd, rfl⟩
    · exact ⟨_, h.hs, rfl⟩
  have off : ∀ a o, H a = some o → (∀ kvs, o ≠ .dK kvs) → (∀ kvs, o ≠ .dT kvs) → Hf a = some o := fun a o e z z2 => hfr a o e fun hm => by
    simp only [List.mem_cons, List.not_mem_nil, or_false] at hm
    rcases hm with e2 | e2 <;> rw [e2] at e
    · rw [hcd] at e; cases e; exact z2 _ rfl
    · rw [h.hs] at e; cases e; exact z _ rfl
  have offK : ∀ a kvs, H a = some (.dK kvs) → a ≠ ds → Hf a = some (.dK kvs) := fun a kvs e z => hfr a _ e fun hm => by
    simp only [List.mem_cons, List.not_mem_nil, or_false] at hm
    rcases hm with e2 | e2
    · rw [e2, hcd] at e; cases e
    · exact z e2
  have nk : ∀ {y : Str}, y ≠ x → ¬ (Sum.inr y : Key) = .inr x := fun e e2 => e (Sum.inr.inj e2)
  exact
    { ins := off _ _ h.ins nofun nofun, tab := h.tab.mono k, hp := offK _ _ h.hp h.ps, hc := offK _ _ h.hc h.cs, hs := h3, hl := off _ _ h.hl nofun nofun, wl := h.wl, pc := h.pc, ps := h.ps, cs := h.cs, kp := h.kp, kc := h.kc
      ks := by unfold NamedBy; rw [put_keys (h.siz x p hx)]; exact h.ks
      pat := fun y q e => let ⟨vq, z1, z2⟩ := h.pat y q e; ⟨vq, z1, z2.mono k⟩
      cnt := fun y q e => by
        by_cases e1 : y = x
        · subst e1
          have e : look st.pats y = some q := e
          rw [hx] at e; cases e
          refine ⟨hck, kvs, h1, ?_⟩
          show CtD _ _ (if y = y then g else _)
          rw [if_pos rfl]; exact h2
        · obtain ⟨z1, kv, z2, z3⟩ := h.cnt y q e
          refine ⟨z1, kv, hfr _ _ z2 fun hm => ?_, ?_⟩
          · simp only [List.mem_cons, List.not_mem_nil, or_false] at hm
            rcases hm with e2 | e2
            · exact e1 (h.inj y x q p e hx e2)
            · rw [e2, h.hs] at z2; cases z2
          · show CtD _ _ (if y = x then g else _)
            rw [if_neg e1]; exact z3
      siz := fun y q e => by
        by_cases e1 : y = x
        · subst e1
          show _ = some (V.int ((if y = y then sz else _ : Nat) : Int))
          rw [valV_put, if_pos rfl, if_pos rfl]
        · show _ = some (V.int ((if y = x then sz else _ : Nat) : Int))
          rw [valV_put, if_neg (nk e1), if_neg e1]; exact h.siz y q e
      inj := h.inj, nd := h.nd, few := h.few }
def unI (k : List Key) : Row := k.map fun | .inl n => n | .inr _ => 0
theorem unI_kI (a : Row) : unI (kI a) = a := by
  unfold unI kI
  rw [List.map_map]
  exact (List.map_congr_left (g := id) fun _ _ => rfl).trans (List.map_id _)
theorem sum_cast (G : Row → Nat) : ∀ rs : List Row, (rs.map fun a => (G a : Int)).sum = ((rs.map G).sum : Nat)
  | [] => rfl
  | a :: rs => by
    rw [List.map_cons, List.sum_cons, List.map_cons, List.sum_cons, sum_cast G rs]
    omega
def turned (st : KSt) (x : Str) (G : Row → Nat) (sg : Int) (a : Row) : Nat := if sg = 1 then st.cnt x a + G a else st.cnt x a - G a
def turnS (K : PySem.W.Frag) : Sp := fun vs H Q _ => ∃ (ka qc : Addr) (vx : V) (M : List Addr) (st : KSt) (x : Str) (p : Pat) (ckv : List (List Key × V)) (G : Row → Nat) (sg : Int) (S sz : Nat), vs = [.ref ka, vx, .ref qc, .int sg] ∧ KAt K H ka M st ∧ Rep H (.str x) vx ∧ look st.pats x = some p ∧ p.head.length ≤ 3 ∧ H qc = some (.dT ckv) ∧ qc ∉ M ∧ CtD p.head.length ckv G ∧
  (sg = 1 ∨ sg = -1 ∧ ∀ a, G a ≤ st.cnt x a) ∧ (∀ rs : List Row, rs.Nodup → (∀ r, r ∈ rs ↔ G r ≠ 0) → (rs.map G).sum = S) ∧ (sz : Int) = st.size x + sg * S ∧ (∀ a, st.cnt x a ≤ 1000 ∧ G a ≤ 1000) ∧ S ≤ 100000 ∧
  ∀ v H' (gn lo : List Row), SameB M H H' → KAt K H' ka M (stTurn st x (turned st x G sg) sz) → SAsc gn → (∀ a, a ∈ gn ↔ G a ≠ 0 ∧ st.cnt x a = 0) → SAsc lo → (∀ a, a ∈ lo ↔ G a ≠ 0 ∧ turned st x G sg a = 0) → Rep H' (.tuple [eRows gn, eRows lo]) v → Q v H'
theorem ok_Keeper_turn (T : Tx K mg) : OkF P w K mg base (L2.CX P w) 1 (He.fAd K ("Keeper", some "turn")) ["self", "name", "counts", "sign"] (turnS K) := by
  refine mk_Keeper_turn T (fun vs H Q E ⟨_, _, _, _, _, _, _, _, _, _, _, _, e, _⟩ => by subst e; rfl) (fun cdv A outer s H vs Q E hr ⟨ka, qc, vx, M, st, x, p, ckv, G, sg, S, sz, e, hK, rx, hx, hh, hq, hqM, ctG, hsg, hS, hsz, hb, hSb, q⟩ => ?_)
  subst e
  obtain ⟨dx, dp, dc, ds, ll, cd, vt, pk, ck, sk, ws, kin, eM⟩ := id hK
  have hu := hu_of hr
  obtain ⟨hck, kv0, hcd, ct0⟩ := kin.cnt x p hx
  obtain ⟨rs, k1, k2, k3, k4⟩ := ctG.keys
  have hrs := grow_len k3 k2 hh
  have hqne : qc ≠ cd x := fun e => hqM (by
    rw [e, eM]
    exact List.mem_append_right _ (List.mem_map.mpr ⟨(x, p), look_mem hx, rfl⟩))
  have sgv : ∀ a, G a ≠ 0 → (st.cnt x a : Int) + sg * (G a : Int) = (turned st x G sg a : Int) := fun a _ => by
    unfold turned
    rcases hsg with e | ⟨e, hle⟩
    · rw [if_pos e, e]; omega
    · have := hle a
      rw [if_neg (by omega), e]; omega
  refine wss_cons (ws_set 4 sc_Keeper_turn.nd (EE.go (ve_dgetK hu (ve_fld (ve_var 0) kin.ins T.clKeeper T.no_Keeper_counts rfl) (.inl kin.hc) (ve_str (de_var 1 rx)) hck) (Same.refl H) fun v1 H1 s1 e1 => ?_))
  subst e1
  refine wss_cons (ws_set 5 sc_Keeper_turn.nd (LE.go (le_lst aa_nil (by decide)) (Same.refl H1) fun lg ys H2 s2 hng hlg rl2 => ?_))
  obtain rfl : ys = [] := rl2
  refine wss_cons (ws_set 6 sc_Keeper_turn.nd (LE.go (le_lst aa_nil (by decide)) (Same.refl H2) fun lo ys H3 s3 hno hlo rl3 => ?_))
  obtain rfl : ys = [] := rl3
  have s13 := (s1.trans s2).trans s3
  have hgH : H lg = none := s1.free hng
  have hoH : H lo = none := (s1.trans s2).free hno
  have hgo : lg ≠ lo := fun e => by rw [← e, hlg] at hno; cases hno
  have hcd3 := s13 _ _ hcd
  have hq3 := s13 _ _ hq
  have nlg : lg ≠ cd x := fun e => by rw [e, hcd] at hgH; cases hgH
  have nlo : lo ≠ cd x := fun e => by rw [e, hcd] at hoH; cases hoH
  refine wss_cons (ws_forN (ds := (srt rs).map eRow) (passes_of rfl) rfl (le_srtD (rs := rs) (d := p.head.length) (B := 3) rfl T.b_sorted (ve_var 2) hq3 k1 (by omega) (fun h2 => grow_two k3 k2 h2) fun r hr2 => ⟨(k3 r hr2).len, bd3 (k3 r hr2)⟩) (pg_name (i := 7) sc_Keeper_turn.nd rfl (.inl rfl))
    (fun H4 i σ' H' => ∃ (o7 o8 : Option V) (kv : List (List Key × V)) (ga la : List V), σ' = [some (.ref ka), some vx, some (.ref qc), some (.int sg), some (.ref (cd x)), some (.ref lg), some (.ref lo), o7, o8] ∧ SameB [cd x, lg, lo] H3 H' ∧ SameB [cd x, lg, lo] H4 H' ∧ Same H3 H4 ∧ H' (cd x) = some (.dT kv) ∧ CtD p.head.length kv (fun a => if a ∈ (srt rs).take i then turned st x G sg a else st.cnt x a) ∧
      H' lg = some (.lst ga) ∧ ga.length ≤ i ∧ RepL H' ((((srt rs).take i).filter fun a => decide (st.cnt x a = 0)).map eRow) ga ∧ H' lo = some (.lst la) ∧ la.length ≤ i ∧ RepL H' ((((srt rs).take i).filter fun a => decide (turned st x G sg a = 0)).map eRow) la)
    (fun H4 s4 => ⟨none, none, kv0, [], [], rfl, .of s4, .refl _ _, s4, s4 _ _ hcd3, ct0.congr fun a => by rw [List.take_zero, if_neg (by simp)], s4 _ _ (s3 _ _ hlg), Nat.le_refl _, rfl, s4 _ _ hlo, Nat.le_refl _, rfl⟩)
    (fun H4 i σ' H' ⟨_, _, kv, ga, la, _, _, b4, s34, _⟩ => ⟨b4.kp fun m hm => ?_, fun l xs hl1 hl2 => b4 l _ hl2 fun hm => ?_⟩) ?_ ?_)
  · simp only [List.mem_cons, List.not_mem_nil, or_false] at hm
    rcases hm with e | e | e <;> subst e
    · exact ⟨_, s34 _ _ hcd3, rfl⟩
    · exact ⟨_, s34 _ _ (s3 _ _ hlg), rfl⟩
    · exact ⟨_, s34 _ _ hlo, rfl⟩
  · simp only [List.mem_cons, List.not_mem_nil, or_false] at hm
    rcases hm with e | e | e <;> subst e
    · rw [s34 _ _ hcd3] at hl2; cases hl2
    · rw [s3 _ _ hlg] at hl1; cases hl1
    · rw [hlo] at hl1; cases hl1
  · rintro H4 i d v σ' H' s4 hd rd ⟨o7, o8, kv, ga, la, eσ, b3, b4, s34, h1, h2, h3, h3l, h3r, h5, h5l, h5r⟩
    subst eσ
    obtain ⟨a, ha, e⟩ := map_at hd
    subst e
    have ham := mem_srt.mp (List.mem_of_getElem? ha)
    have hGa := (k4 a).mp ham
    have hil : i < (srt rs).length := (List.getElem?_eq_some_iff.mp ha).1
    rw [srt_len] at hil
    have hnd := (srt_sasc k2).nodup
    have hna : a ∉ (srt rs).take i := fun hm => by
      obtain ⟨j2, hj2, e⟩ := List.getElem_of_mem hm
      rw [List.length_take] at hj2
      rw [List.getElem_take] at e
      obtain ⟨hi7, e3⟩ := List.getElem?_eq_some_iff.mp ha
      exact absurd ((List.getElem_inj hnd).mp (e.trans e3.symm)) (by omega)
    have etk : (srt rs).take (i + 1) = (srt rs).take i ++ [a] := by rw [List.take_add_one, ha]; rfl
    have hqn : qc ∉ [cd x, lg, lo] := fun hm => by
      simp only [List.mem_cons, List.not_mem_nil, or_false] at hm
      rcases hm with e | e | e
      · exact hqne e
      · rw [e, hgH] at hq; cases hq
      · rw [e, hoH] at hq; cases hq
    have hq' := b3 _ _ hq3 hqn
    have hva : valV ckv (kI a) = some (.int (G a : Int)) := by rw [ctG.val, if_neg hGa]
    have hg1 : (valV kv (kI a)).getD (.int 0) = .int (st.cnt x a : Int) := by
      have := h2.get a
      rw [if_neg hna] at this
      exact this
    have hv1 : (valV kv (kI a)).isSome = !decide (st.cnt x a = 0) := by
      have := h2.val a
      rw [if_neg hna] at this
      rw [this]
      by_cases e : st.cnt x a = 0
      · rw [if_pos e, decide_eq_true e]; rfl
      · rw [if_neg e, decide_eq_false e]; rfl
    have hga := k3 a ham
    obtain ⟨hb1, hb2⟩ := hb a
    refine wss_cons (ws_de (d := .int (turned st x G sg a : Int)) 8 sc_Keeper_turn.nd (DE.is (de_add (de_n ((ve_dget2T hu (ve_var 4) (.inl h1) (de_var 7 rd) (ve_n de_int) ⟨rfl, rfl, rfl, rfl⟩).imp fun v5 H5 _ e5 => by rw [e5]; exact hg1)) (de_mul (de_var (d := .int sg) 3 rfl) (de_n (ve_dgetT hu (ve_var 2) (.inl hq') (de_var 7 rd) hva)) (.inl (by rcases hsg with e | ⟨e, _⟩ <;> rw [e] <;> decide)))) (congrArg PyData.int (sgv a hGa))) fun v6 H6 s6 e6 => ?_)
    cases (show v6 = _ from e6)
    have rd6 := rd.mono (.of s6)
    have hkl := h2.len hh
    refine wss_cons (ws_nx (fun σ8 H8 => ∃ ga2, σ8 = [some (.ref ka), some vx, some (.ref qc), some (.int sg), some (.ref (cd x)), some (.ref lg), some (.ref lo), some v, some (.int (turned st x G sg a : Int))] ∧ SameB [lg] H6 H8 ∧ Kp H6 H8 ∧ H8 lg = some (.lst ga2) ∧ ga2.length ≤ i + 1 ∧ RepL H8 ((((srt rs).take (i + 1)).filter fun a => decide (st.cnt x a = 0)).map eRow) ga2) (ws_if (BT.go (bt_cmp (ce_dninT hu (de_var 7 rd6) (ve_var 4) (.inl (s6 _ _ h1)))) (Same.refl H6) fun H7 s7 => ?_)) ?_)
    · rw [hv1, Bool.not_not]
      by_cases ez : st.cnt x a = 0
      · rw [decide_eq_true ez, if_pos rfl]
        refine wss_one (ws_app (ve_var 5) (s7 _ _ (s6 _ _ h3)) (by omega) (de_var 7 (rd6.mono (.of s7))) fun v9 H9 s9 r9 => ?_)
        have ku : Kp H9 (upd H9 lg (.lst (ga ++ [v9]))) := .upd (s9 _ _ (s7 _ _ (s6 _ _ h3))) rfl
        refine ⟨ga ++ [v9], rfl, (SameB.of (s7.trans s9)).trans (.upd (by simp)), (Kp.of (s7.trans s9)).trans ku, upd_same, by rw [List.length_append]; show _ + 1 ≤ _; omega, ?_⟩
        rw [etk, List.filter_append, List.filter_cons, if_pos (decide_eq_true ez), List.filter_nil, List.map_append]
        exact (h3r.mono ((Kp.of ((s6.trans s7).trans s9)).trans ku)).snoc (r9.mono ku)
      · rw [decide_eq_false ez, if_neg (by decide)]
        refine wss_nil ⟨ga, rfl, .of s7, .of s7, s7 _ _ (s6 _ _ h3), by omega, ?_⟩
        rw [etk, List.filter_append, List.filter_cons, if_neg (by rw [decide_eq_false ez]; decide), List.filter_nil, List.append_nil]
        exact h3r.mono (.of (s6.trans s7))
    · rintro σ8 H8 ⟨ga2, eσ, b8, kp8, g1, g2, g3⟩
      subst eσ
      have h18 := b8 _ _ (s6 _ _ h1) fun hm => nlg (List.mem_singleton.mp hm).symm
      have h58 := b8 _ _ (s6 _ _ h5) fun hm => hgo (List.mem_singleton.mp hm).symm
      have rd8 := rd6.mono kp8
      have bb8 : SameB [cd x, lg, lo] H' H8 := (SameB.of s6).trans (b8.wide fun m hm => by rw [List.mem_singleton.mp hm]; simp)
      refine wss_cons (ws_dputT hu (r := a) mono_rep (de_var (d := .int (turned st x G sg a : Int)) 8 rfl) (ve_var 4) h18 (de_var 7 rd8) (by omega) fun v9 H9 s9 e9 => ?_)
      cases (show v9 = _ from e9)
      have k9 : Kp H8 (upd H9 (cd x) (.dT (putK kv (kI a) (.int (turned st x G sg a : Int))))) := (Kp.of s9).trans (.upd (s9 _ _ h18) rfl)
      have b9 : SameB [cd x, lg, lo] H8 (upd H9 (cd x) (.dT (putK kv (kI a) (.int (turned st x G sg a : Int))))) := (SameB.of s9).trans (.upd (by simp))
      have t9 : (upd H9 (cd x) (.dT (putK kv (kI a) (.int (turned st x G sg a : Int))))) (cd x) = some (.dT (putK kv (kI a) (.int (turned st x G sg a : Int)))) := upd_same
      have g9 : (upd H9 (cd x) (.dT (putK kv (kI a) (.int (turned st x G sg a : Int))))) lg = some (.lst ga2) := by rw [upd_ne nlg]; exact s9 _ _ g1
      have l9 : (upd H9 (cd x) (.dT (putK kv (kI a) (.int (turned st x G sg a : Int))))) lo = some (.lst la) := by rw [upd_ne nlo]; exact s9 _ _ h58
      generalize upd H9 (cd x) (.dT (putK kv (kI a) (.int (turned st x G sg a : Int)))) = H10 at *
      have rd10 := rd8.mono k9
      have g310 := g3.mono k9
      have h5r10 := (h5r.mono (.of s6)).mono (kp8.trans k9)
      have bb10 := (b3.trans bb8).trans b9
      have bb10' := (b4.trans bb8).trans b9
      refine wss_one (ws_if (BT.go (bt_cmp (ce_eq (de_var (d := .int (turned st x G sg a : Int)) 8 rfl) de_int)) (Same.refl H10) fun H11 s11 => ?_))
      by_cases ez : turned st x G sg a = 0
      · rw [decide_eq_true (by omega), if_pos rfl]
        refine wss_cons (ws_app (ve_var 6) (s11 _ _ l9) (by omega) (de_var 7 (rd10.mono (.of s11))) fun v12 H12 s12 r12 => ?_)
        have ku : Kp H12 (upd H12 lo (.lst (la ++ [v12]))) := .upd (s12 _ _ (s11 _ _ l9)) rfl
        have s1112 := s11.trans s12
        have t13 : (upd H12 lo (.lst (la ++ [v12]))) (cd x) = some (.dT (putK kv (kI a) (.int (turned st x G sg a : Int)))) := by rw [upd_ne (Ne.symm nlo)]; exact s1112 _ _ t9
        have g13 : (upd H12 lo (.lst (la ++ [v12]))) lg = some (.lst ga2) := by rw [upd_ne hgo]; exact s1112 _ _ g9
        have l13 : (upd H12 lo (.lst (la ++ [v12]))) lo = some (.lst (la ++ [v12])) := upd_same
        have b13 : SameB [cd x, lg, lo] H10 (upd H12 lo (.lst (la ++ [v12]))) := (SameB.of s1112).trans (.upd (by simp))
        have k13 : Kp H10 (upd H12 lo (.lst (la ++ [v12]))) := (Kp.of s1112).trans ku
        have r13 : Rep (upd H12 lo (.lst (la ++ [v12]))) (eRow a) v12 := r12.mono ku
        generalize upd H12 lo (.lst (la ++ [v12])) = H13 at *
        refine wss_one (ws_delT hu (EE.go (ve_var 4) (Same.refl H13) fun v14 H14 s14 e14 => EE.go (de_var 7 ((rd10.mono k13).mono (.of s14))) (Same.refl H14) fun v15 H15 s15 r15 => ?_))
        obtain ⟨bq, eb, hbq⟩ := r15.tupI
        subst e14 eb
        have s1315 := s14.trans s15
        have ku2 : Kp H15 (upd H15 (cd x) (.dT (dropK (putK kv (kI a) (.int (turned st x G sg a : Int))) (kI a)))) := .upd (s1315 _ _ t13) rfl
        have k15 := (k13.trans (.of s1315)).trans ku2
        refine ⟨cd x, bq, _, kI a, rfl, rfl, s1315 _ _ t13, keyT hbq, by rw [valV_put, if_pos rfl]; rfl, ?_⟩
        have b15 : SameB [cd x, lg, lo] H10 (upd H15 (cd x) (.dT (dropK (putK kv (kI a) (.int (turned st x G sg a : Int))) (kI a)))) := (b13.trans (.of s1315)).trans (.upd (by simp))
        refine ⟨_, _, _, ga2, la ++ [v12], rfl, bb10.trans b15, bb10'.trans b15, s34, upd_same, (h2.clear hga).congr fun b => ?_, by rw [upd_ne nlg]; exact s1315 _ _ g13, by omega, g310.mono k15, by rw [upd_ne nlo]; exact s1315 _ _ l13, by rw [List.length_append]; show _ + 1 ≤ _; omega, ?_⟩
        · rw [etk]
          by_cases eb : b = a
          · subst eb; rw [if_pos rfl, if_pos (List.mem_append_right _ List.mem_cons_self), ez]
          · rw [if_neg eb]
            by_cases hb3 : b ∈ (srt rs).take i
            · rw [if_pos hb3, if_pos (List.mem_append_left _ hb3)]
            · rw [if_neg hb3, if_neg fun hm => (List.mem_append.mp hm).elim hb3 fun e => eb (List.mem_singleton.mp e)]
        · rw [etk, List.filter_append, List.filter_cons, if_pos (decide_eq_true ez), List.filter_nil, List.map_append]
          exact (h5r10.mono k15).snoc (r13.mono ((Kp.of s1315).trans ku2))
      · rw [decide_eq_false (by omega), if_neg (by decide)]
        refine wss_nil ⟨_, _, _, ga2, la, rfl, bb10.trans (.of s11), bb10'.trans (.of s11), s34, s11 _ _ t9, (h2.set hga (Nat.pos_of_ne_zero ez)).congr fun b => ?_, s11 _ _ g9, g2, g310.mono (.of s11), s11 _ _ l9, by omega, ?_⟩
        · rw [etk]
          by_cases eb : b = a
          · subst eb; rw [if_pos rfl, if_pos (List.mem_append_right _ List.mem_cons_self)]
          · rw [if_neg eb]
            by_cases hb3 : b ∈ (srt rs).take i
            · rw [if_pos hb3, if_pos (List.mem_append_left _ hb3)]
            · rw [if_neg hb3, if_neg fun hm => (List.mem_append.mp hm).elim hb3 fun e => eb (List.mem_singleton.mp e)]
        · rw [etk, List.filter_append, List.filter_cons, if_neg (by rw [decide_eq_false ez]; decide), List.filter_nil, List.append_nil]
          exact h5r10.mono (.of s11)
  · rintro H4 σ' H' s4 ⟨o7, o8, kv, ga, la, eσ, b3, b4, s34, h1, h2, h3, h3l, h3r, h5, h5l, h5r⟩
    subst eσ
    rw [List.length_map, List.take_length] at h2 h3r h5r
    have keep : ∀ a o, H a = some o → a ≠ cd x → H' a = some o := fun a o h hne => b3 a o (s13 _ _ h) fun hm => by
      simp only [List.mem_cons, List.not_mem_nil, or_false] at hm
      rcases hm with e | e | e
      · exact hne e
      · rw [e, hgH] at h; cases h
      · rw [e, hoH] at h; cases h
    have i' := keep _ _ kin.ins fun e => by rw [← e, kin.ins] at hcd; cases hcd
    have hds' := keep _ _ kin.hs fun e => by rw [← e, kin.hs] at hcd; cases hcd
    have hq' := keep _ _ hq hqne
    have rx' : Rep H' (.str x) vx := rx
    have hskl := named_len kin.ks
    have hfew := kin.few
    refine wss_cons (ws_dputK hu mono_rep (DE.is (d2 := .int (sz : Int)) (de_add (de_n (ve_dgetK hu (ve_fld (ve_var 0) i' T.clKeeper T.no_Keeper_sizes rfl) (.inl hds') (ve_str (de_var 1 rx')) (kin.siz x p hx))) (de_mul (de_var (d := .int sg) 3 rfl) (de_sum (ns := ckv.map fun kv => (G (unI kv.1) : Int)) rfl T.b_sum (LE.lv (le_mKT n_Keeper_turn (defScope s_Keeper_turn) 7 (fun kv => (G (unI kv.1) : Int)) rfl sc_Keeper_turn.nd (fun H1 od s => ve_var 2) hq' (by have := ctG.len hh; omega) fun H6 od kv2 b H7 hkv s6 s7 hb7 => ?_))) (.inl (by rcases hsg with e | ⟨e, _⟩ <;> rw [e] <;> decide)))) ?_) (ve_fld (ve_var 0) i' T.clKeeper T.no_Keeper_sizes rfl) hds' (ve_str (de_var 1 rx')) (by omega) fun v6 H6 s6 e6 => ?_)
    · have hk1 : kv2.1 ∈ ckv.map (·.1) := List.mem_map.mpr ⟨kv2, hkv, rfl⟩
      rw [k1] at hk1
      obtain ⟨a, ham, ea⟩ := List.mem_map.mp hk1
      rw [← ea] at hb7 ⊢
      rw [unI_kI]
      have hva : valV ckv (kI a) = some (.int (G a : Int)) := by rw [ctG.val, if_neg ((k4 a).mp ham)]
      intro s8 H8 C cl fp
      exact de_n (ve_dgetT hu (ve_var 2) (.inr ⟨od, s7 _ _ upd_same⟩) (de_var (d := eRow a) 7 (.ofTupI (by rw [inl_kV] at hb7; exact hb7))) hva)
    · have e1 : (ckv.map fun kv => (G (unI kv.1) : Int)) = rs.map fun a => (G a : Int) := by
        rw [show (ckv.map fun kv => (G (unI kv.1) : Int)) = (ckv.map (·.1)).map (fun k => (G (unI k) : Int)) by rw [List.map_map]; rfl, k1, List.map_map]
        refine List.map_congr_left fun a _ => ?_
        show (G (unI (kI a)) : Int) = _
        rw [unI_kI]
      rw [e1, sum_cast, hS rs k2 k4, hsz]
    cases (show v6 = _ from e6)
    have hdl : lg ≠ ds := fun e => by rw [e, kin.hs] at hgH; cases hgH
    have hdo : lo ≠ ds := fun e => by rw [e, kin.hs] at hoH; cases hoH
    have hdc : cd x ≠ ds := fun e => by rw [e, kin.hs] at hcd; cases hcd
    have ku : Kp H6 (upd H6 ds (.dK (putK sk (Sum.inr x) (.int (sz : Int))))) := .upd (s6 _ _ hds') rfl
    have kin7 := kin.turn (Hf := upd H6 ds (.dK (putK sk (Sum.inr x) (.int (sz : Int))))) (kvs := kv) (g := turned st x G sg) (sz := sz) (fun a o h hn => by
      rw [upd_ne fun e => hn (by rw [e]; simp)]
      exact s6 _ _ (keep a o h fun e => hn (by rw [e]; simp))) hx (by rw [upd_ne hdc]; exact s6 _ _ h1) (h2.congr fun a => by
      by_cases ha : a ∈ srt rs
      · rw [if_pos ha]
      · rw [if_neg ha]
        have hz : G a = 0 := by
          by_cases e : G a = 0
          · exact e
          · exact absurd (mem_srt.mpr ((k4 a).mpr e)) ha
        unfold turned
        rw [hz]; split <;> simp) upd_same
    have g7 : (upd H6 ds (.dK (putK sk (Sum.inr x) (.int (sz : Int))))) lg = some (.lst ga) := by rw [upd_ne hdl]; exact s6 _ _ h3
    have l7 : (upd H6 ds (.dK (putK sk (Sum.inr x) (.int (sz : Int))))) lo = some (.lst la) := by rw [upd_ne hdo]; exact s6 _ _ h5
    have hbM : SameB M H (upd H6 ds (.dK (putK sk (Sum.inr x) (.int (sz : Int))))) := fun a o h hn => by
      rw [upd_ne fun e => hn (by rw [e, eM]; exact kM_dicts ds (by simp))]
      refine s6 _ _ (keep a o h fun e => hn ?_)
      rw [e, eM]
      exact List.mem_append_right _ (List.mem_map.mpr ⟨(x, p), look_mem hx, rfl⟩)
    have r3 := (h3r.mono (.of s6)).mono ku
    have r5 := (h5r.mono (.of s6)).mono ku
    generalize upd H6 ds (.dK (putK sk (Sum.inr x) (.int (sz : Int)))) = H7 at *
    refine wss_one (ws_ret ((de_tup (aa_cons (de_tuple T.b_tuple (ve_lv (ve_var 5) (SqL.of g7) r3)) (aa_cons (de_tuple T.b_tuple (ve_lv (ve_var 6) (SqL.of l7) r5)) aa_nil)) rfl (by show 2 ≤ 100000; decide)).go (Same.refl H7) fun v8 H8 s8 r8 => ?_))
    have hsa := srt_sasc k2
    refine q v8 H8 _ _ (hbM.trans (.of s8)) ⟨dx, dp, dc, ds, ll, cd, vt, pk, ck, _, ws, kin7.mono s8, by rw [eM]; rfl⟩ (hsa.sublist List.filter_sublist) (fun a => ?_) (hsa.sublist List.filter_sublist) (fun a => ?_) r8
    · rw [List.mem_filter, mem_srt, k4, decide_eq_true_eq]
    · rw [List.mem_filter, mem_srt, k4, decide_eq_true_eq]
end
end J
/-! turn_all. -/
namespace J
open PySem PySem.Spec PyProof.Rows L2
/-- what is told of one name -/
structure TellOf (st : KSt) (y : Str) (G : Row → Nat) (sg : Int) (gn lo : List Row) : Prop where
  ga : SAsc gn
  gm : ∀ a, a ∈ gn ↔ G a ≠ 0 ∧ st.cnt y a = 0
  la : SAsc lo
  lm : ∀ a, a ∈ lo ↔ G a ≠ 0 ∧ turned st y G sg a = 0
/-- the state when the names of ys have gone over -/
def stAll (st : KSt) (G : Str → Row → Nat) (sg : Int) (sz : Str → Nat) (ys : List Str) : KSt := ⟨st.cat, st.pats, fun y => if y ∈ ys then turned st y (G y) sg else st.cnt y, fun y => if y ∈ ys then sz y else st.size y, st.n⟩
def tellD (y : Str) (gl : List Row × List Row) : PyData := .tuple [.str y, eRows gl.1, eRows gl.2]
def tellAll (ys : List Str) (gl : Str → List Row × List Row) : List PyData := (ys.filter fun y => decide (0 < (gl y).1.length + (gl y).2.length)).map fun y => tellD y (gl y)
theorem stAll_snoc {st : KSt} {G : Str → Row → Nat} {sg : Int} {sz : Str → Nat} {ys : List Str} {y : Str} (h : y ∉ ys) : stTurn (stAll st G sg sz ys) y (turned (stAll st G sg sz ys) y (G y) sg) (sz y) = stAll st G sg sz (ys ++ [y]) := by
  have e1 : turned (stAll st G sg sz ys) y (G y) sg = turned st y (G y) sg := by
    funext a
    unfold turned stAll
    show (if sg = 1 then (if y ∈ ys then _ else st.cnt y) a + _ else (if y ∈ ys then _ else st.cnt y) a - _) = _
    rw [if_neg h]
  unfold stTurn stAll
  rw [show turned ⟨st.cat, st.pats, fun y => if y ∈ ys then turned st y (G y) sg else st.cnt y, fun y => if y ∈ ys then sz y else st.size y, st.n⟩ y (G y) sg = turned st y (G y) sg from e1]
  congr 1
  · funext z
    by_cases e : z = y
    · subst e
      rw [if_pos rfl, if_pos (List.mem_append_right _ List.mem_cons_self)]
    · rw [if_neg e]
      show (if z ∈ ys then _ else _) = _
      by_cases hz : z ∈ ys
      · rw [if_pos hz, if_pos (List.mem_append_left _ hz)]
      · rw [if_neg hz, if_neg fun hm => (List.mem_append.mp hm).elim hz fun e2 => e (List.mem_singleton.mp e2)]
  · funext z
    by_cases e : z = y
    · subst e
      rw [if_pos rfl, if_pos (List.mem_append_right _ List.mem_cons_self)]
    · rw [if_neg e]
      show (if z ∈ ys then _ else _) = _
      by_cases hz : z ∈ ys
      · rw [if_pos hz, if_pos (List.mem_append_left _ hz)]
      · rw [if_neg hz, if_neg fun hm => (List.mem_append.mp hm).elim hz fun e2 => e (List.mem_singleton.mp e2)]
theorem tell_snoc {ys : List Str} {y : Str} {gl gl2 : Str → List Row × List Row} (h : ∀ z ∈ ys, gl2 z = gl z) : tellAll (ys ++ [y]) gl2 = tellAll ys gl ++ if 0 < (gl2 y).1.length + (gl2 y).2.length then [tellD y (gl2 y)] else [] := by
  unfold tellAll
  rw [List.filter_append, List.map_append, List.filter_cons]
  have e1 : (ys.filter fun y => decide (0 < (gl2 y).1.length + (gl2 y).2.length)).map (fun y => tellD y (gl2 y)) = (ys.filter fun y => decide (0 < (gl y).1.length + (gl y).2.length)).map fun y => tellD y (gl y) := by
    rw [List.filter_congr (q := fun y => decide (0 < (gl y).1.length + (gl y).2.length)) fun z hz => by rw [h z hz]]
    exact List.map_congr_left fun z hz => by rw [h z (List.mem_filter.mp hz).1]
  rw [e1]
  by_cases e : 0 < (gl2 y).1.length + (gl2 y).2.length
  · rw [if_pos e, if_pos (decide_eq_true e)]; rfl
  · rw [if_neg e, if_neg (by rw [decide_eq_false e]; decide)]; rfl
section
variable {P : Program} {w : World} {K : PySem.W.Frag} {mg : Str → Option Value} {base : Heap}
def turnAllS (K : PySem.W.Frag) : Sp := fun vs H Q _ => ∃ (ka fd : Addr) (M : List Addr) (st : KSt) (fk : List (Key × V)) (G : Str → Row → Nat) (sg : Int) (S sz : Str → Nat), vs = [.ref ka, .ref fd, .int sg] ∧ KAt K H ka M st ∧ H fd = some (.dK fk) ∧ FoundAt H (srtS (kNames st)) (fun y => (patD st y).head.length) G fk ∧ fd ∉ M ∧ (∀ y d, valV fk (.inr y) = some (.ref d) → d ∉ M) ∧
  (∀ y p, look st.pats y = some p → p.head.length ≤ 3 ∧ (sg = 1 ∨ sg = -1 ∧ ∀ a, G y a ≤ st.cnt y a) ∧ (∀ rs : List Row, rs.Nodup → (∀ r, r ∈ rs ↔ G y r ≠ 0) → (rs.map (G y)).sum = S y) ∧ (sz y : Int) = st.size y + sg * S y ∧ (∀ a, st.cnt y a ≤ 1000 ∧ G y a ≤ 1000) ∧ S y ≤ 100000) ∧
  ∀ v H' gl, SameB M H H' → KAt K H' ka M (stAll st G sg sz (srtS (kNames st))) → (∀ y ∈ kNames st, TellOf st y (G y) sg (gl y).1 (gl y).2) → Rep H' (.tuple (tellAll (srtS (kNames st)) gl)) v → Q v H'
theorem KAt.keep {H H' : Hp} {ka : Addr} {M : List Addr} {st : KSt} (h : KAt K H ka M st) (k : Kp H H') (hm : ∀ m ∈ M, ∀ o, H m = some o → H' m = some o) : KAt K H' ka M st := by
  obtain ⟨dx, dp, dc, ds, ll, cd, vt, pk, ck, sk, ws, h, e⟩ := h
  subst e
  have hb : ∀ m ∈ [ka, dp, dc, ds, ll], ∀ o, H m = some o → H' m = some o := fun m hm2 => hm m (List.mem_append_left _ hm2)
  refine ⟨dx, dp, dc, ds, ll, cd, vt, pk, ck, sk, ws, ?_, rfl⟩
  exact { ins := hb _ (by simp) _ h.ins, tab := h.tab.mono k, hp := hb _ (by simp) _ h.hp, hc := hb _ (by simp) _ h.hc, hs := hb _ (by simp) _ h.hs, hl := hb _ (by simp) _ h.hl, wl := h.wl, pc := h.pc, ps := h.ps, cs := h.cs, kp := h.kp, kc := h.kc, ks := h.ks
          pat := fun x p e => let ⟨vp, h1, h2⟩ := h.pat x p e; ⟨vp, h1, h2.mono k⟩
          cnt := fun x p e => let ⟨h1, kvs, h2, h3⟩ := h.cnt x p e; ⟨h1, kvs, hm _ (List.mem_append_right _ (List.mem_map.mpr ⟨(x, p), look_mem e, rfl⟩)) _ h2, h3⟩
          siz := h.siz, inj := h.inj, nd := h.nd, few := h.few }
theorem ok_Keeper_turn_all (T : Tx K mg) : OkF P w K mg base (L2.CX P w) 2 (He.fAd K ("Keeper", some "turn_all")) ["self", "changes", "sign"] (turnAllS K) := by
  refine mk_Keeper_turn_all T (fun vs H Q E ⟨_, _, _, _, _, _, _, _, _, e, _⟩ => by subst e; rfl) (fun cdv A outer s H vs Q E hr ⟨ka, fd, M, st, fk, G, sg, S, sz, e, hK, hfd, hF, hfM, hdM, hy, q⟩ => ?_)
  subst e
  have hu := hu_of hr
  obtain ⟨dx, dp, dc, ds, ll, cd, vt, pk, ck, sk, ws, kin, eM⟩ := id hK
  have hN3 : (srtS (kNames st)).length ≤ 3 := by
    have := kin.few
    rw [(srtS_perm _).length_eq]
    unfold kNames
    rw [List.length_map]; exact this
  have hnd : (srtS (kNames st)).Nodup := (srtS_perm _).nodup_iff.mpr kin.nd
  refine wss_cons (ws_set 3 sc_Keeper_turn_all.nd (LE.go (le_lst aa_nil (by decide)) (Same.refl H) fun tl ys H1 s1 hn1 hl1 rl1 => ?_))
  obtain rfl : ys = [] := rl1
  have htM : tl ∉ M := fun hm => by
    obtain ⟨u, h, _⟩ := hK.loose tl hm
    rw [hn1] at h; cases h
  refine wss_cons (ws_forN (ds := (srtS (kNames st)).map .str) (passes_of rfl) rfl (LE.is (le_srtK rfl T.b_sorted (ve_var 1) (s1 _ _ hfd) (ks := srtS (kNames st)) hF.1 (by omega)) (by rw [srtS_congr (srtS_perm (kNames st))])) (pg_name (i := 4) sc_Keeper_turn_all.nd rfl (.inl rfl))
    (fun H2 i σ' H' => ∃ (o4 o5 o6 : Option V) (gl : Str → List Row × List Row) (acc : List V), σ' = [some (.ref ka), some (.ref fd), some (.int sg), some (.ref tl), o4, o5, o6] ∧ Same H1 H2 ∧ SameB (tl :: M) H2 H' ∧ KAt K H' ka M (stAll st G sg sz ((srtS (kNames st)).take i)) ∧ (∀ y ∈ (srtS (kNames st)).take i, TellOf st y (G y) sg (gl y).1 (gl y).2) ∧ H' tl = some (.lst acc) ∧ acc.length ≤ i ∧ RepL H' (tellAll ((srtS (kNames st)).take i) gl) acc)
    (fun H2 s2 => ⟨none, none, none, fun _ => ([], []), [], rfl, s2, .refl _ _, by
      rw [List.take_zero]
      exact hK.mono (s1.trans s2), (fun y hy => by rw [List.take_zero] at hy; cases hy), s2 _ _ hl1, Nat.le_refl _, by rw [List.take_zero]; rfl⟩)
    (fun H2 i σ' H' ⟨_, _, _, gl, acc, _, s2, b, _⟩ => ⟨b.kp fun m hm => ?_, fun l xs h1 h2 => b l _ h2 fun hm => ?_⟩) ?_ ?_)
  · rcases List.mem_cons.mp hm with e | e
    · rw [e]; exact ⟨_, s2 _ _ hl1, rfl⟩
    · obtain ⟨u, h, z⟩ := hK.loose m e
      exact ⟨u, s2 _ _ (s1 _ _ h), z⟩
  · rcases List.mem_cons.mp hm with e | e
    · rw [e, hl1] at h1; cases h1
    · obtain ⟨u, h, z⟩ := hK.loose l e
      rw [s1 _ _ h] at h1; cases h1
  · rintro H2 i d v σ' H' s2 hd rd ⟨o4, o5, o6, gl, acc, eσ, s12, b, kat, ht, h1, h2, h3⟩
    subst eσ
    obtain ⟨y, hyi, e⟩ := map_at hd
    subst e
    have hym := List.mem_of_getElem? hyi
    obtain ⟨p, hp⟩ := look_some (pats := st.pats) ((srtS_perm (kNames st)).mem_iff.mp hym)
    obtain ⟨hh, hsg, hS, hsz, hb, hSb⟩ := hy y p hp
    have epd : patD st y = p := by unfold patD; rw [hp]; rfl
    obtain ⟨dd, kv, f1, f2, f3⟩ := hF.2 y hym
    have hi : i < 3 := Nat.lt_of_lt_of_le (List.getElem?_eq_some_iff.mp hyi).1 hN3
    have hyn : y ∉ (srtS (kNames st)).take i := fun hm => by
      obtain ⟨j2, hj2, e⟩ := List.getElem_of_mem hm
      rw [List.length_take] at hj2
      rw [List.getElem_take] at e
      obtain ⟨hi7, e3⟩ := List.getElem?_eq_some_iff.mp hyi
      exact absurd ((List.getElem_inj hnd).mp (e.trans e3.symm)) (by omega)
    have keep : ∀ a o, H a = some o → a ∉ M → H' a = some o := fun a o h hn => b a o (s12 _ _ (s1 _ _ h)) fun hm => (List.mem_cons.mp hm).elim (fun e => by rw [e, hn1] at h; cases h) hn
    have hfd' := keep _ _ hfd hfM
    have hdd' := keep _ _ f2 (hdM y dd f1)
    have ecnt : (stAll st G sg sz ((srtS (kNames st)).take i)).cnt y = st.cnt y := if_neg hyn
    have esz : (stAll st G sg sz ((srtS (kNames st)).take i)).size y = st.size y := if_neg hyn
    obtain ⟨dxk, vtk, dpk, dck, dsk, llk, ik⟩ := kat.ins
    have etk : (srtS (kNames st)).take (i + 1) = (srtS (kNames st)).take i ++ [y] := by rw [List.take_add_one, hyi]; rfl
    refine wss_cons (ws_asg (Names2 5 6 rfl sc_Keeper_turn_all.nd rfl rfl ⟨.inl rfl, .inl rfl⟩ ⟨.inl rfl, .inl rfl⟩) (we_meth (ok_Keeper_turn T) hr (ve_var 0) ik T.clKeeper T.me_Keeper_turn rfl passL (aav_cons mono_rep (de_var (d := .str y) 4 rd) (aav_cons (P := fun u _ => u = V.ref dd) mono_eq (ve_dgetK hu (ve_var 1) (.inl hfd') (ve_str (de_var 4 rd)) f1) (aa_one (P := fun u _ => u = V.int sg) (ve_var 2)))) fun vs H3 s3 ⟨w1, r1, e1, rw1, w2, r2, e2, e3, w3, e4, e5⟩ => ?_))
    subst e1 e2 e3 e4 e5
    refine ⟨ka, dd, w1, M, stAll st G sg sz ((srtS (kNames st)).take i), y, p, kv, G y, sg, S y, sz y, rfl, kat.mono s3, rw1, hp, hh, s3 _ _ hdd', hdM y dd f1, by have f3 : CtD (patD st y).head.length kv (G y) := f3; rw [epd] at f3; exact f3, by rw [ecnt]; exact hsg, hS, by rw [esz]; exact hsz, by rw [ecnt]; exact hb, hSb, fun v4 H4 gn lo b4 kat4 g1 g2 l1 l2 rv => ?_⟩
    rw [stAll_snoc hyn, ← etk] at kat4
    have k34 : Kp H' H4 := (Kp.of s3).trans (b4.kp fun m hm => (kat.mono s3).loose m hm)
    have t4 : H4 tl = some (.lst acc) := b4 _ _ (s3 _ _ h1) htM
    have r4 := h3.mono k34
    have bb : SameB (tl :: M) H2 H4 := (b.trans (.of s3)).trans (b4.wide fun m hm => List.mem_cons_of_mem _ hm)
    refine takes_tup2 (R := fun σ2 => WSs _ _ _ σ2 H4) rv (fun ug ul rg rlo => ?_) _ fun _ z => z
    have hgl : ∀ z ∈ (srtS (kNames st)).take i, (fun z => if z = y then (gn, lo) else gl z) z = gl z := fun z hz => if_neg fun e => hyn (by rw [← e]; exact hz)
    have htell : ∀ z ∈ (srtS (kNames st)).take (i + 1), TellOf st z (G z) sg ((fun z => if z = y then (gn, lo) else gl z) z).1 ((fun z => if z = y then (gn, lo) else gl z) z).2 := fun z hz => by
      rw [etk] at hz
      rcases List.mem_append.mp hz with h | h
      · rw [hgl z h]; exact ht z h
      · rw [List.mem_singleton.mp h]
        show TellOf st y (G y) sg (if y = y then (gn, lo) else gl y).1 (if y = y then (gn, lo) else gl y).2
        rw [if_pos rfl]
        exact ⟨g1, fun a => by rw [g2, ecnt], l1, fun a => by
          rw [l2]
          unfold turned
          rw [ecnt]⟩
    have hty : (if y = y then (gn, lo) else gl y) = (gn, lo) := if_pos rfl
    refine wss_one (ws_if (BT.go (bt_cmp (ce_gt (de_add (de_len T.b_len (DE.qe (de_var 5 rg))) (de_len T.b_len (DE.qe (de_var 6 rlo)))) de_int)) (Same.refl H4) fun H5 s5 => ?_))
    rw [List.length_map, List.length_map]
    by_cases hp0 : 0 < gn.length + lo.length
    · rw [decide_eq_true (by omega), if_pos rfl]
      refine wss_one (ws_app (ve_var 3) (s5 _ _ t4) (by omega) (DE.is (d2 := tellD y (gn, lo)) (de_tup (aa_cons (de_var (d := .str y) 4 rd) (aa_cons (de_var 5 (rg.mono (.of s5))) (aa_cons (de_var 6 (rlo.mono (.of s5))) aa_nil))) rfl (by show 3 ≤ 100000; decide)) rfl) fun v6 H6 s6 r6 => ?_)
      have ku : Kp H6 (upd H6 tl (.lst (acc ++ [v6]))) := .upd (s6 _ _ (s5 _ _ t4)) rfl
      have s56 := s5.trans s6
      refine ⟨_, _, _, _, acc ++ [v6], rfl, s12, (bb.trans (.of s56)).trans (.upd List.mem_cons_self), ?_, htell, upd_same, by rw [List.length_append]; show _ + 1 ≤ _; omega, ?_⟩
      · refine (kat4.mono s56).keep ku fun m hm o h => ?_
        rw [upd_ne fun e => htM (by rw [← e]; exact hm)]
        exact h
      · rw [etk, tell_snoc hgl, hty, if_pos hp0]
        exact (r4.mono ((Kp.of s56).trans ku)).snoc (r6.mono ku)
    · rw [decide_eq_false (by omega), if_neg (by decide)]
      refine wss_nil ⟨_, _, _, _, acc, rfl, s12, bb.trans (.of s5), kat4.mono s5, htell, s5 _ _ t4, by omega, ?_⟩
      rw [etk, tell_snoc hgl, hty, if_neg hp0, List.append_nil]
      exact r4.mono (.of s5)
  · rintro H2 σ' H' s2 ⟨o4, o5, o6, gl, acc, eσ, _, b, kat, ht, h1, h2, h3⟩
    subst eσ
    rw [List.length_map, List.take_length] at kat ht h3
    have bM : SameB M H H' := fun a o h hn => b a o (s2 _ _ (s1 _ _ h)) fun hm => (List.mem_cons.mp hm).elim (fun e => by rw [e, hn1] at h; cases h) hn
    exact wss_one (ws_ret ((de_tuple T.b_tuple (ve_lv (ve_var 3) (SqL.of h1) h3)).go (Same.refl H') fun v8 H8 s8 r8 => q v8 H8 gl (bM.trans (.of s8)) (kat.mono s8) (fun y hy => ht y ((srtS_perm _).mem_iff.mpr hy)) r8))
end
end J
/-! The counts of a change, the answers, what is told: in plain. -/
namespace J
open PySem PySem.Spec PyProof.Rows L2
theorem sum_pair {α : Type} {f g : α → Nat} : ∀ xs : List α, (xs.map fun x => f x + g x).sum = (xs.map f).sum + (xs.map g).sum
  | [] => rfl
  | x :: xs => by
    rw [List.map_cons, List.sum_cons, sum_pair xs, List.map_cons, List.sum_cons, List.map_cons, List.sum_cons]
    omega
theorem sum_cong {α : Type} {f g : α → Nat} : ∀ {xs : List α}, (∀ x ∈ xs, f x = g x) → (xs.map f).sum = (xs.map g).sum := fun h => by rw [List.map_congr_left h]
theorem cnt_cons {p : Pat} {f : Row → Bool} {u : Row} {us : List Row} {a : Row} : cntOf p ((u :: us).filter f) a = (if proj p u = a then (f u).toNat else 0) + cntOf p (us.filter f) a := by
  unfold cntOf
  rw [List.filter_cons]
  cases hf : f u with
  | false =>
    rw [if_neg (by decide)]
    split <;> simp
  | true =>
    rw [if_pos rfl, List.filter_cons]
    by_cases e : proj p u = a
    · rw [if_pos e, if_pos (decide_eq_true e), List.length_cons]
      show _ = 1 + _
      omega
    · rw [if_neg e, if_neg (by rw [decide_eq_false e]; decide), Nat.zero_add]
theorem proj_copy {p : Pat} {x : Str} {k : Nat} : proj (copyPat p x k) = proj p := by
  funext t
  unfold proj
  rw [copy_pvars]
  rfl
theorem cnt_copy {p : Pat} {x : Str} {k : Nat} {L : List Row} {a : Row} : cntOf (copyPat p x k) L a = cntOf p L a := by
  unfold cntOf
  rw [proj_copy]
theorem parts_on {p : Pat} {F : Nat → Row → Bool} {f0 f1 : Row → Bool} {ks : List Nat} (h : ∀ u, (ks.map fun k => (F k u).toNat).sum + (f0 u).toNat = (f1 u).toNat) (a : Row) : ∀ us : List Row, (ks.map fun k => cntOf p (us.filter (F k)) a).sum + cntOf p (us.filter f0) a = cntOf p (us.filter f1) a
  | [] => by
    have : ∀ f : Row → Bool, cntOf p ([].filter f) a = 0 := fun f => rfl
    rw [this, this, sum_zero fun k _ => this _]
  | u :: us => by
    have ih := parts_on (p := p) h a us
    rw [cnt_cons, cnt_cons, sum_cong (g := fun k => (if proj p u = a then (F k u).toNat else 0) + cntOf p (us.filter (F k)) a) fun k _ => cnt_cons, sum_pair]
    have hu := h u
    by_cases e : proj p u = a
    · rw [if_pos e, if_pos e, sum_cong (g := fun k => (F k u).toNat) fun k _ => if_pos e]
      omega
    · rw [if_neg e, if_neg e, sum_zero fun k _ => if_neg e]
      omega
theorem parts_add {c0 c1 : Cat} {p : Pat} {t : Tab} {x : Str} {r : Row} (d : Differ c0 c1 x r t) (hn : ∀ a ∈ p.atoms, a.tab ∈ tabNames) (ok0 : PatOk c0 p) (ok1 : PatOk c1 p) (okc : ∀ k, PatOk (copyCat c1 t r) (copyPat p x k)) (a : Row) :
    chgG c1 p t x r a + cntOf p (joinedL c0 p) a = cntOf p (joinedL c1 p) a := by
  unfold chgG sumG partG
  rw [joined_is ok0, joined_is ok1, sum_cong (g := fun k => cntOf p ((tups (pvars p).length).filter (fitsB (copyCat c1 t r) (copyPat p x k))) a) fun k _ => by rw [joined_is (okc k), cnt_copy, copy_pvars]]
  exact parts_on (fun u => point d hn) a _
theorem ite_one {b : Row} : ∀ {rs : List Row}, rs.Nodup → b ∈ rs → (rs.map fun a => if b = a then 1 else 0).sum = 1
  | [], _, h => nomatch h
  | a :: rs, hn, h => by
    have h2 := List.nodup_cons.mp hn
    rw [List.map_cons, List.sum_cons]
    rcases List.mem_cons.mp h with e | h
    · subst e
      rw [if_pos rfl, sum_zero fun c hc => if_neg fun e => h2.1 (by rw [e]; exact hc)]
    · rw [if_neg fun e => h2.1 (by rw [← e]; exact h), ite_one h2.2 h]
theorem sum_cnt {p : Pat} {rs : List Row} (hn : rs.Nodup) : ∀ {L : List Row}, (∀ t ∈ L, proj p t ∈ rs) → (rs.map (cntOf p L)).sum = L.length
  | [], _ => sum_zero fun _ _ => rfl
  | t :: L, h => by
    have ih := sum_cnt hn (L := L) fun u hu => h u (List.mem_cons_of_mem _ hu)
    have e : ∀ a ∈ rs, cntOf p (t :: L) a = (if proj p t = a then 1 else 0) + cntOf p L a := fun a _ => by
      have := cnt_cons (p := p) (f := fun _ => true) (u := t) (us := L) (a := a)
      rw [List.filter_eq_self.mpr fun _ _ => rfl, List.filter_eq_self.mpr fun _ _ => rfl] at this
      exact this
    rw [sum_cong e, sum_pair, ih, ite_one hn (h t List.mem_cons_self), List.length_cons]
    omega
theorem sum_perm {f : Row → Nat} {xs ys : List Row} (h : xs.Perm ys) : (xs.map f).sum = (ys.map f).sum := by
  induction h with
  | nil => rfl
  | cons a _ ih => rw [List.map_cons, List.sum_cons, ih, List.map_cons, List.sum_cons]
  | swap a b l => rw [List.map_cons, List.sum_cons, List.map_cons, List.sum_cons, List.map_cons, List.sum_cons, List.map_cons, List.sum_cons]; omega
  | trans _ _ h1 h2 => rw [h1, h2]
theorem sum_nz {f : Row → Nat} : ∀ xs : List Row, ((xs.filter fun a => decide (f a ≠ 0)).map f).sum = (xs.map f).sum
  | [] => rfl
  | a :: xs => by
    rw [List.filter_cons, List.map_cons, List.sum_cons]
    by_cases e : f a = 0
    · rw [if_neg (by rw [decide_eq_false fun h => h e]; decide), sum_nz xs, e, Nat.zero_add]
    · rw [if_pos (decide_eq_true e), List.map_cons, List.sum_cons, sum_nz xs]
theorem sum_supp {f : Row → Nat} {rs bs : List Row} (h1 : rs.Nodup) (h2 : bs.Nodup) (h : ∀ r, r ∈ rs ↔ f r ≠ 0) (hb : ∀ r, f r ≠ 0 → r ∈ bs) : (rs.map f).sum = (bs.map f).sum := by
  rw [← sum_nz bs]
  refine sum_perm ((List.perm_ext_iff_of_nodup h1 (h2.sublist List.filter_sublist)).mpr fun r => ?_)
  rw [h, List.mem_filter, decide_eq_true_eq]
  exact ⟨fun z => ⟨hb r z, z⟩, fun z => z.2⟩
theorem joined_dig {c : Cat} {p : Pat} : ∀ r ∈ joinedL c p, GRow (pvars p).length r := fun r hr => brs_dig _ r hr
theorem proj_grow {c : Cat} {p : Pat} (ok : PatOk c p) {t : Row} (g : GRow (pvars p).length t) : GRow p.head.length (proj p t) := ⟨by unfold proj; rw [List.length_map], fun n hn => by
  obtain ⟨v, hv, e⟩ := List.mem_map.mp hn
  rw [← e]
  exact g.val _ (List.mem_of_getElem? (getD_at 0 (by rw [g.len]; exact idx_lt (ok.head v hv))))⟩
theorem cnt_pos {p : Pat} {L : List Row} {a : Row} : cntOf p L a ≠ 0 ↔ a ∈ L.map (proj p) := by
  unfold cntOf
  rw [List.mem_map]
  constructor
  · intro h
    obtain ⟨t, ht⟩ := List.exists_mem_of_length_pos (Nat.pos_of_ne_zero h)
    obtain ⟨h1, h2⟩ := List.mem_filter.mp ht
    exact ⟨t, h1, of_decide_eq_true h2⟩
  · rintro ⟨t, h1, h2⟩
    have := List.length_pos_of_mem (show t ∈ L.filter (fun t => decide (proj p t = a)) from List.mem_filter.mpr ⟨h1, decide_eq_true h2⟩)
    omega
theorem cnt_le {p : Pat} {L : List Row} {a : Row} : cntOf p L a ≤ L.length := List.length_filter_le _ _
theorem joined_len {c : Cat} {p : Pat} (ok : PatOk c p) : (joinedL c p).length ≤ 27 := Nat.le_trans (levs_len _ _) (Nat.pow_le_pow_right (n := 3) (j := 3) (by decide) ok.olen)
/-- the sum of a change -/
theorem chg_sum {c0 c1 : Cat} {p : Pat} {G : Row → Nat} (ok0 : PatOk c0 p) (ok1 : PatOk c1 p) (hG : ∀ a, G a + cntOf p (joinedL c0 p) a = cntOf p (joinedL c1 p) a) :
    (joinedL c0 p).length ≤ (joinedL c1 p).length ∧ ∀ rs : List Row, rs.Nodup → (∀ r, r ∈ rs ↔ G r ≠ 0) → (rs.map G).sum = (joinedL c1 p).length - (joinedL c0 p).length := by
  have key : ((ddp (tups p.head.length)).map G).sum + (joinedL c0 p).length = (joinedL c1 p).length := by
    have hm : ∀ (c : Cat), PatOk c p → ∀ t ∈ joinedL c p, proj p t ∈ ddp (tups p.head.length) := fun c ok t ht => mem_ddp.mpr (mem_tups.mpr (proj_grow ok (joined_dig t ht)))
    rw [← sum_cnt (p := p) nodup_ddp (hm c0 ok0), ← sum_cnt (p := p) nodup_ddp (hm c1 ok1), ← sum_pair]
    exact sum_cong fun a _ => hG a
  refine ⟨by omega, fun rs hn h => ?_⟩
  rw [sum_supp hn (bs := ddp (tups p.head.length)) nodup_ddp h fun r hr => ?_]
  · omega
  · have h1 : cntOf p (joinedL c1 p) r ≠ 0 := by have := hG r; omega
    obtain ⟨t, ht, e⟩ := List.mem_map.mp (cnt_pos.mp h1)
    rw [← e]
    exact mem_ddp.mpr (mem_tups.mpr (proj_grow ok1 (joined_dig t ht)))

/-! ### catalogues with other rows -/
theorem find_with {c : Cat} {x y : Str} {rs : List Row} : findT (withRows c x rs) y = (findT c y).map fun t => if t.name = x then { t with rows := rs } else t := by
  unfold findT withRows
  rw [List.find?_map]
  congr 2
  funext t
  show decide ((if t.name = x then _ else t : Tab).name = y) = decide (t.name = y)
  split <;> rfl
theorem with_rowsIn {c : Cat} {x : Str} {rs : List Row} {t : Tab} (h : findT c x = some t) (y : Str) : rowsIn (withRows c x rs) y = if y = x then rs else rowsIn c y := by
  unfold rowsIn
  rw [find_with]
  by_cases e : y = x
  · rw [if_pos e, e, h, Option.map_some, if_pos (findT_mem h).2]
  · rw [if_neg e]
    cases hy : findT c y with
    | none => rfl
    | some u => rw [Option.map_some, if_neg fun e2 => e (by rw [← e2]; exact (findT_mem hy).2.symm)]
theorem nodup_name : ∀ {c : Cat}, (c.map (·.name)).Nodup → ∀ a ∈ c, ∀ b ∈ c, a.name = b.name → a = b
  | [], _, _, h, _, _, _ => nomatch h
  | t :: c, hn, a, ha, b, hb, e => by
    have h2 := List.nodup_cons.mp hn
    rcases List.mem_cons.mp ha with e1 | h1 <;> rcases List.mem_cons.mp hb with e2 | h3
    · rw [e1, e2]
    · rw [e1] at e
      exact absurd (List.mem_map.mpr ⟨b, h3, e.symm⟩) h2.1
    · rw [e2] at e
      exact absurd (List.mem_map.mpr ⟨a, h1, e⟩) h2.1
    · exact nodup_name h2.2 a h1 b h3 e
theorem with_names {c : Cat} {x : Str} {rs : List Row} : (withRows c x rs).map (·.name) = c.map (·.name) := by
  unfold withRows
  rw [List.map_map]
  refine List.map_congr_left fun t _ => ?_
  show (if t.name = x then _ else t : Tab).name = t.name
  split <;> rfl
theorem gcat_with {m n : Nat} {c : Cat} {x : Str} {t : Tab} {rs : List Row} (hg : GCat m c) (hf : findT c x = some t) (hmn : m ≤ n) (h1 : ∀ r ∈ rs, GRow t.cols r) (h2 : SAsc rs) (h3 : rs.length ≤ n) : GCat n (withRows c x rs) where
  tab := fun u hu => by
    obtain ⟨v, hv, e⟩ := List.mem_map.mp hu
    have gv := hg.tab v hv
    by_cases ev : v.name = x
    · have : v = t := nodup_name (names_slt hg.asc) v hv t (findT_mem hf).1 (by rw [ev, (findT_mem hf).2])
      subst this
      rw [if_pos ev] at e
      subst e
      exact ⟨gv.lo, gv.hi, h1, h2, h3⟩
    · rw [if_neg ev] at e
      subst e
      exact ⟨gv.lo, gv.hi, gv.row, gv.asc, Nat.le_trans gv.few hmn⟩
  nm := fun u hu => by
    have : u.name ∈ (withRows c x rs).map (·.name) := List.mem_map.mpr ⟨u, hu, rfl⟩
    rw [with_names] at this
    obtain ⟨v, hv, e⟩ := List.mem_map.mp this
    rw [← e]; exact hg.nm v hv
  few := by unfold withRows; rw [List.length_map]; exact hg.few
  one := by unfold withRows; rw [List.length_map]; exact hg.one
  asc := by rw [with_names]; exact hg.asc
theorem gpat_with {c : Cat} {x : Str} {rs : List Row} {p : Pat} (h : GPat c p) : GPat (withRows c x rs) p where
  few := h.few
  one := h.one
  nm := h.nm
  fit := fun a ha => by
    obtain ⟨t, h1, h2⟩ := h.fit a ha
    rw [find_with, h1, Option.map_some]
    refine ⟨_, rfl, ?_⟩
    split
    · exact h2
    · exact h2
  lo := h.lo
  hi := h.hi
  var := h.var
  head := h.head
  nodup := h.nodup
def addRows (t : Tab) (r : Row) : List Row := srt (t.rows ++ [r])
theorem others_add {m : Nat} {t : Tab} {r : Row} (gt : GTab m t) (hr : r ∉ t.rows) : (addRows t r).filter (fun o => !decide (o = r)) = t.rows := by
  have hn : (t.rows ++ [r]).Nodup := List.nodup_append.mpr ⟨gt.asc.nodup, List.nodup_cons.mpr ⟨nofun, List.nodup_nil⟩, fun a ha b hb e => hr (by rw [← List.mem_singleton.mp hb, ← e]; exact ha)⟩
  refine sasc_uniq ((srt_sasc hn).sublist List.filter_sublist) gt.asc fun y => ?_
  unfold addRows
  rw [List.mem_filter, mem_srt, List.mem_append, List.mem_singleton]
  constructor
  · rintro ⟨h1, h2⟩
    rcases h1 with h | h
    · exact h
    · simp [h] at h2
  · intro h
    refine ⟨.inl h, ?_⟩
    have : ¬ y = r := fun e => hr (by rw [← e]; exact h)
    simp [this]
theorem differ_add {m : Nat} {c : Cat} {x : Str} {t : Tab} {r : Row} (hg : GCat m c) (hf : findT c x = some t) (hr : r ∉ t.rows) : Differ c (withRows c x (addRows t r)) x r { t with rows := addRows t r } where
  at1 := by rw [find_with, hf, Option.map_some, if_pos (findT_mem hf).2]
  mem := mem_srt.mpr (List.mem_append_right _ List.mem_cons_self)
  row := fun y => by
    rw [with_rowsIn hf]
    by_cases e : y = x
    · rw [if_pos e, e]
      unfold rowsIn
      rw [hf]
      exact (others_add (hg.tab t (findT_mem hf).1) hr).symm
    · rw [if_neg e, if_neg e]
theorem differ_drop {c : Cat} {x : Str} {t : Tab} {r : Row} (hf : findT c x = some t) (hr : r ∈ t.rows) : Differ (withRows c x (othersOf t r)) c x r t where
  at1 := hf
  mem := hr
  row := fun y => with_rowsIn hf y
theorem gcat_add {m : Nat} {c : Cat} {x : Str} {t : Tab} {r : Row} (hg : GCat m c) (hf : findT c x = some t) (hr : r ∉ t.rows) (g : GRow t.cols r) : GCat (m + 1) (withRows c x (addRows t r)) := by
  have gt := hg.tab t (findT_mem hf).1
  have hn : (t.rows ++ [r]).Nodup := List.nodup_append.mpr ⟨gt.asc.nodup, List.nodup_cons.mpr ⟨nofun, List.nodup_nil⟩, fun a ha b hb e => hr (by rw [← List.mem_singleton.mp hb, ← e]; exact ha)⟩
  refine gcat_with hg hf (Nat.le_succ m) (fun y hy => ?_) (srt_sasc hn) ?_
  · rcases List.mem_append.mp (mem_srt.mp hy) with h | h
    · exact gt.row y h
    · rw [List.mem_singleton.mp h]; exact g
  · unfold addRows
    rw [srt_len, List.length_append]
    exact Nat.succ_le_succ gt.few
theorem gcat_drop {m : Nat} {c : Cat} {x : Str} {t : Tab} {r : Row} (hg : GCat m c) (hf : findT c x = some t) : GCat m (withRows c x (othersOf t r)) := by
  have gt := hg.tab t (findT_mem hf).1
  exact gcat_with hg hf (Nat.le_refl m) (fun y hy => gt.row y (List.mem_filter.mp hy).1) (gt.asc.sublist List.filter_sublist) (Nat.le_trans (List.length_filter_le _ _) gt.few)

/-! ### answers, what is told -/
def ansL (c : Cat) (p : Pat) : List Row := sset ((joinedL c p).map (proj p))
theorem mem_ans {c : Cat} {p : Pat} {a : Row} : a ∈ ansL c p ↔ cntOf p (joinedL c p) a ≠ 0 := by unfold ansL; rw [mem_sset, cnt_pos]
theorem ans_sasc (c : Cat) (p : Pat) : SAsc (ansL c p) := sset_sasc _
def gainL (b n : Cat) (p : Pat) : List Row := (ansL n p).filter fun a => !decide (a ∈ ansL b p)
theorem mem_gain {b n : Cat} {p : Pat} {a : Row} : a ∈ gainL b n p ↔ cntOf p (joinedL n p) a ≠ 0 ∧ cntOf p (joinedL b p) a = 0 := by
  unfold gainL
  rw [List.mem_filter, mem_ans, Bool.not_eq_true', decide_eq_false_iff_not, mem_ans, Decidable.not_not]
theorem gain_sasc {b n : Cat} {p : Pat} : SAsc (gainL b n p) := (ans_sasc _ _).sublist List.filter_sublist
def patOf (pats : List (Str × Pat)) (y : Str) : Pat := (look pats y).getD ⟨[], []⟩
def chgD (b n : Cat) (pats : List (Str × Pat)) : List PyData := tellAll (srtS (pats.map (·.1))) fun y => (gainL b n (patOf pats y), gainL n b (patOf pats y))
theorem tell_congr {ys : List Str} {f g : Str → List Row × List Row} (h : ∀ y ∈ ys, f y = g y) : tellAll ys f = tellAll ys g := by
  unfold tellAll
  rw [List.filter_congr (q := fun y => decide (0 < (g y).1.length + (g y).2.length)) fun z hz => by rw [h z hz]]
  exact List.map_congr_left fun z hz => by rw [h z (List.mem_filter.mp hz).1]
/-- the state keeps the counts of the catalogue -/
structure KLaw (c : Cat) (pats : List (Str × Pat)) (n : Nat) (st : KSt) : Prop where
  cat : st.cat = c
  pt : st.pats = pats
  num : st.n = n
  cnt : ∀ y p, look pats y = some p → st.cnt y = cntOf p (joinedL c p) ∧ st.size y = (joinedL c p).length
theorem chg_of {st : KSt} {G : Str → Row → Nat} {sg : Int} {b n : Cat} {pats : List (Str × Pat)} {gl : Str → List Row × List Row} (hp : st.pats = pats) (hgl : ∀ y ∈ kNames st, TellOf st y (G y) sg (gl y).1 (gl y).2)
    (h : ∀ y p, look pats y = some p → (∀ a, G y a ≠ 0 ∧ st.cnt y a = 0 ↔ a ∈ gainL b n p) ∧ ∀ a, G y a ≠ 0 ∧ turned st y (G y) sg a = 0 ↔ a ∈ gainL n b p) : tellAll (srtS (kNames st)) gl = chgD b n pats := by
  subst hp
  refine tell_congr fun y hy => ?_
  have hy := (srtS_perm _).mem_iff.mp hy
  obtain ⟨p, hp⟩ := look_some hy
  obtain ⟨h1, h2⟩ := h y p hp
  have t := hgl y hy
  have e : patOf st.pats y = p := by unfold patOf; rw [hp]; rfl
  rw [e]
  exact Prod.ext (sasc_uniq t.ga gain_sasc fun a => (t.gm a).trans (h1 a)) (sasc_uniq t.la gain_sasc fun a => (t.lm a).trans (h2 a))
end J
/-! add, drop. -/
namespace J
open PySem PySem.Spec PyProof.Rows L2
/-- all that is known of one pattern's change -/
structure ChgOk (c0 c1 : Cat) (p : Pat) (G : Row → Nat) : Prop where
  add : ∀ a, G a + cntOf p (joinedL c0 p) a = cntOf p (joinedL c1 p) a
  le : (joinedL c0 p).length ≤ (joinedL c1 p).length
  sum : ∀ rs : List Row, rs.Nodup → (∀ r, r ∈ rs ↔ G r ≠ 0) → (rs.map G).sum = (joinedL c1 p).length - (joinedL c0 p).length
  few : (joinedL c1 p).length ≤ 27
theorem chg_ok {m0 m1 : Nat} {c0 c1 : Cat} {p : Pat} {t : Tab} {x : Str} {r : Row} (d : Differ c0 c1 x r t) (h0 : GCat m0 c0) (h1 : GCat m1 c1) (e0 : m0 ≤ 100) (e1 : m1 ≤ 100) (p0 : GPat c0 p) (p1 : GPat c1 p) (g : GRow t.cols r) : ChgOk c0 c1 p (chgG c1 p t x r) := by
  have ok0 := patOk_of h0 e0 p0
  have ok1 := patOk_of h1 e1 p1
  have ha := parts_add d p1.nm ok0 ok1 fun k => copyOk h1 e1 p1 d.at1 g
  obtain ⟨z1, z2⟩ := chg_sum ok0 ok1 ha
  exact ⟨ha, z1, z2, joined_len ok1⟩
section
variable {P : Program} {w : World} {K : PySem.W.Frag} {mg : Str → Option Value} {base : Heap}
def stCat (st : KSt) (c : Cat) : KSt := ⟨c, st.pats, st.cnt, st.size, st.n⟩
theorem KIn.retab {H : Hp} {ka dx dp dc ds ll : Addr} {cd : Str → Addr} {vt v : V} {pk ck sk : List (Key × V)} {ws : List V} {st : KSt} {c : Cat} (h : KIn K H ka dx dp dc ds ll cd vt pk ck sk ws st) (r : Rep H (eCat c) v) :
    KIn K (upd H ka (.ins (He.ga K "Keeper") dx (keepF v dp dc ds ll))) ka dx dp dc ds ll cd v pk ck sk ws (stCat st c) := by
  have off : ∀ a o, H a = some o → (∀ C d fs, o ≠ .ins C d fs) → upd H ka (.ins (He.ga K "Keeper") dx (keepF v dp dc ds ll)) a = some o := fun a o e z => by
    rw [upd_ne fun e2 => by rw [e2, h.ins] at e; cases e; exact z _ _ _ rfl]
    exact e
  have k : Kp H (upd H ka (.ins (He.ga K "Keeper") dx (keepF v dp dc ds ll))) := .upd h.ins rfl
  exact { ins := upd_same, tab := r.mono k, hp := off _ _ h.hp nofun, hc := off _ _ h.hc nofun, hs := off _ _ h.hs nofun, hl := off _ _ h.hl nofun, wl := h.wl, pc := h.pc, ps := h.ps, cs := h.cs, kp := h.kp, kc := h.kc, ks := h.ks
          pat := fun x p e => let ⟨vp, h1, h2⟩ := h.pat x p e; ⟨vp, h1, h2.mono k⟩
          cnt := fun x p e => let ⟨h1, kvs, h2, h3⟩ := h.cnt x p e; ⟨h1, kvs, off _ _ h2 nofun, h3⟩
          siz := h.siz, inj := h.inj, nd := h.nd, few := h.few }
theorem FoundAt.keep {H H' : Hp} {ns : List Str} {n : Str → Nat} {G : Str → Row → Nat} {fk : List (Key × V)} (h : FoundAt H ns n G fk) (k : ∀ y d o, valV fk (.inr y) = some (.ref d) → H d = some o → H' d = some o) : FoundAt H' ns n G fk :=
  ⟨h.1, fun y hy => let ⟨d, kv, z1, z2, z3⟩ := h.2 y hy; ⟨d, kv, z1, k y d _ z1 z2, z3⟩⟩
def addS (K : PySem.W.Frag) : Sp := fun vs H Q E => ∃ (ka : Addr) (vx vr : V) (M : List Addr) (st : KSt) (m n : Nat) (c : Cat) (pats : List (Str × Pat)) (x : Str) (r : Row), vs = [.ref ka, vx, vr] ∧ KAt K H ka M st ∧ KLaw c pats n st ∧ Rep H (.str x) vx ∧ Rep H (eRow r) vr ∧ GCat m c ∧ m < 60 ∧ n ≤ 900 ∧ x.length ≤ 20 ∧
  (∀ t, findT c x = some t → GRow t.cols r) ∧ (∀ y p, look pats y = some p → GPat c p) ∧ match findT c x with
  | none => ∀ H', Same H H' → E (.ref (He.ga K "UnknownTable")) none H'
  | some t => if r ∈ t.rows then ∀ H', Same H H' → E (.ref (He.ga K "RowError")) none H' else
    ∀ v H' st', SameB M H H' → KAt K H' ka M st' → KLaw (withRows c x (addRows t r)) pats (n + 1) st' → Rep H' (.tuple (chgD c (withRows c x (addRows t r)) pats)) v → Q v H'
def dropS (K : PySem.W.Frag) : Sp := fun vs H Q E => ∃ (ka : Addr) (vx vr : V) (M : List Addr) (st : KSt) (m n : Nat) (c : Cat) (pats : List (Str × Pat)) (x : Str) (r : Row), vs = [.ref ka, vx, vr] ∧ KAt K H ka M st ∧ KLaw c pats n st ∧ Rep H (.str x) vx ∧ Rep H (eRow r) vr ∧ GCat m c ∧ m < 60 ∧ n ≤ 900 ∧ x.length ≤ 20 ∧
  (∀ t, findT c x = some t → GRow t.cols r) ∧ (∀ y p, look pats y = some p → GPat c p) ∧ match findT c x with
  | none => ∀ H', Same H H' → E (.ref (He.ga K "UnknownTable")) none H'
  | some t => if r ∈ t.rows then ∀ v H' st', SameB M H H' → KAt K H' ka M st' → KLaw (withRows c x (othersOf t r)) pats (n + 1) st' → Rep H' (.tuple (chgD c (withRows c x (othersOf t r)) pats)) v → Q v H'
    else ∀ H', Same H H' → E (.ref (He.ga K "RowError")) none H'
theorem note_row {X : Cx} {σ : L2.St} {H : Hp} {k : Nat} {r : Row} {x word : Str} {a b : Expr} {l2 : Expr} {pos p1 : Pos} (ha : DE X a σ H (.str word)) (hb : DE X b σ H (.str x)) (h2 : LE X l2 σ H ((r.map ts).map .str)) (g : GRow k r) (hk : k ≤ 4)
    (hs1 : starEach [a, b] X.env = (false, eval a X.env) :: starEach [b] X.env := by rfl) (hs2 : starEach [b] X.env = (false, eval b X.env) :: starEach [] X.env := by rfl) : LE X (.BinOp (.List [a, b] p1) .Add l2 pos) σ H (([word, x] ++ r.map ts).map .str) :=
  LE.is (le_cat (le_lst (ds := [word, x].map .str) (aa_cons ha (aa_cons hb aa_nil hs2) hs1) (by show 2 ≤ 100000; decide)) h2 (by rw [List.length_map, List.length_map, List.length_map, g.len]; show 2 + k ≤ 100000; omega)) (by rw [List.map_append])
theorem note_ok {k : Nat} {r : Row} {x word : Str} (g : GRow k r) (hk : k ≤ 4) (hw : word.length ≤ 2000) (hx : x.length ≤ 2000) : ([word, x] ++ r.map ts).length ≤ 10 ∧ ∀ y ∈ [word, x] ++ r.map ts, y.length ≤ 2000 := by
  refine ⟨by rw [List.length_append, List.length_map, g.len]; show 2 + k ≤ 10; omega, fun y hy => ?_⟩
  rcases List.mem_append.mp hy with h | h
  · simp only [List.mem_cons, List.not_mem_nil, or_false] at h
    rcases h with e | e <;> rw [e] <;> assumption
  · obtain ⟨n, hn, e⟩ := List.mem_map.mp h
    rw [← e]
    exact Nat.le_trans (ts_len (g.val n hn)) (by decide)

/-- what turn_all asks of every pattern, rows coming -/
theorem turn_in {c0 c1 : Cat} {pats : List (Str × Pat)} {n : Nat} {st : KSt} {G : Str → Row → Nat} (kl : KLaw c0 pats n st) (h : ∀ y p, look pats y = some p → p.head.length ≤ 3 ∧ ChgOk c0 c1 p (G y)) :
    ∀ y p, look st.pats y = some p → p.head.length ≤ 3 ∧ ((1 : Int) = 1 ∨ (1 : Int) = -1 ∧ ∀ a, G y a ≤ st.cnt y a) ∧ (∀ rs : List Row, rs.Nodup → (∀ r, r ∈ rs ↔ G y r ≠ 0) → (rs.map (G y)).sum = (joinedL c1 (patOf pats y)).length - (joinedL c0 (patOf pats y)).length) ∧ (((joinedL c1 (patOf pats y)).length : Nat) : Int) = st.size y + 1 * (((joinedL c1 (patOf pats y)).length - (joinedL c0 (patOf pats y)).length : Nat) : Int) ∧ (∀ a, st.cnt y a ≤ 1000 ∧ G y a ≤ 1000) ∧ (joinedL c1 (patOf pats y)).length - (joinedL c0 (patOf pats y)).length ≤ 100000 := fun y p hp => by
  rw [kl.pt] at hp
  obtain ⟨h1, ok⟩ := h y p hp
  have e : patOf pats y = p := by unfold patOf; rw [hp]; rfl
  obtain ⟨e1, e2⟩ := kl.cnt y p hp
  have hle := ok.le
  have hfew := ok.few
  rw [e, e1, e2]
  refine ⟨h1, .inl rfl, ok.sum, by omega, fun a => ?_, by omega⟩
  have h2 : cntOf p (joinedL c0 p) a ≤ _ := cnt_le
  have h3 : cntOf p (joinedL c1 p) a ≤ _ := cnt_le
  have := ok.add a
  omega
theorem turn_out {c0 c1 : Cat} {pats : List (Str × Pat)} {n : Nat} {st : KSt} {G : Str → Row → Nat} (kl : KLaw c1 pats n st) (h : ∀ y p, look pats y = some p → p.head.length ≤ 3 ∧ ChgOk c0 c1 p (G y)) :
    ∀ y p, look st.pats y = some p → p.head.length ≤ 3 ∧ ((-1 : Int) = 1 ∨ (-1 : Int) = -1 ∧ ∀ a, G y a ≤ st.cnt y a) ∧ (∀ rs : List Row, rs.Nodup → (∀ r, r ∈ rs ↔ G y r ≠ 0) → (rs.map (G y)).sum = (joinedL c1 (patOf pats y)).length - (joinedL c0 (patOf pats y)).length) ∧ (((joinedL c0 (patOf pats y)).length : Nat) : Int) = st.size y + -1 * (((joinedL c1 (patOf pats y)).length - (joinedL c0 (patOf pats y)).length : Nat) : Int) ∧ (∀ a, st.cnt y a ≤ 1000 ∧ G y a ≤ 1000) ∧ (joinedL c1 (patOf pats y)).length - (joinedL c0 (patOf pats y)).length ≤ 100000 := fun y p hp => by
  rw [kl.pt] at hp
  obtain ⟨h1, ok⟩ := h y p hp
  have e : patOf pats y = p := by unfold patOf; rw [hp]; rfl
  obtain ⟨e1, e2⟩ := kl.cnt y p hp
  have hle := ok.le
  have hfew := ok.few
  rw [e, e1, e2]
  refine ⟨h1, .inr ⟨rfl, fun a => ?_⟩, ok.sum, by omega, fun a => ?_, by omega⟩
  · have := ok.add a
    omega
  · have h3 : cntOf p (joinedL c1 p) a ≤ _ := cnt_le
    have := ok.add a
    omega
theorem law_in {c0 c1 : Cat} {pats : List (Str × Pat)} {n : Nat} {st : KSt} {G : Str → Row → Nat} {S : Str → Nat} (kl : KLaw c0 pats n st) (h : ∀ y p, look pats y = some p → p.head.length ≤ 3 ∧ ChgOk c0 c1 p (G y)) (hS : ∀ y, S y = (joinedL c1 (patOf pats y)).length) {st2 : KSt} (e2 : st2 = ⟨c1, st.pats, st.cnt, st.size, n + 1⟩) :
    KLaw c1 pats (n + 1) (stAll st2 G 1 S (srtS (kNames st2))) := by
  subst e2
  refine ⟨rfl, kl.pt, rfl, fun y p hp => ?_⟩
  obtain ⟨h1, ok⟩ := h y p hp
  have hy : y ∈ srtS (kNames st) := (srtS_perm _).mem_iff.mpr (by unfold kNames; rw [kl.pt]; exact List.mem_map.mpr ⟨(y, p), look_mem hp, rfl⟩)
  have e : patOf pats y = p := by unfold patOf; rw [hp]; rfl
  refine ⟨?_, ?_⟩
  · show (if y ∈ srtS (kNames st) then _ else _) = _
    rw [if_pos hy]
    funext a
    show (if (1 : Int) = 1 then st.cnt y a + G y a else _) = _
    rw [if_pos rfl, (kl.cnt y p hp).1, ← ok.add a]
    omega
  · show (if y ∈ srtS (kNames st) then S y else _) = _
    rw [if_pos hy, hS, e]
theorem law_out {c0 c1 : Cat} {pats : List (Str × Pat)} {n : Nat} {st : KSt} {G : Str → Row → Nat} {S : Str → Nat} (kl : KLaw c1 pats n st) (h : ∀ y p, look pats y = some p → p.head.length ≤ 3 ∧ ChgOk c0 c1 p (G y)) (hS : ∀ y, S y = (joinedL c0 (patOf pats y)).length) {st2 : KSt} (e2 : st2 = ⟨c0, st.pats, st.cnt, st.size, n + 1⟩) :
    KLaw c0 pats (n + 1) (stAll st2 G (-1) S (srtS (kNames st2))) := by
  subst e2
  refine ⟨rfl, kl.pt, rfl, fun y p hp => ?_⟩
  obtain ⟨h1, ok⟩ := h y p hp
  have hy : y ∈ srtS (kNames st) := (srtS_perm _).mem_iff.mpr (by unfold kNames; rw [kl.pt]; exact List.mem_map.mpr ⟨(y, p), look_mem hp, rfl⟩)
  have e : patOf pats y = p := by unfold patOf; rw [hp]; rfl
  refine ⟨?_, ?_⟩
  · show (if y ∈ srtS (kNames st) then _ else _) = _
    rw [if_pos hy]
    funext a
    show (if (-1 : Int) = 1 then _ else st.cnt y a - G y a) = _
    rw [if_neg (by decide), (kl.cnt y p hp).1, ← ok.add a]
    omega
  · show (if y ∈ srtS (kNames st) then S y else _) = _
    rw [if_pos hy, hS, e]
theorem told_in {c0 c1 : Cat} {pats : List (Str × Pat)} {n : Nat} {st : KSt} {G : Str → Row → Nat} (kl : KLaw c0 pats n st) (h : ∀ y p, look pats y = some p → p.head.length ≤ 3 ∧ ChgOk c0 c1 p (G y)) : ∀ y p, look pats y = some p → (∀ a, G y a ≠ 0 ∧ st.cnt y a = 0 ↔ a ∈ gainL c0 c1 p) ∧ ∀ a, G y a ≠ 0 ∧ turned st y (G y) 1 a = 0 ↔ a ∈ gainL c1 c0 p := fun y p hp => by
  obtain ⟨h1, ok⟩ := h y p hp
  refine ⟨fun a => ?_, fun a => ?_⟩
  · have := ok.add a
    rw [mem_gain, (kl.cnt y p hp).1]
    omega
  · have := ok.add a
    rw [mem_gain]
    unfold turned
    rw [if_pos rfl, (kl.cnt y p hp).1]
    omega
theorem told_out {c0 c1 : Cat} {pats : List (Str × Pat)} {n : Nat} {st : KSt} {G : Str → Row → Nat} (kl : KLaw c1 pats n st) (h : ∀ y p, look pats y = some p → p.head.length ≤ 3 ∧ ChgOk c0 c1 p (G y)) : ∀ y p, look pats y = some p → (∀ a, G y a ≠ 0 ∧ st.cnt y a = 0 ↔ a ∈ gainL c1 c0 p) ∧ ∀ a, G y a ≠ 0 ∧ turned st y (G y) (-1) a = 0 ↔ a ∈ gainL c0 c1 p := fun y p hp => by
  obtain ⟨h1, ok⟩ := h y p hp
  refine ⟨fun a => ?_, fun a => ?_⟩
  · have := ok.add a
    rw [mem_gain, (kl.cnt y p hp).1]
    omega
  · have := ok.add a
    rw [mem_gain]
    unfold turned
    rw [if_neg (by decide), (kl.cnt y p hp).1]
    omega
theorem pat_eq {st : KSt} {pats : List (Str × Pat)} (h : st.pats = pats) (y : Str) : patD st y = patOf pats y := by
  unfold patD patOf
  rw [h]
theorem ok_Keeper_drop (T : Tx K mg) : OkF P w K mg base (L2.CX P w) 10 (He.fAd K ("Keeper", some "drop")) ["self", "table", "row"] (dropS K) := by
  refine mk_Keeper_drop T (fun vs H Q E ⟨_, _, _, _, _, _, _, _, _, _, _, e, _⟩ => by subst e; rfl) (fun cdv A outer s H vs Q E hr ⟨ka, vx, vr, M, st, m, n, c, pats, x, r, e, hK, kl, rx, rr, hg, hm, hn, hx, hrow, hpat, q⟩ => ?_)
  subst e
  obtain ⟨dx, dp, dc, ds, ll, cd, vt, pk, ck, sk, ws, kin, eM⟩ := id hK
  have hu := hu_of hr
  have rc : Rep H (eCat c) vt := by rw [← kl.cat]; exact kin.tab
  cases hf : findT c x with
  | none =>
    rw [hf] at q
    exact wss_cons (ws_set 3 sc_Keeper_drop.nd (we_callX (z := .error "UnknownTable") (ok_without_row T |>.mono (by decide)) hr T.gwithout_row passE (aa_cons (ve_de (ve_fld (ve_var 0) kin.ins T.clKeeper T.no_Keeper_tables rfl) rc) (aa_cons (de_var 1 rx) (aa_cons (de_var 2 rr) aa_nil))) ⟨m, c, x, r, hg, by omega, rfl, by rw [hf]⟩ q))
  | some t =>
  rw [hf] at q
  by_cases hin : r ∈ t.rows
  · simp only [if_pos hin] at q
    refine wss_cons (ws_set 3 sc_Keeper_drop.nd (we_callX (z := .ok (eCat (withRows c x (othersOf t r)))) (ok_without_row T |>.mono (by decide)) hr T.gwithout_row passE (aa_cons (ve_de (ve_fld (ve_var 0) kin.ins T.clKeeper T.no_Keeper_tables rfl) rc) (aa_cons (de_var 1 rx) (aa_cons (de_var 2 rr) aa_nil))) ⟨m, c, x, r, hg, by omega, rfl, by rw [hf]; simp only [if_pos hin]; rfl⟩ fun vf H1 s1 rf => ?_))
    have gr := hrow t hf
    have hD := differ_drop hf hin
    have g0 := gcat_drop (r := r) hg hf
    have gt := hg.tab t (findT_mem hf).1
    have hch : ∀ y p, look pats y = some p → p.head.length ≤ 3 ∧ ChgOk (withRows c x (othersOf t r)) c p (chgG c p t x r) := fun y p hp => ⟨(hpat y p hp).hlen, chg_ok hD g0 hg (by omega) (by omega) (gpat_with (hpat y p hp)) (hpat y p hp) gr⟩
    have hch2 : ∀ y p, look pats y = some p → p.head.length ≤ 3 ∧ ChgOk (withRows c x (othersOf t r)) c p (chgG c (patOf pats y) t x r) := fun y p hp => by
      have e : patOf pats y = p := by unfold patOf; rw [hp]; rfl
      rw [e]; exact hch y p hp
    refine wss_cons (ws_set 4 sc_Keeper_drop.nd (we_meth (ok_Keeper_changes T) hr (ve_var 0) (s1 _ _ kin.ins) T.clKeeper T.me_Keeper_changes rfl passL (aa_cons (ve_de (ve_fld (ve_var 0) (s1 _ _ kin.ins) T.clKeeper T.no_Keeper_tables rfl) (rc.mono (.of s1))) (aa_cons (de_var 1 (rx.mono (.of s1))) (aa_cons (de_var 2 (rr.mono (.of s1))) aa_nil))) fun vs H2 s2 rl => ?_))
    obtain ⟨w1, w2, w3, e, r1, r2, r3⟩ := rl.three
    subst e
    have s12 := s1.trans s2
    refine ⟨ka, w1, w2, w3, M, st, c, m, x, r, t, rfl, hK.mono s12, r1, r2, r3, hg, by omega, hf, gr, fun y p hp => hpat y p (by rw [← kl.pt]; exact hp), fun fd fk H3 s3 n3 h3 hF hfr => ?_⟩
    have k3 := kin.mono (s12.trans s3)
    have rf3 : Rep H3 _ vf := rf.mono (.of (s2.trans s3))
    have hfdM : fd ∉ M := fun hm => by
      obtain ⟨u, h, _⟩ := (hK.mono s12).loose fd hm
      rw [n3] at h; cases h
    have hdM : ∀ y d, valV fk (.inr y) = some (.ref d) → d ∉ M := fun y d hd hm => by
      obtain ⟨u, h, _⟩ := (hK.mono s12).loose d hm
      rw [hfr y d hd] at h; cases h
    have kaM : ka ∈ M := by rw [eM]; exact List.mem_append_left _ List.mem_cons_self
    refine wss_cons (ws_fldD (eCat (withRows c x (othersOf t r))) (de_var 3 rf3) (ve_var 0) k3.ins T.clKeeper T.no_Keeper_tables (fun v4 H4 s4 r4 => ?_) (by show 5 < 1000; decide))
    have k4 := (k3.mono s4).retab r4
    have b4 : SameB M H3 (upd H4 ka (.ins (He.ga K "Keeper") dx (putF "tables" v4 (keepF vt dp dc ds ll)))) := (SameB.of s4).trans (.upd kaM)
    have kp4 : Kp H3 (upd H4 ka (.ins (He.ga K "Keeper") dx (putF "tables" v4 (keepF vt dp dc ds ll)))) := (Kp.of s4).trans (.upd (s4 _ _ k3.ins) rfl)
    have k4 : KIn K (upd H4 ka (.ins (He.ga K "Keeper") dx (putF "tables" v4 (keepF vt dp dc ds ll)))) ka dx dp dc ds ll cd v4 pk ck sk ws (stCat st (withRows c x (othersOf t r))) := k4
    generalize upd H4 ka (.ins (He.ga K "Keeper") dx (putF "tables" v4 (keepF vt dp dc ds ll))) = H5 at *
    have rx5 : Rep H5 (.str x) vx := rx
    have rr5 : Rep H5 (eRow r) vr := (rr.mono (.of (s12.trans s3))).mono kp4
    have hl4 := gt.hi
    refine wss_cons (ws_expr (we_meth (ok_Keeper_note T |>.mono (by decide)) hr (ve_var 0) k4.ins T.clKeeper T.me_Keeper_note rfl passL (aa_one (LE.lv (note_row (de_str (x := "drop")) (de_var 1 rx5) (le_digits n_Keeper_drop (defScope s_Keeper_drop) 5 rfl sc_Keeper_drop.nd gr hl4 (DE.ue (de_var 2 rr5)) fun y u H6 hy s6 ru => ?_) gr hl4))) fun vs H6 s6 ⟨v6, e6, l, ys, e7, tl, rl6⟩ => ?_))
    · intro s7 H7 C cl fp
      exact de_strI T.b_str (de_var 5 ru) (log3 (gr.val y hy))
    subst e6 e7
    rw [rl6.strs] at tl
    obtain ⟨z1, z2⟩ := note_ok (word := "drop") gr hl4 (by decide) (show x.length ≤ 2000 by omega)
    refine ⟨ka, l, M, stCat st (withRows c x (othersOf t r)), _, rfl, ⟨dx, dp, dc, ds, ll, cd, v4, pk, ck, sk, ws, k4.mono s6, eM⟩, tl, z1, z2, by show st.n ≤ 1000; rw [kl.num]; omega, fun v7 H7 e7 b7 kat7 => ?_⟩
    subst e7
    have b57 : SameB M H5 H7 := (SameB.of s6).trans b7
    have b37 := b4.trans b57
    have h7 := b37 _ _ h3 hfdM
    have hF7 : FoundAt H7 (srtS (kNames st)) (fun y => (patD st y).head.length) (fun y => chgG c (patD st y) t x r) fk := hF.keep fun y d o hd ho => b37 d o ho (hdM y d hd)
    obtain ⟨dx7, vt7, dp7, dc7, ds7, ll7, i7⟩ := kat7.ins
    have kl2 : KLaw c pats n st := kl
    refine wss_one (ws_ret (we_meth (ok_Keeper_turn_all T |>.mono (by decide)) hr (ve_var 0) i7 T.clKeeper T.me_Keeper_turn_all rfl passL (aav_cons (P := fun u _ => u = V.ref fd) mono_eq (ve_var 4) (aa_one (P := fun u _ => u = V.int (-1)) (de_neg (de_int (i := 1))))) fun vs H8 s8 ⟨w1, q1, e1, e2, w3, e3, e4⟩ => ?_))
    subst e1 e2 e3 e4
    have hpe : ∀ y, chgG c (patD st y) t x r = chgG c (patOf pats y) t x r := fun y => by rw [pat_eq kl.pt]
    refine ⟨ka, fd, M, _, fk, fun y => chgG c (patOf pats y) t x r, -1, fun y => (joinedL c (patOf pats y)).length - (joinedL (withRows c x (othersOf t r)) (patOf pats y)).length, fun y => (joinedL (withRows c x (othersOf t r)) (patOf pats y)).length, rfl, kat7.mono s8, s8 _ _ h7, ?_, hfdM, hdM, ?_, fun v9 H9 gl b9 kat9 ht r9 => ?_⟩
    · have : FoundAt H8 (srtS (kNames st)) (fun y => (patD st y).head.length) (fun y => chgG c (patD st y) t x r) fk := hF7.keep fun y d o hd ho => s8 d o ho
      rw [show (fun y => chgG c (patD st y) t x r) = fun y => chgG c (patOf pats y) t x r from funext hpe] at this
      exact this
    · exact turn_out (st := st) kl2 hch2
    · refine q v9 H9 _ ((((SameB.of (s12.trans s3)).trans b37).trans (.of s8)).trans b9) kat9 (law_out kl2 hch2 (fun y => rfl) (by rw [← kl.num]; rfl)) ?_
      have e9 := chg_of (st := ⟨withRows c x (othersOf t r), st.pats, st.cnt, st.size, st.n + 1⟩) (b := c) (n := withRows c x (othersOf t r)) (pats := pats) kl.pt ht (told_out (st := st) kl2 hch2)
      rw [← e9]
      exact r9
  · simp only [if_neg hin] at q
    exact wss_cons (ws_set 3 sc_Keeper_drop.nd (we_callX (z := .error "RowError") (ok_without_row T |>.mono (by decide)) hr T.gwithout_row passE (aa_cons (ve_de (ve_fld (ve_var 0) kin.ins T.clKeeper T.no_Keeper_tables rfl) rc) (aa_cons (de_var 1 rx) (aa_cons (de_var 2 rr) aa_nil))) ⟨m, c, x, r, hg, by omega, rfl, by rw [hf]; simp only [if_neg hin]⟩ q))
theorem ok_Keeper_add (T : Tx K mg) : OkF P w K mg base (L2.CX P w) 10 (He.fAd K ("Keeper", some "add")) ["self", "table", "row"] (addS K) := by
  refine mk_Keeper_add T (fun vs H Q E ⟨_, _, _, _, _, _, _, _, _, _, _, e, _⟩ => by subst e; rfl) (fun cdv A outer s H vs Q E hr ⟨ka, vx, vr, M, st, m, n, c, pats, x, r, e, hK, kl, rx, rr, hg, hm, hn, hx, hrow, hpat, q⟩ => ?_)
  subst e
  obtain ⟨dx, dp, dc, ds, ll, cd, vt, pk, ck, sk, ws, kin, eM⟩ := id hK
  have hu := hu_of hr
  have rc : Rep H (eCat c) vt := by rw [← kl.cat]; exact kin.tab
  cases hf : findT c x with
  | none =>
    rw [hf] at q
    exact wss_cons (ws_set 3 sc_Keeper_add.nd (we_callX (z := .error "UnknownTable") (ok_with_row T |>.mono (by decide)) hr T.gwith_row passE (aa_cons (ve_de (ve_fld (ve_var 0) kin.ins T.clKeeper T.no_Keeper_tables rfl) rc) (aa_cons (de_var 1 rx) (aa_cons (de_var 2 rr) aa_nil))) ⟨m, c, x, r, hg, hm, hrow, rfl, by rw [hf]⟩ q))
  | some t =>
  rw [hf] at q
  by_cases hin : r ∈ t.rows
  · simp only [if_pos hin] at q
    exact wss_cons (ws_set 3 sc_Keeper_add.nd (we_callX (z := .error "RowError") (ok_with_row T |>.mono (by decide)) hr T.gwith_row passE (aa_cons (ve_de (ve_fld (ve_var 0) kin.ins T.clKeeper T.no_Keeper_tables rfl) rc) (aa_cons (de_var 1 rx) (aa_cons (de_var 2 rr) aa_nil))) ⟨m, c, x, r, hg, hm, hrow, rfl, by rw [hf]; simp only [if_pos hin]⟩ q))
  · simp only [if_neg hin] at q
    refine wss_cons (ws_set 3 sc_Keeper_add.nd (we_callX (z := .ok (eCat (withRows c x (addRows t r)))) (ok_with_row T |>.mono (by decide)) hr T.gwith_row passE (aa_cons (ve_de (ve_fld (ve_var 0) kin.ins T.clKeeper T.no_Keeper_tables rfl) rc) (aa_cons (de_var 1 rx) (aa_cons (de_var 2 rr) aa_nil))) ⟨m, c, x, r, hg, hm, hrow, rfl, by rw [hf]; simp only [if_neg hin]; rfl⟩ fun vf H1 s1 rf => ?_))
    have gr := hrow t hf
    have hD := differ_add hg hf hin
    have g1 := gcat_add hg hf hin gr
    have gt := hg.tab t (findT_mem hf).1
    generalize ec1 : withRows c x (addRows t r) = c1 at *
    generalize et1 : ({ t with rows := addRows t r } : Tab) = t1 at *
    have gr1 : GRow t1.cols r := by rw [← et1]; exact gr
    have hpat1 : ∀ y p, look pats y = some p → GPat c1 p := fun y p hp => by rw [← ec1]; exact gpat_with (hpat y p hp)
    have hch : ∀ y p, look pats y = some p → p.head.length ≤ 3 ∧ ChgOk c c1 p (chgG c1 (patOf pats y) t1 x r) := fun y p hp => by
      have e : patOf pats y = p := by unfold patOf; rw [hp]; rfl
      rw [e]; exact ⟨(hpat y p hp).hlen, chg_ok hD hg g1 (by omega) (by omega) (hpat y p hp) (hpat1 y p hp) gr1⟩
    refine wss_cons (ws_set 4 sc_Keeper_add.nd (we_meth (ok_Keeper_changes T) hr (ve_var 0) (s1 _ _ kin.ins) T.clKeeper T.me_Keeper_changes rfl passL (aa_cons (de_var 3 rf) (aa_cons (de_var 1 (rx.mono (.of s1))) (aa_cons (de_var 2 (rr.mono (.of s1))) aa_nil))) fun vs H2 s2 rl => ?_))
    obtain ⟨w1, w2, w3, e, r1, r2, r3⟩ := rl.three
    subst e
    have s12 := s1.trans s2
    refine ⟨ka, w1, w2, w3, M, st, c1, m + 1, x, r, t1, rfl, hK.mono s12, r1, r2, r3, g1, by omega, hD.at1, gr1, fun y p hp => hpat1 y p (by rw [← kl.pt]; exact hp), fun fd fk H3 s3 n3 h3 hF hfr => ?_⟩
    have k3 := kin.mono (s12.trans s3)
    have rf3 : Rep H3 (eCat c1) vf := rf.mono (.of (s2.trans s3))
    have hfdM : fd ∉ M := fun hm => by
      obtain ⟨u, h, _⟩ := (hK.mono s12).loose fd hm
      rw [n3] at h; cases h
    have hdM : ∀ y d, valV fk (.inr y) = some (.ref d) → d ∉ M := fun y d hd hm => by
      obtain ⟨u, h, _⟩ := (hK.mono s12).loose d hm
      rw [hfr y d hd] at h; cases h
    have kaM : ka ∈ M := by rw [eM]; exact List.mem_append_left _ List.mem_cons_self
    have hpl := kin.few
    have hskl := named_len kin.ks
    refine wss_cons (ws_nx (fun σ8 H8 => ∃ o5, σ8 = [some (.ref ka), some vx, some vr, some vf, some (.ref fd), o5, none, none] ∧ Same H3 H8) (ws_forKK (passes_of rfl) (fun od => ve_var 4) h3 (pg_name (i := 5) sc_Keeper_add.nd rfl (.inr rfl)) (fun od i σ' H' => ∃ o5, σ' = [some (.ref ka), some vx, some vr, some vf, some (.ref fd), o5, none, none] ∧ Same (upd H3 fd (.frz od (.dK fk))) H') rfl
      (fun od H4 s4 => ⟨none, rfl, s4⟩) (fun od i σ' H' ⟨_, _, s4⟩ => s4 _ _ upd_same) ?_ fun od σ' H' ⟨o5, eσ, s4⟩ => ⟨o5, eσ, same_unlock h3 s4⟩) ?_)
    · rintro od i key v σ' H' hkv ⟨o5, eσ, s4⟩
      subst eσ
      have hkm : key ∈ fk.map (·.1) := List.mem_map.mpr ⟨(key, v), List.mem_of_getElem? hkv, rfl⟩
      rw [hF.1] at hkm
      obtain ⟨y, hy, ek⟩ := List.mem_map.mp hkm
      subst ek
      obtain ⟨d, kv, f1, f2, f3⟩ := hF.2 y hy
      have hyk := (srtS_perm (kNames st)).mem_iff.mp hy
      obtain ⟨p, hp⟩ := look_some (pats := st.pats) hyk
      have epd : patD st y = p := by unfold patD; rw [hp]; rfl
      have f3 : CtD (patD st y).head.length kv (chgG c1 (patD st y) t1 x r) := f3
      rw [epd] at f3
      have hp2 : look pats y = some p := by rw [← kl.pt]; exact hp
      obtain ⟨hh, ok⟩ := hch y p hp2
      have epo : patOf pats y = p := by unfold patOf; rw [hp2]; rfl
      rw [epo] at ok
      obtain ⟨rs, k1, k2, k3', k4⟩ := f3.keys
      have hdf : d ≠ fd := fun e => by rw [e, h3] at f2; cases f2
      have keep : ∀ a o, a ≠ fd → H3 a = some o → H' a = some o := fun a o h1 h2 => s4 _ _ (by rw [upd_ne h1]; exact h2)
      have i' := keep _ _ (fun e => by rw [← e, k3.ins] at h3; cases h3) k3.ins
      have hfds : ds ≠ fd := fun e => by
        obtain ⟨u, h, _⟩ := (hK.mono s12).loose ds (by rw [eM]; exact kM_dicts ds (by simp))
        rw [e, n3] at h; cases h
      have hs' := keep _ _ hfds k3.hs
      have hfd' : H' fd = some (.frz od (.dK fk)) := s4 _ _ upd_same
      have hd' := keep _ _ hdf f2
      have hszv := kin.siz y p hp
      refine wss_one (ws_if (BT.go (k := decide ((20000 : Int) < (st.size y : Int) + (kv.map fun kv => (chgG c1 p t1 x r (unI kv.1) : Int)).sum)) (bt_cmp (ce_gt (de_add (de_n ?_) (de_sum rfl T.b_sum (LE.lv ?_))) (de_gint T.VISIT_LIMIT))) (Same.refl H') fun H5 s5 => ?_))
      · exact ve_dgetK (k := .inr y) hu (ve_fld (ve_var 0) i' T.clKeeper T.no_Keeper_sizes rfl) (.inl hs') (ve_var 5) hszv
      · refine le_mKT n_Keeper_add (defScope s_Keeper_add) 6 (fun kv => (chgG c1 p t1 x r (unI kv.1) : Int)) rfl sc_Keeper_add.nd (fun H6 od6 s6 => ve_dgetK (k := .inr y) hu (ve_var 4) (.inr ⟨od, by rw [upd_ne (Ne.symm hdf)]; exact s6 _ _ hfd'⟩) (ve_var 5) f1) hd' (by have := f3.len hh; omega) fun H6 od6 kv2 b H7 hkv2 s6 s7 hb7 => ?_
        have hk1 : kv2.1 ∈ kv.map (·.1) := List.mem_map.mpr ⟨kv2, hkv2, rfl⟩
        rw [k1] at hk1
        obtain ⟨a, ham, ea⟩ := List.mem_map.mp hk1
        rw [← ea] at hb7 ⊢
        rw [unI_kI]
        have hva : valV kv (kI a) = some (.int (chgG c1 p t1 x r a : Int)) := by rw [f3.val, if_neg ((k4 a).mp ham)]
        intro s8 H8 C cl fp
        exact de_n (ve_dgetT hu (ve_dgetK (k := .inr y) hu (ve_var 4) (.inr ⟨od, s7 _ _ (by rw [upd_ne (Ne.symm hdf)]; exact s6 _ _ hfd')⟩) (ve_var 5) f1) (.inr ⟨od6, s7 _ _ upd_same⟩) (de_var (d := eRow a) 6 (.ofTupI (by rw [inl_kV] at hb7; exact hb7))) hva)
      · have e1 : (kv.map fun kv => (chgG c1 p t1 x r (unI kv.1) : Int)) = rs.map fun a => (chgG c1 p t1 x r a : Int) := by
          rw [show (kv.map fun kv => (chgG c1 p t1 x r (unI kv.1) : Int)) = (kv.map (·.1)).map (fun k => (chgG c1 p t1 x r (unI k) : Int)) by rw [List.map_map]; rfl, k1, List.map_map]
          refine List.map_congr_left fun a _ => ?_
          show (chgG c1 p t1 x r (unI (kI a)) : Int) = _
          rw [unI_kI]
        rw [e1, sum_cast, ok.sum rs k2 k4, (kl.cnt y p hp2).2]
        have := ok.few
        have hle := ok.le
        rw [decide_eq_false (by omega), if_neg (by decide)]
        exact wss_nil ⟨_, rfl, s4.trans s5⟩
    rintro σ8 H8 ⟨o5, eσ, s38⟩
    subst eσ
    have h8 := s38 _ _ h3
    have hF8 : FoundAt H8 (srtS (kNames st)) (fun y => (patD st y).head.length) (fun y => chgG c1 (patD st y) t1 x r) fk := hF.keep fun y d o hd ho => s38 d o ho
    have k8 := k3.mono s38
    have rf8 : Rep H8 (eCat c1) vf := rf3.mono (.of s38)
    refine wss_cons (ws_fldD (eCat c1) (de_var 3 rf8) (ve_var 0) k8.ins T.clKeeper T.no_Keeper_tables (fun v4 H4 s4 r4 => ?_) (by show 5 < 1000; decide))
    have k4 := (k8.mono s4).retab r4
    have b4 : SameB M H8 (upd H4 ka (.ins (He.ga K "Keeper") dx (putF "tables" v4 (keepF vt dp dc ds ll)))) := (SameB.of s4).trans (.upd kaM)
    have kp4 : Kp H8 (upd H4 ka (.ins (He.ga K "Keeper") dx (putF "tables" v4 (keepF vt dp dc ds ll)))) := (Kp.of s4).trans (.upd (s4 _ _ k8.ins) rfl)
    have k4 : KIn K (upd H4 ka (.ins (He.ga K "Keeper") dx (putF "tables" v4 (keepF vt dp dc ds ll)))) ka dx dp dc ds ll cd v4 pk ck sk ws (stCat st c1) := k4
    generalize upd H4 ka (.ins (He.ga K "Keeper") dx (putF "tables" v4 (keepF vt dp dc ds ll))) = H5 at *
    have rx5 : Rep H5 (.str x) vx := rx
    have rr5 : Rep H5 (eRow r) vr := (rr.mono (.of ((s12.trans s3).trans s38))).mono kp4
    have hl4 := gt.hi
    refine wss_cons (ws_expr (we_meth (ok_Keeper_note T |>.mono (by decide)) hr (ve_var 0) k4.ins T.clKeeper T.me_Keeper_note rfl passL (aa_one (LE.lv (note_row (de_str (x := "add")) (de_var 1 rx5) (le_digits n_Keeper_add (defScope s_Keeper_add) 7 rfl sc_Keeper_add.nd gr hl4 (DE.ue (de_var 2 rr5)) fun y u H6 hy s6 ru => ?_) gr hl4))) fun vs H6 s6 ⟨v6, e6, l, ys, e7, tl, rl6⟩ => ?_))
    · intro s7 H7 C cl fp
      exact de_strI T.b_str (de_var 7 ru) (log3 (gr.val y hy))
    subst e6 e7
    rw [rl6.strs] at tl
    obtain ⟨z1, z2⟩ := note_ok (word := "add") gr hl4 (by decide) (show x.length ≤ 2000 by omega)
    refine ⟨ka, l, M, stCat st c1, _, rfl, ⟨dx, dp, dc, ds, ll, cd, v4, pk, ck, sk, ws, k4.mono s6, eM⟩, tl, z1, z2, by show st.n ≤ 1000; rw [kl.num]; omega, fun v7 H7 e7 b7 kat7 => ?_⟩
    subst e7
    have b57 : SameB M H5 H7 := (SameB.of s6).trans b7
    have b87 := b4.trans b57
    have h7 := b87 _ _ h8 hfdM
    have hF7 : FoundAt H7 (srtS (kNames st)) (fun y => (patD st y).head.length) (fun y => chgG c1 (patD st y) t1 x r) fk := hF8.keep fun y d o hd ho => b87 d o ho (hdM y d hd)
    obtain ⟨dx7, vt7, dp7, dc7, ds7, ll7, i7⟩ := kat7.ins
    refine wss_one (ws_ret (we_meth (ok_Keeper_turn_all T |>.mono (by decide)) hr (ve_var 0) i7 T.clKeeper T.me_Keeper_turn_all rfl passL (aav_cons (P := fun u _ => u = V.ref fd) mono_eq (ve_var 4) (aa_one (P := fun u _ => u = V.int 1) (de_int (i := 1)))) fun vs H10 s10 ⟨w1, q1, e1, e2, w3, e3, e4⟩ => ?_))
    subst e1 e2 e3 e4
    have hpe : ∀ y, chgG c1 (patD st y) t1 x r = chgG c1 (patOf pats y) t1 x r := fun y => by rw [pat_eq kl.pt]
    refine ⟨ka, fd, M, _, fk, fun y => chgG c1 (patOf pats y) t1 x r, 1, fun y => (joinedL c1 (patOf pats y)).length - (joinedL c (patOf pats y)).length, fun y => (joinedL c1 (patOf pats y)).length, rfl, kat7.mono s10, s10 _ _ h7, ?_, hfdM, hdM, ?_, fun v9 H9 gl b9 kat9 ht r9 => ?_⟩
    · have : FoundAt H10 (srtS (kNames st)) (fun y => (patD st y).head.length) (fun y => chgG c1 (patD st y) t1 x r) fk := hF7.keep fun y d o hd ho => s10 d o ho
      rw [show (fun y => chgG c1 (patD st y) t1 x r) = fun y => chgG c1 (patOf pats y) t1 x r from funext hpe] at this
      exact this
    · exact turn_in (st := st) kl hch
    · refine q v9 H9 _ ((((SameB.of ((s12.trans s3).trans s38)).trans b87).trans (.of s10)).trans b9) kat9 (law_in kl hch (fun y => rfl) (by rw [← kl.num]; rfl)) ?_
      have e9 := chg_of (st := ⟨c1, st.pats, st.cnt, st.size, st.n + 1⟩) (b := c) (n := c1) (pats := pats) kl.pt ht (told_in (st := st) kl hch)
      rw [← e9]
      exact r9
end
end J
/-! The law's drawing of numbers. -/
namespace J
open PySem PySem.Spec PyProof.Rows L2
/-- the drawing's list at d, the script's copy at l -/
def DAt (H : Hp) (d l : Addr) : Prop := ∃ (ns : List Int) (a : Nat) (b sd : Int), H d = some (.lst [.ref l, .int (a : Int), .int b, .int sd]) ∧ H l = some (.lst (ns.map V.int)) ∧ l ≠ d ∧ 0 ≤ b ∧ 0 ≤ sd ∧ sd < 2147483647 ∧ ns.length ≤ 63
theorem DAt.mono {H H' : Hp} {d l : Addr} (h : DAt H d l) (s : Same H H') : DAt H' d l :=
  let ⟨ns, a, b, sd, h1, h2, z⟩ := h
  ⟨ns, a, b, sd, s _ _ h1, s _ _ h2, z⟩
theorem DAt.off {H H' : Hp} {d l : Addr} {M : List Addr} (h : DAt H d l) (s : SameB M H H') (hd : d ∉ M) (hl : l ∉ M) : DAt H' d l :=
  let ⟨ns, a, b, sd, h1, h2, z⟩ := h
  ⟨ns, a, b, sd, s _ _ h1 hd, s _ _ h2 hl, z⟩
theorem DAt.kp {H H' : Hp} {d l : Addr} (h : DAt H d l) (s : SameB [d] H H') : Kp H H' :=
  let ⟨_, _, _, _, h1, _⟩ := h
  kp1 s h1 rfl
theorem DAt.ne {H : Hp} {d l p : Addr} (h : DAt H d l) (hp : H p = none) : p ≠ d ∧ p ≠ l := by
  obtain ⟨ns, a, b, sd, h1, h2, _⟩ := h
  exact ⟨fun e => (by rw [e, h1] at hp; cases hp), fun e => by rw [e, h2] at hp; cases hp⟩
theorem DAt.put {H : Hp} {d l p : Addr} {o : HO} (h : DAt H d l) (n : p ≠ d ∧ p ≠ l) : DAt (upd H p o) d l := by
  obtain ⟨ns, a, b, sd, h1, h2, z⟩ := h
  exact ⟨ns, a, b, sd, by rw [upd_ne (Ne.symm n.1)]; exact h1, by rw [upd_ne (Ne.symm n.2)]; exact h2, z⟩
section
variable {X : Cx} {a b c e o i iter tg elt : Expr} {body : List Stmt} {scope : Scope} {σ : L2.St} {H : Hp} {pos tpos p2 tp apos cpos : Pos} {D : Ends} {g : TG} {l : Addr} {xs : List V} {v : V} {j : Int} {P : V → Hp → Prop} {Q : VK} {x : Str}
theorem ve_ixl (ho : VE X o σ H (.ref l)) (hl : SqL X.K H l xs) (hi : DE X i σ H (.int j)) (hv : atI xs j = some v) (hs : PlainIx i := by intro _ _; rfl) : VE X (.Subscript o i pos) σ H v := fun H1 s =>
  we_of (pe_ix ix_list pe_we pe_we hs) (ho.go s fun x H2 s2 e1 => hi.go (s.trans s2) fun y H3 s3 r2 => ⟨l, xs, j, v, e1, r2, (s.trans (s2.trans s3)).seq hl, hv, s2.trans s3, rfl⟩)
/-- for tg in range(a number not known ahead) -/
theorem ws_forX {ne : Expr} {p rp : Pos} (hp : PassesOwn (model X.prog X.w) X.A X.env X.xe) (hc : X.calm = true) (hm : X.mg "range" = none) (hit : WE X ne σ H fun v H1 => ∃ n : Nat, v = .int (n : Int) ∧ n < 100000 ∧ ∃ Pv : Nat → L2.St → Hp → Prop, Pv 0 σ H1 ∧
      (∀ i σ' H', i < n → Pv i σ' H' → g (.int (i : Int)) σ' H' fun σ2 H2 => WSs X body { D with nx := Pv (i + 1), ct := Pv (i + 1), bk := D.nx } σ2 H2) ∧ ∀ σ' H', Pv n σ' H' → D.nx σ' H') (hg : PG X tg g)
    (hgl : Gl X "range" := by rfl) (hst : starEach [ne] X.env = [(false, eval ne X.env)] := by rfl) (hf : ∀ x, foldedSetIterable (.Call (.Name "range" p) [ne] [] rp) X.env x = pure x := by intro _; rfl) : WS X (.For tg (.Call (.Name "range" p) [ne] [] rp) body [] pos) D σ H :=
  ws_of (ps_for hp hc (pi_range1 hgl hm (pa_cons pe_we pa_nil hst) hst) hg pss_we hf) (hit.mono fun v H1 ⟨n, e, hz, Pv, h0, hs, hd⟩ => ⟨(n : Int), by rw [e], by omega, by omega, by
    refine for_range (lo := 0) (n := n) Pv h0 (fun i σ' H' hi p => ?_) hd
    rw [Int.zero_add]
    exact hs i σ' H' hi p⟩)
/-- [elt for x in range(n)], each item drawn -/
theorem we_lcD {ne : Expr} {p rp : Pos} {d ll : Addr} (N : List Str) (sc : Scope) (j : Nat) (n : Nat) (Pe : PyData → Prop) (hc : X.calm = true) (hN : X.N.Nodup) (hm : X.mg "range" = none) (hD : DAt H d ll) (hit : DE X ne σ H (.int (n : Int))) (hz : n < 100000)
    (hb : ∀ (i : Nat) H2, i < n → SameB [d] H H2 → DAt H2 d ll → Blk X scope fun Y => WE Y elt (σ.set j (some (.int (i : Int)))) H2 fun v H3 => SameB [d] H2 H3 ∧ DAt H3 d ll ∧ ∃ dd, Pe dd ∧ Rep H3 dd v)
    (ok : blkC N sc scope [(x, j)] = true := by decide +kernel) (h1 : X.N = N := by rfl) (h2 : X.env.scope = sc := by rfl) (hi : X.N[j]? = some x := by rfl) (hl : scope.names.lookup x = some .local := by rfl)
    (hgl : Gl X "range" := by rfl) (hst : starEach [ne] X.env = [(false, eval ne X.env)] := by rfl) (hs : ∀ x, foldedSetIterable (.Call (.Name "range" p) [ne] [] rp) X.env x = pure x := by intro _; rfl) :
    WE X (.ListComp elt [⟨.Name x tp, .Call (.Name "range" p) [ne] [] rp, [], 0⟩] scope pos) σ H fun v H2 => SameB [d] H H2 ∧ DAt H2 d ll ∧ ∃ D xs ds, v = .ref D ∧ H D = none ∧ H2 D = some (.lst xs) ∧ RepL H2 ds xs ∧ ds.length = n ∧ ∀ dd ∈ ds, Pe dd :=
  we_of (pe_lc (own := [(x, j)]) hc hN (pi_range1 hgl hm (pa_cons pe_we pa_nil hst) hst) (by subst h1 h2; exact blkOk_by ok) (pg_blk hN hi hl) (pts_blk (ifs := [])) pe_blk hs) (hit.go (Same.refl H) fun v H2 s2 r => ⟨(n : Int), by rw [(show v = _ from r)], by omega, by omega, fun D hDn => by
    have hD2 := hD.mono s2
    refine lc_range (lo := 0) (n := n) (fun i H' => i ≤ n ∧ SameB [d] H2 H' ∧ DAt H' d ll ∧ ∃ acc ds, H' D = some (.lst acc) ∧ RepL H' ds acc ∧ ds.length = i ∧ ∀ dd ∈ ds, Pe dd) ⟨Nat.zero_le _, .of (.new hDn), hD2.put (hD2.ne hDn), [], [], upd_same, rfl, rfl, nofun⟩ (fun i H' hi' ⟨_, b, hd, acc, ds, a1, a2, a3, a4⟩ => ?_) fun H' ⟨_, b, hd, acc, ds, a1, a2, a3, a4⟩ => ?_
    · rw [Int.zero_add]
      refine ⟨wipe1, ?_⟩
      rw [show (wipe σ ([(_, j)].map (·.2))).set j _ = σ.set j _ from wipe2]
      intro s0 H0 C cl fp
      constructor
      intro pins st I
      refine thn ((bts_nil H' (Same.refl H')).run pins st I) fun k st2 ⟨H3, I3, s3, e3⟩ => ⟨H3, I3, ?_⟩
      subst e3
      refine iteT fun s0 H0 C cl fp => (hb i H3 hi' (((SameB.of s2).trans b).trans (.of s3)) (hd.mono s3) s0 H0 C cl fp).mono fun y H4 ⟨b4, d4, dd, pe, r4⟩ => ?_
      have hDd : D ∉ [d] := fun hm => (hD2.ne hDn).1 (List.mem_singleton.mp hm)
      have a4' := b4 _ _ (s3 _ _ a1) hDd
      have r3 : RepL H4 ds acc := a2.mono ((Kp.of s3).trans ((hd.mono s3).kp b4))
      refine ⟨acc, a4', szlt (by rw [r3.length, a3]; omega), hi', ?_, d4.put (hD2.ne hDn), acc ++ [y], ds ++ [dd], upd_same, (r3.snoc r4).mono (.upd a4' rfl), by rw [List.length_append, a3]; rfl, fun z hz => (List.mem_append.mp hz).elim (a4 z) fun e => by rw [List.mem_singleton.mp e]; exact pe⟩
      refine fun q u h hn => ?_
      have h5 := b4 _ _ (s3 _ _ (b q u h hn)) hn
      rw [upd_ne fun e => by rw [e, hDn] at h; cases h]
      exact h5
    · exact ⟨(SameB.of s2).trans b, hd, D, acc, ds, rfl, s2.free hDn, a1, a2, a3, a4⟩⟩)
/-- xs.append(e), the item by hand -/
theorem ws_appW (q : WE X o σ H fun x H1 => x = .ref l ∧ (∃ ys, SqL X.K H1 l ys) ∧ WE X e σ H1 fun v H2 => ∃ xs, H2 l = some (.lst xs) ∧ xs.length < 100000 ∧ D.nx σ (upd H2 l (.lst (xs ++ [v]))))
    (hbase : attributeBase o "append" X.env (eval o X.env) = eval o X.env := by rfl)
    (hfew : ((backTo cpos (starEach [e] X.env)).all (fun x => !x.1) && (backToKw cpos (keywordEach [] X.env)).all (fun x => x.1.isSome) && decide ([e].length + ([] : List Keyword).length + (if ([] : List Keyword).isEmpty then 0 else 1) < 30)) = true := by rfl)
    (hline : (apos.endLine == cpos.line) = true := by rfl) (hs : starEach [e] X.env = (false, eval e X.env) :: starEach [] X.env := by rfl) (hplain : (backTo cpos (starEach [] X.env)).any (·.1) = false := by rfl)
    (hw : swapsWith (.Call (.Attribute o "append" apos) [e] [] cpos) none pos.line X.env = pure false := by rfl) : WS X (.Expr (.Call (.Attribute o "append" apos) [e] [] cpos) pos) D σ H :=
  ws_expr (we_of (pe_bm PySem.F.plainAttrs_list PySem.F.slot_list_append PySem.F.type_list_append mt_append pe_we pa_we hbase hfew hline hs hplain) (q.mono fun x H1 ⟨ex, ⟨ys, hy⟩, q1⟩ => by
    subst ex
    exact ⟨.inl ⟨rfl, _, hy⟩, wa_of (pa_cons pe_we pa_nil hs) (q1.mono fun v H2 ⟨xs, h1, h2, h3⟩ => ⟨l, xs, v, rfl, rfl, h1, szlt h2, h3⟩)⟩)) hw
/-- a tuple's items by hand -/
theorem we_ixW (q : WE X a σ H fun x H1 => WE X b σ H1 fun y H2 => ∃ p xs j v, x = .ref p ∧ y = .int j ∧ SqT X.K H2 p xs ∧ atI xs j = some v ∧ Q v H2) (hs : PlainIx b := by intro _ _; rfl) : WE X (.Subscript a b pos) σ H Q := we_of (pe_ix ix_tup pe_we pe_we hs) q
theorem we_ixlW (q : WE X a σ H fun x H1 => WE X b σ H1 fun y H2 => ∃ p xs j v, x = .ref p ∧ y = .int j ∧ SqL X.K H2 p xs ∧ atI xs j = some v ∧ Q v H2) (hs : PlainIx b := by intro _ _; rfl) : WE X (.Subscript a b pos) σ H Q := we_of (pe_ix ix_list pe_we pe_we hs) q
end
section
variable {P : Program} {w : World} {K : PySem.W.Frag} {mg : Str → Option Value} {base : Heap}
def beginS (K : PySem.W.Frag) : Sp := fun vs H Q _ => ∃ (la : Addr) (ns : List Int), vs = [.ref la] ∧ SqL K H la (ns.map V.int) ∧ ns.length ≤ 63 ∧ ∀ d l H', Same H H' → H d = none → H l = none → DAt H' d l → Q (.ref d) H'
theorem ok_l_begin (T : Tx K mg) : OkF P w K mg base (L2.CX P w) 1 (He.fAd K ("_law_begin", none)) ["_law_script"] (beginS K) := by
  refine mk_l_begin T (fun vs H Q E ⟨_, _, e, _⟩ => by subst e; rfl) (fun cdv A outer s H vs Q E hr ⟨la, ns, e, hl, hn, q⟩ => ?_)
  subst e
  refine wss_cons (ws_de (d := .int 1) 1 sc_l_begin.nd de_int fun v1 H1 s1 r1 => ?_)
  cases (show v1 = _ from r1)
  refine wss_cons (ws_forL (ds := ns.map .int) (l := la) (vs := ns.map V.int) (passes_of rfl) rfl (ve_var 0) (s1.seq hl) RepL.ofInts (pg_name (i := 2) sc_l_begin.nd rfl (.inl rfl)) (fun i σ' H' => ∃ (o : Option V) (sd : Int), σ' = [some (.ref la), some (.int sd), o] ∧ Same H1 H' ∧ 0 ≤ sd ∧ sd < 2147483647) (fun H2 s2 => ⟨none, 1, rfl, s2, by decide, by decide⟩)
    (fun i σ' H' ⟨_, _, _, s2, _⟩ => ⟨.of s2, s2.seq (s1.seq hl)⟩) ?_ ?_)
  · rintro i d v σ' H' hd rd ⟨o, sd, eσ, s2, h1, h2⟩
    subst eσ
    obtain ⟨n, hn', e⟩ := map_at hd
    subst e
    refine wss_one (ws_de (d := .int ((sd * 69621 + n % 2147483629 + 7) % 2147483647)) 1 sc_l_begin.nd (de_mod (de_add (de_add (de_mul (de_var (d := .int sd) 1 rfl) de_int (.inl ⟨by omega, by omega⟩)) (de_mod (de_intI T.b_int (de_var 2 rd)) de_int (by decide))) de_int) de_int (by decide)) fun v3 H3 s3 r3 => ?_)
    cases (show v3 = _ from r3)
    exact ⟨_, _, rfl, s2.trans s3, Int.emod_nonneg _ (by decide), Int.emod_lt_of_pos _ (by decide)⟩
  · rintro σ' H' ⟨o, sd, eσ, s2, h1, h2⟩
    subst eσ
    refine wss_one (ws_ret (we_of (pe_lst pa_we) (wa_of (pa_cons pe_we pa_we rfl) (LE.go (le_list T.b_list (LV.qe (ve_lv (ds := ns.map .int) (ve_var 0) ((s1.trans s2).seq hl) RepL.ofInts))) (Same.refl H') fun l xs H3 s3 n3 h3 r3 => (aav_cons (P := fun u _ => u = V.int 0) mono_eq (de_int (i := 0)) (aav_cons (P := fun u _ => u = V.int 0) mono_eq (de_int (i := 0)) (aa_one (P := fun u _ => u = V.int sd) (ve_var 1)))).go (Same.refl H3) fun vs H4 s4 ⟨w1, q1, e1, e2, w3, q3, e3, e4, w5, e5, e6⟩ => ?_))))
    subst e1 e2 e3 e4 e5 e6
    refine ⟨szl (by show 4 ≤ 100000; decide), fun d hd => ?_⟩
    have h4 := s4 _ _ h3
    rw [r3.ints] at h4
    have hld : l ≠ d := fun e => by rw [e, hd] at h4; cases h4
    have sA := (s1.trans s2).trans (s3.trans s4)
    exact q d l _ (sA.trans (.new hd)) (sA.free hd) ((s1.trans s2).free n3) ⟨ns, 0, 0, sd, upd_same, by rw [upd_ne hld]; exact h4, hld, Int.le_refl _, h1, h2, hn⟩
end
end J
/-! One number drawn. -/
namespace J
open PySem PySem.Spec PyProof.Rows L2
section
variable {P : Program} {w : World} {K : PySem.W.Frag} {mg : Str → Option Value} {base : Heap}
def takeS : Sp := fun vs H Q _ => ∃ (d l : Addr) (many : Nat), vs = [.ref d, .int (many : Int)] ∧ DAt H d l ∧ 1 ≤ many ∧ many ≤ 1000 ∧ ∀ (n : Nat) H', SameB [d] H H' → DAt H' d l → n < many → Q (.int (n : Int)) H'
theorem mod_nat {i : Int} {m : Nat} (h : 1 ≤ m) : ∃ n : Nat, i % (m : Int) = (n : Int) ∧ n < m := by
  have h1 := Int.emod_nonneg i (b := (m : Int)) (by omega)
  have h2 := Int.emod_lt_of_pos i (b := (m : Int)) (by omega)
  exact ⟨(i % (m : Int)).toNat, by omega, by omega⟩
theorem ok_l_take (T : Tx K mg) : OkF P w K mg base (L2.CX P w) 1 (He.fAd K ("_law_take", none)) ["_law_d", "_law_many"] takeS := by
  refine mk_l_take T (fun vs H Q E ⟨_, _, _, e, _⟩ => by subst e; rfl) (fun cdv A outer s H vs Q E hr ⟨d, l, many, e, hD, hm1, hm2, q⟩ => ?_)
  subst e
  have hmp : (0 : Int) < (many : Int) := by omega
  obtain ⟨ns, a, b, sd, hd, hl, hld, hb, hs0, hs1, hns⟩ := id hD
  have up : ∀ {H1 : Hp} {b2 sd2 : Int} {a2 : Nat}, SameB [d] H H1 → 0 ≤ b2 → 0 ≤ sd2 → sd2 < 2147483647 → H1 d = some (.lst [.ref l, .int (a2 : Int), .int b2, .int sd2]) → DAt H1 d l := fun {H1 b2 sd2 a2} sb e1 e2 e3 e4 => ⟨ns, a2, b2, sd2, e4, sb _ _ hl fun hm => hld (List.mem_singleton.mp hm), hld, e1, e2, e3, hns⟩
  refine wss_cons (ws_nx (fun σ' H' => ∃ o2, σ' = [some (.ref d), some (.int (many : Int)), o2, none] ∧ SameB [d] H H' ∧ DAt H' d l) (ws_if (BT.go (bt_and (bt_cmp (ce_eq (de_n (ve_ixl (ve_var 0) (SqL.of hd) (de_int (i := 2)) rfl)) de_int)) fun _ => bt_cmp (ce_lt (de_n (ve_ixl (ve_var 0) (SqL.of hd) (de_int (i := 1)) rfl)) (de_len T.b_len (LV.qe (ve_lv (ds := ns.map .int) (ve_ixl (ve_var 0) (SqL.of hd) (de_int (i := 0)) rfl) (SqL.of hl) RepL.ofInts))))) (Same.refl H) fun H1 s1 => ?_)) ?_)
  · have hd1 := s1 _ _ hd
    have hl1 := s1 _ _ hl
    by_cases hc : b = 0 ∧ a < ns.length
    · rw [List.length_map, decide_eq_true hc.1, decide_eq_true (by omega), if_pos (by decide)]
      have hat : atI (ns.map V.int) (a : Int) = some (V.int ns[a]) := atI_n (by rw [List.getElem?_map, List.getElem?_eq_getElem hc.2]; rfl)
      refine wss_cons (ws_lset (k := 2) mono_rep (de_abs T.b_abs (de_intI T.b_int (de_n (ve_ixl (ve_ixl (ve_var 0) (SqL.of hd1) (de_int (i := 0)) rfl) (SqL.of hl1) (de_n (ve_ixl (ve_var 0) (SqL.of hd1) (de_int (i := 1)) rfl)) hat)))) (ve_var 0) hd1 (de_int (i := 2)) (by show 2 < 4; decide) fun v2 H2 s2 e2 => ?_)
      cases (show v2 = _ from e2)
      have b2 : SameB [d] H (L2.upd H2 d (.lst ([V.ref l, V.int (a : Int), V.int b, V.int sd].set 2 (V.int (if ns[a] < 0 then -ns[a] else ns[a]))))) := (SameB.of (s1.trans s2)).trans (.upd (by simp))
      have hd2 : (L2.upd H2 d (.lst ([V.ref l, V.int (a : Int), V.int b, V.int sd].set 2 (V.int (if ns[a] < 0 then -ns[a] else ns[a]))))) d = some (.lst [V.ref l, V.int (a : Int), V.int (if ns[a] < 0 then -ns[a] else ns[a]), V.int sd]) := upd_same
      have hg0 : 0 ≤ (if ns[a] < 0 then -ns[a] else ns[a]) := by split <;> omega
      generalize (if ns[a] < 0 then -ns[a] else ns[a]) = g at *
      generalize L2.upd H2 d (.lst ([V.ref l, V.int (a : Int), V.int b, V.int sd].set 2 (V.int g))) = H3 at *
      refine wss_cons (ws_lset (k := 1) mono_rep (DE.is (d2 := .int ((a + 1 : Nat) : Int)) (de_add (de_n (ve_ixl (ve_var 0) (SqL.of hd2) (de_int (i := 1)) rfl)) de_int) rfl) (ve_var 0) hd2 (de_int (i := 1)) (by show 1 < 4; decide) fun v4 H4 s4 e4 => ?_)
      cases (show v4 = _ from e4)
      have b4 : SameB [d] H (L2.upd H4 d (.lst ([V.ref l, V.int (a : Int), V.int g, V.int sd].set 1 (V.int ((a + 1 : Nat) : Int))))) := (b2.trans (.of s4)).trans (.upd (by simp))
      have hd4 : (L2.upd H4 d (.lst ([V.ref l, V.int (a : Int), V.int g, V.int sd].set 1 (V.int ((a + 1 : Nat) : Int))))) d = some (.lst [V.ref l, V.int ((a + 1 : Nat) : Int), V.int g, V.int sd]) := upd_same
      generalize L2.upd H4 d (.lst ([V.ref l, V.int (a : Int), V.int g, V.int sd].set 1 (V.int ((a + 1 : Nat) : Int)))) = H5 at *
      refine wss_one (ws_if (BT.go (bt_cmp (ce_lt (de_n (ve_ixl (ve_var 0) (SqL.of hd4) (de_int (i := 2)) rfl)) (de_pow (de_int (i := 10)) (de_int (i := 18)) ⟨by decide, by decide, by decide⟩))) (Same.refl H5) fun H6 s6 => ?_))
      have hd6 := s6 _ _ hd4
      by_cases hlt : g < 10 ^ (18 : Int).toNat
      · rw [decide_eq_true hlt, if_pos rfl]
        refine wss_cons (ws_de (d := .int g) 2 sc_l_take.nd (de_intI T.b_int (de_n (ve_ixl (ve_var 0) (SqL.of hd6) (de_int (i := 2)) rfl))) fun v7 H7 s7 e7 => ?_)
        cases (show v7 = _ from e7)
        refine wss_cons (ws_lset (k := 2) mono_rep (de_int (i := 0)) (ve_var 0) (s7 _ _ hd6) (de_int (i := 2)) (by show 2 < 4; decide) fun v8 H8 s8 e8 => ?_)
        cases (show v8 = _ from e8)
        have b8 : SameB [d] H (L2.upd H8 d (.lst ([V.ref l, V.int ((a + 1 : Nat) : Int), V.int g, V.int sd].set 2 (V.int 0)))) := (b4.trans (.of ((s6.trans s7).trans s8))).trans (.upd (by simp))
        have d8 := up (a2 := a + 1) b8 (Int.le_refl 0) hs0 hs1 upd_same
        generalize L2.upd H8 d (.lst ([V.ref l, V.int ((a + 1 : Nat) : Int), V.int g, V.int sd].set 2 (V.int 0))) = H9 at *
        refine wss_one (rt_de (Same.refl H9) (de_mod (de_var (d := .int g) 2 rfl) (de_var (d := .int (many : Int)) 1 rfl) hmp) fun v' H' s' r' => ?_)
        obtain ⟨n, en, hn⟩ := mod_nat (i := g) hm1
        rw [en] at r'
        cases (show v' = _ from r')
        exact q n H' (b8.trans (.of s')) (d8.mono s') hn
      · rw [decide_eq_false hlt, if_neg (by decide)]
        exact wss_nil ⟨_, rfl, b4.trans (.of s6), up (a2 := a + 1) (b4.trans (.of s6)) hg0 hs0 hs1 hd6⟩
    · have : (decide (b = 0) && decide ((a : Int) < ((ns.map PyData.int).length : Int))) = false := by
        rw [List.length_map, Bool.and_eq_false_iff, decide_eq_false_iff_not, decide_eq_false_iff_not]
        by_cases h : b = 0
        · exact .inr fun h2 => hc ⟨h, by omega⟩
        · exact .inl h
      rw [this, if_neg (by decide)]
      exact wss_nil ⟨_, rfl, .of s1, hD.mono s1⟩
  rintro σ1 H1 ⟨o2, eσ, sb, hD1⟩
  subst eσ
  obtain ⟨ns, a, b, sd, hd, hl, hld, hb, hs0, hs1, hns⟩ := id hD1
  have up : ∀ {H2 : Hp} {b2 sd2 : Int}, SameB [d] H1 H2 → 0 ≤ b2 → 0 ≤ sd2 → sd2 < 2147483647 → H2 d = some (.lst [.ref l, .int (a : Int), .int b2, .int sd2]) → DAt H2 d l := fun {H2 b2 sd2} sb e1 e2 e3 e4 => ⟨ns, a, b2, sd2, e4, sb _ _ hl fun hm => hld (List.mem_singleton.mp hm), hld, e1, e2, e3, hns⟩
  refine wss_cons (ws_if (BT.go (bt_cmp (ce_gt (de_n (ve_ixl (ve_var 0) (SqL.of hd) (de_int (i := 2)) rfl)) de_int)) (Same.refl H1) fun H2 s2 => ?_))
  have hd2 := s2 _ _ hd
  by_cases hp : 0 < b
  · rw [decide_eq_true hp, if_pos rfl]
    obtain ⟨n, en, hn⟩ := mod_nat (i := b) hm1
    refine wss_cons (ws_de (d := .int (n : Int)) 3 sc_l_take.nd (DE.is (de_mod (de_intI T.b_int (de_n (ve_ixl (ve_var 0) (SqL.of hd2) (de_int (i := 2)) rfl))) (de_var (d := .int (many : Int)) 1 rfl) hmp) (by rw [en])) fun v3 H3 s3 e3 => ?_)
    cases (show v3 = _ from e3)
    have hd3 := s3 _ _ hd2
    refine wss_cons (ws_lset (k := 2) mono_rep (de_fdiv (de_intI T.b_int (de_n (ve_ixl (ve_var 0) (SqL.of hd3) (de_int (i := 2)) rfl))) (de_var (d := .int (many : Int)) 1 rfl) ⟨hmp, by omega⟩) (ve_var 0) hd3 (de_int (i := 2)) (by show 2 < 4; decide) fun v4 H4 s4 e4 => ?_)
    cases (show v4 = _ from e4)
    have b4 : SameB [d] H1 (L2.upd H4 d (.lst ([V.ref l, V.int (a : Int), V.int b, V.int sd].set 2 (V.int (b / (many : Int)))))) := (SameB.of ((s2.trans s3).trans s4)).trans (.upd (by simp))
    have d4 := up b4 (Int.ediv_nonneg hb (Int.le_of_lt hmp)) hs0 hs1 upd_same
    generalize L2.upd H4 d (.lst ([V.ref l, V.int (a : Int), V.int b, V.int sd].set 2 (V.int (b / (many : Int))))) = H5 at *
    refine wss_one (rt_de (Same.refl H5) (de_var (d := .int (n : Int)) 3 rfl) fun v' H' s' r' => ?_)
    cases (show v' = _ from r')
    exact q n H' ((sb.trans b4).trans (.of s')) (d4.mono s') hn
  · rw [decide_eq_false hp, if_neg (by decide)]
    refine wss_nil (wss_cons (ws_lset (k := 3) mono_rep (de_mod (de_intI T.b_int (de_add (de_mul (de_n (ve_ixl (ve_var 0) (SqL.of hd2) (de_int (i := 3)) rfl)) de_int (.inl ⟨by omega, by omega⟩)) de_int)) de_int (by decide)) (ve_var 0) hd2 (de_int (i := 3)) (by show 3 < 4; decide) fun v4 H4 s4 e4 => ?_))
    cases (show v4 = _ from e4)
    have b4 : SameB [d] H1 (L2.upd H4 d (.lst ([V.ref l, V.int (a : Int), V.int b, V.int sd].set 3 (V.int ((sd * 48271 + 11) % 2147483647))))) := (SameB.of (s2.trans s4)).trans (.upd (by simp))
    have hd4 : (L2.upd H4 d (.lst ([V.ref l, V.int (a : Int), V.int b, V.int sd].set 3 (V.int ((sd * 48271 + 11) % 2147483647))))) d = some (.lst [V.ref l, V.int (a : Int), V.int b, V.int ((sd * 48271 + 11) % 2147483647)]) := upd_same
    have d4 := up b4 hb (Int.emod_nonneg _ (by decide)) (Int.emod_lt_of_pos _ (by decide)) hd4
    generalize ((sd * 48271 + 11) % 2147483647) = sd2 at *
    generalize L2.upd H4 d (.lst ([V.ref l, V.int (a : Int), V.int b, V.int sd].set 3 (V.int sd2))) = H5 at *
    refine wss_one (rt_de (Same.refl H5) (de_mod (de_intI T.b_int (de_fdiv (de_n (ve_ixl (ve_var 0) (SqL.of hd4) (de_int (i := 3)) rfl)) (de_int (i := 3)) ⟨by decide, by decide⟩)) (de_var (d := .int (many : Int)) 1 rfl) hmp) fun v' H' s' r' => ?_)
    obtain ⟨n, en, hn⟩ := mod_nat (i := sd2 / 3) hm1
    rw [en] at r'
    cases (show v' = _ from r')
    exact q n H' ((sb.trans b4).trans (.of s')) (d4.mono s') hn
/-- a draw, called -/
theorem we_take {X : Cx} {a b : Expr} {p pos : Pos} {σ : L2.St} {H : Hp} {Q : VK} {d l : Addr} {many : Nat} {k : Nat} {fa : Addr} {ps : List Str} (O : OkF X.prog X.w X.K X.mg X.base (L2.CX X.prog X.w) k fa ps takeS) (hr : Room k X.A) (hm : X.mg "_law_take" = some (.ref fa)) (hx : Passes (L2.CX X.prog X.w) X E0) (ha : VE X a σ H (.ref d)) (hb : DE X b σ H (.int (many : Int))) (hD : DAt H d l) (h1 : 1 ≤ many) (h2 : many ≤ 1000)
    (q : ∀ (n : Nat) H', SameB [d] H H' → DAt H' d l → n < many → Q (.int (n : Int)) H') (hg : Gl X "_law_take" := by rfl) (he : starEach [a, b] X.env = (false, eval a X.env) :: starEach [b] X.env := by rfl) (he2 : starEach [b] X.env = (false, eval b X.env) :: starEach [] X.env := by rfl) (hpl : (backTo pos (starEach [b] X.env)).any (·.1) = false := by rfl) :
    WE X (.Call (.Name "_law_take" p) [a, b] [] pos) σ H Q :=
  we_call O hr hm hx ((aav_cons (P := fun u _ => u = V.ref d) mono_eq ha (aa_one (P := fun u _ => u = V.int (many : Int)) hb he2) he).go (Same.refl H) fun vs H2 s2 ⟨w1, q1, e1, e2, w3, e3, e4⟩ => by
    subst e1 e2 e3 e4
    exact ⟨d, l, many, rfl, hD.mono s2, h1, h2, fun n H' b d h => q n H' ((SameB.of s2).trans b) d h⟩) hg (by decide) he hpl
end
end J
/-! Rows and a catalogue drawn. -/
namespace J
open PySem PySem.Spec PyProof.Rows L2
/-- tuple(e), e by hand -/
theorem we_tuple {X : Cx} {e : Expr} {σ : L2.St} {H : Hp} {p pos : Pos} {Q : VK} (hm : X.mg "tuple" = none) (q : WE X e σ H fun v H1 => ∃ a xs ds, v = .ref a ∧ SqL X.K H1 a xs ∧ RepL H1 ds xs ∧ ∀ v' H2, Same H1 H2 → Rep H2 (.tuple ds) v' → Q v' H2) (hg : Gl X "tuple" := by rfl) (hs : starEach [e] X.env = (false, eval e X.env) :: starEach [] X.env := by rfl)
    (hpl : (backTo pos (starEach [] X.env)).any (·.1) = false := by rfl) : WE X (.Call (.Name "tuple" p) [e] [] pos) σ H Q := by
  refine we_of (pe_callTy (T := "tuple") (r := fun xs H Q => ∃ p ys ds, xs = [.ref p] ∧ SqL X.K H p ys ∧ RepL H ds ys ∧ ∀ v' H2, Same H H2 → Rep H2 (.tuple ds) v' → Q v' H2) ?_ hg hm (by decide +kernel) (pa_cons pe_we pa_nil hs) (by decide) (by decide) hs hpl) (q.mono fun v H1 ⟨a, xs, ds, e1, h1, h2, h3⟩ => ⟨a, xs, ds, by rw [e1], h1, h2, h3⟩)
  intro pins s σ H xs us Q I r ⟨p, ys, ds, e0, hq, rl, q⟩
  cases hv : vst ds with
  | true => exact call_tuple_frz pins s σ H xs us Q I r ⟨p, ys, e0, hq, fun l o ho hl => q _ _ (.new hl) ⟨l, ys, rfl, by rw [hv]; exact ⟨o, ho, upd_same⟩, rl.mono (.new hl)⟩⟩
  | false => exact call_tuple_of pins s σ H xs us Q I r ⟨p, ys, e0, .inl ⟨hq, fun l hl => q _ _ (.new hl) ⟨l, ys, rfl, by rw [hv]; exact upd_same, rl.mono (.new hl)⟩⟩⟩
theorem rows_of {n : Nat} : ∀ {ds : List PyData}, ds.length = n → (∀ dd ∈ ds, ∃ i : Nat, i < 3 ∧ dd = .int (i : Int)) → ∃ r : Row, ds = r.map .int ∧ GRow n r := fun {ds} hl h => by
  have : ∀ ds : List PyData, (∀ dd ∈ ds, ∃ i : Nat, i < 3 ∧ dd = .int (i : Int)) → ∃ r : Row, ds = r.map .int ∧ ∀ x ∈ r, dig3 x := fun ds => by
    induction ds with
    | nil => exact fun _ => ⟨[], rfl, nofun⟩
    | cons a t ih =>
      intro h
      obtain ⟨r, e, hr⟩ := ih fun d hd => h d (List.mem_cons_of_mem _ hd)
      obtain ⟨i, hi, ea⟩ := h a List.mem_cons_self
      refine ⟨(i : Int) :: r, by rw [ea, e]; rfl, fun x hx => ?_⟩
      rcases List.mem_cons.mp hx with e2 | h2
      · rw [e2]; unfold dig3; omega
      · exact hr x h2
  obtain ⟨r, e, hr⟩ := this ds h
  exact ⟨r, e, by rw [← hl, e, List.length_map], hr⟩
section
variable {P : Program} {w : World} {K : PySem.W.Frag} {mg : Str → Option Value} {base : Heap}
def rowsS : Sp := fun vs H Q _ => ∃ (d l : Addr) (k : Nat), vs = [.ref d, .int (k : Int), .int 5, .int 3] ∧ DAt H d l ∧ 1 ≤ k ∧ k ≤ 4 ∧ ∀ v H' rs, SameB [d] H H' → DAt H' d l → SAsc rs → (∀ r ∈ rs, GRow k r) → rs.length ≤ 5 → Rep H' (eRows rs) v → Q v H'
theorem ok_l_rows (T : Tx K mg) : OkF P w K mg base (L2.CX P w) 2 (He.fAd K ("_law_rows", none)) ["_law_d", "_law_columns", "_law_most", "_law_reach"] rowsS := by
  refine mk_l_rows T (fun vs H Q E ⟨_, _, _, e, _⟩ => by subst e; rfl) (fun cdv A outer s H vs Q E hr ⟨d, l, k, e, hD, hk1, hk4, q⟩ => ?_)
  subst e
  refine wss_cons (ws_set 4 sc_l_rows.nd (LE.go (le_lst aa_nil (by decide)) (Same.refl H) fun lr ys H1 s1 hnr hlr rl1 => ?_))
  obtain rfl : ys = [] := rl1
  have hD1 := hD.mono s1
  have hrd := hD.ne hnr
  refine wss_cons (ws_forX (passes_of rfl) rfl T.b_range (we_take (ok_l_take T) hr T.gl_take passL (ve_var 0) (DE.is (d2 := .int ((6 : Nat) : Int)) (de_add (de_var (d := .int 5) 2 rfl) de_int) rfl) hD1 (by decide) (by decide) fun n H2 b2 hD2 hn => ⟨n, rfl, by omega, fun i σ' H' => ∃ (o5 o6 : Option V) (rs : List Row) (ws : List V), σ' = [some (.ref d), some (.int (k : Int)), some (.int 5), some (.int 3), some (.ref lr), o5, o6, none] ∧ SameB [d] H H' ∧ DAt H' d l ∧ H' lr = some (.lst ws) ∧ RepL H' (rs.map eRow) ws ∧ rs.Nodup ∧ (∀ r ∈ rs, GRow k r) ∧ rs.length ≤ i, ?_, ?_, ?_⟩) (pg_name (i := 5) sc_l_rows.nd rfl (.inl rfl)))
  · exact ⟨none, none, [], [], rfl, (SameB.of s1).trans b2, hD2, b2 _ _ hlr fun hm => hrd.1 (List.mem_singleton.mp hm), rfl, List.nodup_nil, nofun, Nat.le_refl _⟩
  · rintro i σ' H' hi ⟨o5, o6, rs, ws, eσ, b, hD', h1, h2, h3, h4, h5⟩
    subst eσ
    refine wss_cons (ws_set 6 sc_l_rows.nd (we_tuple T.b_tuple ((we_lcD n_l_rows (defScope s_l_rows) 7 k (fun dd => ∃ i : Nat, i < 3 ∧ dd = .int (i : Int)) rfl sc_l_rows.nd T.b_range hD' (de_var (d := .int (k : Int)) 1 rfl) (by omega) fun i2 H3 hi2 b3 hD3 => ?_).mono ?_)))
    · intro s0 H0 C cl fp
      exact we_take (ok_l_take T) hr T.gl_take passL (ve_var 0) (DE.is (d2 := .int ((3 : Nat) : Int)) (de_var (d := .int 3) 3 rfl) rfl) hD3 (by decide) (by decide) fun n2 H4 b4 hD4 hn2 => ⟨b4, hD4, _, ⟨n2, hn2, rfl⟩, rfl⟩
    · rintro v H3 ⟨b3, hD3, Dl, xs, ds, ev, hn3, hl3, hr3, hlen, hall⟩
      subst ev
      obtain ⟨r, er, gr⟩ := rows_of hlen hall
      refine ⟨Dl, xs, ds, rfl, SqL.of hl3, hr3, fun v4 H4 s4 r4 => ?_⟩
      rw [er] at r4
      have r4 : Rep H4 (eRow r) v4 := r4
      have hkp := (hD'.kp b3).trans (Kp.of s4)
      have h14 := s4 _ _ (b3 _ _ h1 fun hm => hrd.1 (List.mem_singleton.mp hm))
      have h24 := h2.mono hkp
      refine wss_one (ws_if (BT.go (bt_cmp (ce_ninL (hu65 hr) (de_var 6 r4) (ve_lv (ve_var 4) (SqL.of h14) h24))) (Same.refl H4) fun H5 s5 => ?_))
      by_cases hin : r ∈ rs
      · rw [decide_eq_true hin, if_neg (by decide)]
        exact wss_nil ⟨_, _, rs, ws, rfl, ((b.trans b3).trans (.of s4)).trans (.of s5), (hD3.mono s4).mono s5, s5 _ _ h14, h24.mono (.of s5), h3, h4, by omega⟩
      · rw [decide_eq_false hin, if_pos (by decide)]
        have hwl : ws.length ≤ 100 := by rw [h2.length, List.length_map]; omega
        refine wss_one (ws_app (ve_var 4) (s5 _ _ h14) (by omega) (de_var 6 (r4.mono (.of s5))) fun v6 H6 s6 r6 => ?_)
        have ku : Kp H6 (L2.upd H6 lr (.lst (ws ++ [v6]))) := .upd (s6 _ _ (s5 _ _ h14)) rfl
        refine ⟨_, _, rs ++ [r], ws ++ [v6], rfl, ?_, ((((hD3.mono s4).mono s5).mono s6).put hrd), upd_same, ?_, List.nodup_append.mpr ⟨h3, List.nodup_cons.mpr ⟨nofun, List.nodup_nil⟩, fun x hx y hy e => hin (by rw [← List.mem_singleton.mp hy, ← e]; exact hx)⟩, fun y hy => (List.mem_append.mp hy).elim (h4 y) fun e => by rw [List.mem_singleton.mp e]; exact gr, by rw [List.length_append]; show _ + 1 ≤ _; omega⟩
        · intro a o h hn
          have h5 := (((b.trans b3).trans (.of s4)).trans (.of (s5.trans s6))) a o h hn
          rw [upd_ne fun e => by rw [e, hnr] at h; cases h]
          exact h5
        · rw [List.map_append]
          exact (h24.mono ((Kp.of (s5.trans s6)).trans ku)).snoc (r6.mono ku)
  · rintro σ' H' ⟨o5, o6, rs, ws, eσ, b, hD', h1, h2, h3, h4, h5⟩
    subst eσ
    refine wss_one (rt_de (Same.refl H') (de_tuple T.b_tuple (LE.lv (le_srt (rs := rs) (d := k) (B := 3) T.b_sorted (LV.qe (ve_lv (ve_var 4) (SqL.of h1) h2)) (by omega) (fun _ => hk1) fun r hr => ⟨(h4 r hr).len, bd3 (h4 r hr)⟩))) fun v' H4 s4 r4 => ?_)
    exact q v' H4 (srt rs) (b.trans (.of s4)) (hD'.mono s4) (srt_sasc h3) (fun r hr => h4 r (mem_srt.mp hr)) (by rw [srt_len]; omega) r4
/-! the catalogue -/
def nmOf (i k : Nat) : Str := (⟨#[97 + i]⟩ : Str) ++ ts (k : Int)
theorem nm_ok : ∀ i, i < 3 → ∀ k, k < 5 → 1 ≤ k → nmOf i k ∈ tabNames := by decide +kernel
theorem nm_lt : ∀ i, i < 3 → ∀ j, j < 3 → i < j → ∀ a, a < 5 → ∀ b, b < 5 → slt (nmOf i a) (nmOf j b) = true := by decide +kernel
theorem ab_at : ∀ i, i < 3 → atI ("abcdefgh" : Str).cps.toList ((i : Nat) : Int) = some (97 + i) := by decide +kernel
theorem cols_at : ∀ n, n < 6 → ∃ k : Nat, 1 ≤ k ∧ k ≤ 4 ∧ ([2, 2, 2, 1, 3, 4] : List Int)[n]? = some (k : Int) := by
  intro n hn
  match n, hn with
  | 0, _ => exact ⟨2, by decide, by decide, rfl⟩
  | 1, _ => exact ⟨2, by decide, by decide, rfl⟩
  | 2, _ => exact ⟨2, by decide, by decide, rfl⟩
  | 3, _ => exact ⟨1, by decide, by decide, rfl⟩
  | 4, _ => exact ⟨3, by decide, by decide, rfl⟩
  | 5, _ => exact ⟨4, by decide, by decide, rfl⟩
def catS : Sp := fun vs H Q _ => ∃ (d l : Addr), vs = [.ref d, .int 3, .int 5, .int 3] ∧ DAt H d l ∧ ∀ v H' c, SameB [d] H H' → DAt H' d l → GCat 5 c → Rep H' (eCat c) v → Q v H'
theorem ok_l_catalogue (T : Tx K mg) : OkF P w K mg base (L2.CX P w) 3 (He.fAd K ("_law_catalogue", none)) ["_law_d", "_law_many", "_law_most", "_law_reach"] catS := by
  refine mk_l_catalogue T (fun vs H Q E ⟨_, _, e, _⟩ => by subst e; rfl) (fun cdv A outer s H vs Q E hr ⟨d, l, e, hD, q⟩ => ?_)
  subst e
  refine wss_cons (ws_set 4 sc_l_catalogue.nd (LE.go (le_lst aa_nil (by decide)) (Same.refl H) fun lr ys H1 s1 hnr hlr rl1 => ?_))
  obtain rfl : ys = [] := rl1
  have hD1 := hD.mono s1
  have hrd := hD.ne hnr
  refine wss_cons (ws_forX (passes_of rfl) rfl T.b_range (we_op op_add ((de_int (i := 1)).go (Same.refl H1) fun v1 H1' s1' e1 => we_take (ok_l_take T |>.mono (by decide)) hr T.gl_take passL (ve_var 0) (DE.is (d2 := .int ((3 : Nat) : Int)) (de_var (d := .int 3) 1 rfl) rfl) (hD1.mono s1') (by decide) (by decide) fun n H2 b2 hD2 hn => ⟨1, (n : Int), e1, rfl, n + 1, by show V.int (1 + (n : Int)) = V.int ((n + 1 : Nat) : Int); rw [Int.add_comm]; rfl, by omega, fun i σ' H' => ∃ (o5 o6 : Option V) (c : Cat) (ws : List V), σ' = [some (.ref d), some (.int 3), some (.int 5), some (.int 3), some (.ref lr), o5, o6] ∧ SameB [d] H H' ∧ DAt H' d l ∧ H' lr = some (.lst ws) ∧ RepL H' (c.map eTab) ws ∧ c.length = i ∧ (∀ t ∈ c, GTab 5 t) ∧ ∀ (j : Nat) t, c[j]? = some t → t.name = nmOf j t.cols, ?_, ?_, ?_⟩)) (pg_name (i := 5) sc_l_catalogue.nd rfl (.inl rfl)))
  · exact ⟨none, none, [], [], rfl, (SameB.of (s1.trans s1')).trans b2, hD2, b2 _ _ (s1' _ _ hlr) fun hm => hrd.1 (List.mem_singleton.mp hm), rfl, rfl, nofun, nofun⟩
  · rintro i σ' H' hi ⟨o5, o6, c, ws, eσ, b, hD', h1, h2, h3, h4, h5⟩
    subst eσ
    have hwl : ws.length = c.length := by rw [h2.length, List.length_map]
    refine wss_cons (ws_set 6 sc_l_catalogue.nd (we_ixW ((de_tup (ds := ([2, 2, 2, 1, 3, 4] : List Int).map .int) (aa_cons de_int (aa_cons de_int (aa_cons de_int (aa_cons de_int (aa_cons de_int (aa_cons de_int aa_nil)))))) rfl (by decide)).go (Same.refl H') fun v3 H3 s3 r3 => we_take (ok_l_take T |>.mono (by decide)) hr T.gl_take passL (ve_var 0) (DE.is (d2 := .int ((6 : Nat) : Int)) de_int rfl) (hD'.mono s3) (by decide) (by decide) fun n4 H4 b4 hD4 hn4 => ?_)))
    obtain ⟨k, k1, k4, ek⟩ := cols_at n4 hn4
    obtain ⟨pt, ept, hpt⟩ := r3.tupI
    refine ⟨pt, _, (n4 : Int), .int (k : Int), ept, rfl, SqT.of (b4 _ _ hpt fun hm => ?_), atI_n (by rw [List.getElem?_map, ek]; rfl), ?_⟩
    · obtain ⟨_, _, _, _, z, _⟩ := hD'.mono s3
      rw [← List.mem_singleton.mp hm, hpt] at z
      cases z
    have bb := b.trans ((SameB.of s3).trans b4)
    have h14 := b4 _ _ (s3 _ _ h1) fun hm => hrd.1 (List.mem_singleton.mp hm)
    have h24 := h2.mono ((Kp.of s3).trans ((hD'.mono s3).kp b4))
    refine wss_cons (ws_if (BT.go (bt_and (bt_cmp (ce_gt (de_var (d := .int (k : Int)) 6 rfl) de_int)) fun _ => bt_cmp (ce_gt (de_var (d := .int 5) 2 rfl) de_int)) (Same.refl H4) fun H5 s5 => ?_))
    rw [show decide ((8 : Int) < 5) = false from rfl, Bool.and_false, if_neg (by decide)]
    have hi3 : i < 3 := by omega
    have hD5 := hD4.mono s5
    refine wss_nil (wss_one (ws_appW ((ve_var 4).go (Same.refl H5) fun v6 H6 s6 e6 => ⟨e6, ⟨_, SqL.of (s6 _ _ (s5 _ _ h14))⟩, ?_⟩)))
    refine we_of (pe_tup pa_we) (wa_of (pa_cons pe_we pa_we rfl) ((de_adds (de_ixs (x := "abcdefgh") de_str (de_var (d := .int (i : Int)) 5 rfl) (by decide) (ab_at i hi3)) (de_strI T.b_str (de_var (d := .int (k : Int)) 6 rfl) (log4 k4)) ?_).go (Same.refl H6) fun v7 H7 s7 e7 => wa_of (pa_cons pe_we pa_we rfl) ((de_var (d := .int (k : Int)) 6 rfl).go (Same.refl H7) fun v8 H8 s8 e8 => wa_of (pa_cons pe_we pa_nil rfl) (we_call (ok_l_rows T) hr T.gl_rows passL ((aav_cons (P := fun u _ => u = V.ref d) mono_eq (ve_var 0) (aav_cons (P := fun u _ => u = V.int (k : Int)) mono_eq (ve_var 6) (aav_cons (P := fun u _ => u = V.int 5) mono_eq (ve_var 2) (aa_one (P := fun u _ => u = V.int 3) (ve_var 3))))).go (Same.refl H8) fun vs H9 s9 ⟨w1, q1, e1, e2, w2, q2, e3, e4, w3, q3, e5, e6', w4, e7', e8'⟩ => ?_)))))
    · have := ts_len4 k4
      exact szl (by show 1 + (ts (k : Int)).length ≤ 100000; omega)
    · subst e1 e2 e3 e4 e5 e6' e7' e8'
      cases (show v7 = _ from e7)
      cases (show v8 = _ from e8)
      have s49 := s5.trans (s6.trans ((s7.trans s8).trans s9))
      refine ⟨d, l, k, rfl, hD4.mono s49, k1, k4, fun v10 H10 rs b10 hD10 sa hgr hl5 r10 => ⟨szl (by show 3 ≤ 100000; decide), fun p hp => ⟨ws, ?_, by omega, ?_⟩⟩⟩
      · rw [upd_ne fun e => ?_]
        · exact b10 _ _ (s49 _ _ h14) fun hm => hrd.1 (List.mem_singleton.mp hm)
        · rw [← e, b10 _ _ (s49 _ _ h14) fun hm => hrd.1 (List.mem_singleton.mp hm)] at hp
          cases hp
      · have h10 := b10 _ _ (s49 _ _ h14) fun hm => hrd.1 (List.mem_singleton.mp hm)
        have hpl : p ≠ lr := fun e => by rw [e, h10] at hp; cases hp
        have hup : (L2.upd H10 p (.tup [V.str ((⟨#[97 + i]⟩ : Str) ++ (toString (k : Int) : String)), V.int (k : Int), v10])) lr = some (.lst ws) := by rw [upd_ne (Ne.symm hpl)]; exact h10
        have k1' : Kp H4 H10 := (Kp.of s49).trans ((hD4.mono s49).kp b10)
        have k2' : Kp H10 (L2.upd H10 p (.tup [V.str ((⟨#[97 + i]⟩ : Str) ++ (toString (k : Int) : String)), V.int (k : Int), v10])) := .new hp
        have ku := k2'.trans (.upd (o := .lst (ws ++ [.ref p])) hup rfl)
        have rt0 : Rep (L2.upd H10 p (.tup [V.str ((⟨#[97 + i]⟩ : Str) ++ (toString (k : Int) : String)), V.int (k : Int), v10])) (eTab ⟨nmOf i k, k, rs⟩) (.ref p) :=
          ⟨p, _, rfl, upd_same, _, _, rfl, rfl, _, _, rfl, rfl, _, _, rfl, r10.mono k2', rfl⟩
        have rt := rt0.mono (.upd (o := .lst (ws ++ [.ref p])) hup rfl)
        refine ⟨_, _, c ++ [⟨nmOf i k, k, rs⟩], _, rfl, ?_, (hD10.put (hD10.ne hp)).put hrd, upd_same, ?_, by rw [List.length_append, h3]; rfl, fun t ht => ?_, fun j t hj => ?_⟩
        · intro a o h hn
          have hb := (bb.trans ((SameB.of s49).trans b10)) a o h hn
          have e1 : a ≠ lr := fun e => by rw [e, hnr] at h; cases h
          have e2 : a ≠ p := fun e => by rw [e, hp] at hb; cases hb
          rw [upd_ne e1, upd_ne e2]
          exact hb
        · rw [List.map_append]
          exact (h24.mono (k1'.trans ku)).snoc rt
        · rcases List.mem_append.mp ht with h | h
          · exact h4 t h
          · rw [List.mem_singleton.mp h]
            exact ⟨k1, k4, hgr, sa, hl5⟩
        · rcases Nat.lt_or_ge j c.length with hlt | hge
          · rw [List.getElem?_append_left hlt] at hj
            exact h5 j t hj
          · rw [List.getElem?_append_right hge] at hj
            have e0 : j - c.length = 0 := by
              have := (List.getElem?_eq_some_iff.mp hj).1
              have e1 : ([⟨nmOf i k, k, rs⟩] : List Tab).length = 1 := rfl
              omega
            rw [e0] at hj
            cases hj
            show nmOf i k = nmOf j k
            rw [show j = i by omega]
  · rintro σ' H' ⟨o5, o6, c, ws, eσ, b, hD', h1, h2, h3, h4, h5⟩
    subst eσ
    refine wss_one (rt_de (Same.refl H') (de_tuple T.b_tuple (ve_lv (ve_var 4) (SqL.of h1) h2)) fun v' H4 s4 r4 => ?_)
    refine q v' H4 c (b.trans (.of s4)) (hD'.mono s4) ⟨h4, fun t ht => ?_, by omega, by omega, ?_⟩ r4
    · obtain ⟨j, hj, e⟩ := List.getElem_of_mem ht
      have gt := h4 t ht
      rw [h5 j t (by rw [List.getElem?_eq_getElem hj, e])]
      exact nm_ok j (by omega) t.cols (by have := gt.hi; omega) gt.lo
    · rw [List.pairwise_map, List.pairwise_iff_getElem]
      intro i j hi hj hij
      have g1 := h4 _ (List.getElem_mem hi)
      have g2 := h4 _ (List.getElem_mem hj)
      rw [h5 i _ (List.getElem?_eq_getElem hi), h5 j _ (List.getElem?_eq_getElem hj)]
      exact nm_lt i (by omega) j (by omega) hij _ (by have := g1.hi; omega) _ (by have := g2.hi; omega)
end
end J
/-! The law's table, with, variables. -/
namespace J
open PySem PySem.Spec PyProof.Rows L2
section
variable {P : Program} {w : World} {K : PySem.W.Frag} {mg : Str → Option Value} {base : Heap}
def tblR (ds : List PyData) (d : PyData) : Prop := ∃ c x t, c.length ≤ 1000 ∧ findT c x = some t ∧ ds = [eCat c, .str x] ∧ d = eTab t
theorem ok_l_table (T : Tx K mg) : OkF P w K mg base (L2.CX P w) 1 (He.fAd K ("_law_table", none)) ["_law_catalogue_here", "_law_name"] (spD tblR) := by
  refine mk_l_table T (spD_len fun ds d ⟨_, _, _, _, _, e, _⟩ => by subst e; rfl) (fun cdv A outer s H vs Q E hr ⟨ds, d, h, ⟨c, x, t, hz, hf, e, e2⟩, q⟩ => ?_)
  subst e e2
  obtain ⟨v, u, e, r1, r2⟩ := h.two
  subst e
  refine wss_cons (ws_forU (ds := c.map eTab) (passes_of rfl) rfl (DE.ue (de_var 0 r1)) (pg_name (i := 2) sc_l_table.nd rfl (.inl rfl)) (fun H1 i σ' H' => (∃ o, σ' = [some v, some u, o]) ∧ Same H1 H' ∧ ∀ m, m < i → ∀ t, c[m]? = some t → t.name ≠ x) (fun H1 s1 => ⟨⟨none, rfl⟩, .refl _, fun m hm => absurd hm (Nat.not_lt_zero m)⟩) (fun H1 i σ' H' ⟨_, s, _⟩ => .of s) ?_ ?_)
  · rintro H1 i d1 v1 σ' H' s1 hd rd ⟨⟨o, e⟩, s2, hn⟩
    subst e
    obtain ⟨t1, ht1, e⟩ := map_at hd
    subst e
    have s12 := s1.trans s2
    refine wss_one (ws_if (BT.go (bt_cmp (ce_eqs (de_ix (d := .str t1.name) (DE.ue (de_var 2 rd)) de_int rfl) (de_var 1 (r2.mono (.of s12))))) (Same.refl H') fun H3 s3 => ?_))
    by_cases he : t1.name = x
    · rw [decide_eq_true he, if_pos rfl]
      have e3 : t1 = t := by
        have : findT c x = some t1 := List.find?_eq_some_iff_getElem.mpr ⟨decide_eq_true he, i, (List.getElem?_eq_some_iff.mp ht1).1, (List.getElem?_eq_some_iff.mp ht1).2, fun j hj => by
          have hjl : j < c.length := by have := (List.getElem?_eq_some_iff.mp ht1).1; omega
          have := hn j hj c[j] (List.getElem?_eq_getElem hjl)
          simpa using this⟩
        rw [hf] at this
        exact (Option.some.inj this).symm
      subst e3
      exact wss_one (rt_de (s12.trans s3) (de_var 2 (rd.mono (.of s3))) q)
    · rw [decide_eq_false he, if_neg (by decide)]
      refine wss_nil ⟨⟨_, rfl⟩, s2.trans s3, fun m hm t ht => ?_⟩
      rcases Nat.lt_succ_iff_lt_or_eq.mp hm with h | h
      · exact hn m h t ht
      · rw [h, ht1] at ht; cases ht; exact he
  · rintro H1 σ' H' s1 ⟨⟨o, e⟩, s2, hn⟩
    obtain ⟨m, hm, e⟩ := List.getElem_of_mem (findT_mem hf).1
    exact absurd (findT_mem hf).2 (hn m (by rw [List.length_map]; exact hm) t (by rw [List.getElem?_eq_getElem hm, e]))
def withR (ds : List PyData) (d : PyData) : Prop := ∃ c x rs, c.length ≤ 1000 ∧ ds = [eCat c, .str x, eRows rs] ∧ d = eCat (withRows c x rs)
theorem ok_l_with (T : Tx K mg) : OkF P w K mg base (L2.CX P w) 1 (He.fAd K ("_law_with", none)) ["_law_catalogue_here", "_law_name", "_law_rows_here"] (spD withR) := by
  refine mk_l_with T (spD_len fun ds d ⟨_, _, _, _, e, _⟩ => by subst e; rfl) (fun cdv A outer s H vs Q E hr ⟨ds, d, h, ⟨c, x, rs, hz, e, e2⟩, q⟩ => ?_)
  subst e e2
  obtain ⟨v, u, y, e, r1, r2, r3⟩ := h.three
  subst e
  refine wss_one (rt_de (Same.refl H) (DE.is (de_tuple T.b_tuple (LE.lv (le_mU n_l_with (defScope s_l_with) 3 c eTab (fun t => eTab (if t.name = x then { t with rows := rs } else t)) rfl sc_l_with.nd (DE.ue (de_var 0 r1)) (by omega) fun t v4 H4 ht s4 r4 => ?_))) (by unfold eCat withRows; rw [List.map_map]; rfl)) q)
  intro s5 H5 C cl fp
  refine ee_ifExp (bt_cmp (ce_eqs (de_ix (d := .str t.name) (DE.ue (de_var 3 r4)) de_int rfl) (de_var 1 (r2.mono (.of s4))))) (fun hk => ?_) fun hk => ?_
  · rw [if_pos (of_decide_eq_true hk)]
    exact de_tup (ds := [.str t.name, .int (t.cols : Int), eRows rs]) (aa_cons (de_ix (d := .str t.name) (DE.ue (de_var 3 r4)) de_int rfl) (aa_cons (de_ix (d := .int (t.cols : Int)) (DE.ue (de_var 3 r4)) de_int rfl) (aa_cons (de_var 2 (r3.mono (.of s4))) aa_nil))) rfl (by show 3 ≤ 100000; decide)
  · rw [if_neg (of_decide_eq_false hk)]
    exact de_var 3 r4
end
theorem le_catV {X : Cx} {a b : Expr} {σ : L2.St} {H : Hp} {pos : Pos} {l : Addr} {xs : List V} {ds ds2 : List PyData} (ha : VE X a σ H (.ref l)) (hl : H l = some (.lst xs)) (r : RepL H ds xs) (hb : LE X b σ H ds2) (hz : ds.length + ds2.length ≤ 100000) : LE X (.BinOp a .Add b pos) σ H (ds ++ ds2) := fun H1 s =>
  we_op op_cat (ha.go s fun v H2 s2 e1 => hb.go (s.trans s2) fun m ys H3 s3 n2 h2 r2 => by
    subst e1
    have sA := (s.trans s2).trans s3
    have r1 := r.mono (.of sA)
    exact ⟨l, m, xs, ys, rfl, rfl, sA _ _ hl, h2, szl (by rw [r1.length, r2.length]; exact hz), fun p hp => ⟨(s2.trans s3).trans (.new hp), p, _, rfl, (s2.trans s3).free hp, upd_same, (r1.append r2).mono (.new hp)⟩⟩)
def newB (found inner : List Str) (k : Nat) : Bool := !found.contains (inner.getD k "") && !(inner.take k).contains (inner.getD k "")
theorem new_take (found inner : List Str) : ∀ n, n ≤ inner.length → found ++ ((List.range n).filter (newB found inner)).map (fun k => inner.getD k "") = (inner.take n).foldl addNew found
  | 0, _ => by rw [List.take_zero, List.range_zero]; simp
  | n + 1, h => by
    have hn : inner[n]? = some inner[n] := List.getElem?_eq_getElem (by omega)
    have hg : inner.getD n "" = inner[n] := by rw [List.getD_eq_getElem?_getD, hn]; rfl
    rw [fold_take hn, ← new_take found inner n (by omega), List.range_succ, List.filter_append, List.map_append, ← List.append_assoc, List.filter_cons]
    have hm : inner[n] ∈ (inner.take n).foldl addNew found ↔ newB found inner n = false := by
      rw [mem_fold]
      unfold newB
      rw [hg, Bool.and_eq_false_iff, Bool.not_eq_false', Bool.not_eq_false', List.contains_iff_mem, List.contains_iff_mem]
    rw [new_take found inner n (by omega)]
    cases hb : newB found inner n with
    | true =>
      have : inner[n] ∉ (inner.take n).foldl addNew found := fun h => by rw [hm, hb] at h; cases h
      rw [addNew_not this, if_pos rfl]
      show _ ++ [inner.getD n ""] = _
      rw [hg]
    | false =>
      rw [addNew_in (hm.mpr hb), if_neg (by decide)]
      simp
theorem pvars_take {as : List Atm} {i : Nat} {a : Atm} (h : as[i]? = some a) : ((as.take (i + 1)).flatMap (·.vars)).foldl addNew [] = a.vars.foldl addNew (((as.take i).flatMap (·.vars)).foldl addNew []) := by
  rw [List.take_add_one, h, Option.toList_some, List.flatMap_append, List.foldl_append]
  simp
section
variable {P : Program} {w : World} {K : PySem.W.Frag} {mg : Str → Option Value} {base : Heap}
theorem ok_l_variables (T : Tx K mg) : OkF P w K mg base (L2.CX P w) 1 (He.fAd K ("_law_variables", none)) ["_law_pattern_here"] (spD allVarsR) := by
  refine mk_l_variables T (spD_len fun ds d ⟨_, _, e, _⟩ => by subst e; rfl) (fun cdv A outer s H vs Q E hr ⟨ds, d, h, ⟨p, ⟨hp1, hp2, hp3⟩, e, e2⟩, q⟩ => ?_)
  subst e e2
  obtain ⟨v, e, r⟩ := h.onlyOne
  subst e
  refine wss_cons (ws_set 1 sc_l_variables.nd (LE.go (le_lst aa_nil (by decide)) (Same.refl H) fun lf ys H1 s1 hnf hlf rl1 => ?_))
  obtain rfl : ys = [] := rl1
  refine wss_cons (ws_forU (ds := p.atoms.map eAtm) (passes_of rfl) rfl (DE.ue (de_ix (d := eAtms p.atoms) (DE.ue (de_var 0 (r.mono (.of s1)))) de_int rfl)) (Names2 2 3 rfl sc_l_variables.nd rfl rfl ⟨.inl rfl, .inl rfl⟩ ⟨.inr rfl, .inl rfl⟩)
    (fun H2 i σ' H' => ∃ (l : Addr) (o2 o3 : Option V) (ws : List V), σ' = [some v, some (.ref l), o2, o3, none] ∧ Same H2 H' ∧ H' l = some (.lst ws) ∧ RepL H' ((((p.atoms.take i).flatMap (·.vars)).foldl addNew []).map .str) ws)
    (fun H2 s2 => ⟨lf, none, none, [], rfl, .refl _, s2 _ _ hlf, rfl⟩) (fun H2 i σ' H' ⟨_, _, _, _, _, s2, _⟩ => .of s2) ?_ ?_)
  · rintro H2 i d u σ' H' s2 hd rd ⟨l, o2, o3, ws, eσ, s3, h1, h2⟩
    subst eσ
    obtain ⟨a, ha, e⟩ := map_at hd
    subst e
    have ham := List.mem_of_getElem? ha
    have hal := hp2 a ham
    have hi := (List.getElem?_eq_some_iff.mp ha).1
    refine takes_tup2 (R := fun σ2 => WSs _ _ _ σ2 H') rd (fun x y rx ry => ?_) _ fun _ z => z
    generalize hF : ((p.atoms.take i).flatMap (·.vars)).foldl addNew [] = F at *
    have hFl : F.length ≤ 12 := by
      have h1 := fold_len ((p.atoms.take i).flatMap (·.vars)) []
      have h2 := flat_len (as := p.atoms.take i) fun b hb => hp2 b (List.take_subset _ _ hb)
      rw [hF] at h1
      rw [List.length_take] at h2
      have h3 : ([] : List Str).length = 0 := rfl
      omega
    refine wss_one (ws_set 1 sc_l_variables.nd (LE.go (le_catV (ve_var 1) h1 h2 (le_cR n_l_variables (defScope s_l_variables) 4 a.vars.length (newB F a.vars) (fun k => .str (a.vars.getD k "")) rfl sc_l_variables.nd T.b_range (DE.is (de_len T.b_len (DE.qe (de_var 3 ry))) (by rw [List.length_map])) (by omega) fun k H4 hk s4 => ?_) ?_) (Same.refl H') fun l5 ws5 H5 s5 n5 h5 r5 => ?_))
    · intro s6 H6 C cl fp
      have hat : atI (a.vars.map PyData.str) ((k : Nat) : Int) = some (.str (a.vars.getD k "")) := atI_n (by rw [List.getElem?_map, getD_at ("" : Str) hk]; rfl)
      refine ⟨bt_and (bt_cmp (ce_nins (de_ix (DE.ue (de_var 3 (ry.mono (.of s4)))) (de_var (d := .int (k : Int)) 4 rfl) hat) (LV.qe (ve_lv (ve_var 1) (SqL.of (s4 _ _ h1)) (h2.mono (.of s4)))))) fun _ => bt_cmp (ce_nins (ys := a.vars.take k) (de_ix (DE.ue (de_var 3 (ry.mono (.of s4)))) (de_var (d := .int (k : Int)) 4 rfl) hat) (UE.qe (ue_slice (DE.ue (de_var 3 (ry.mono (.of s4)))) oe_none (oe_some (de_var (d := .int (k : Int)) 4 rfl)) (by rw [cut_to (by rw [List.length_map]; omega), List.map_take])))), fun _ => de_ix (DE.ue (de_var 3 (ry.mono (.of s4)))) (de_var (d := .int (k : Int)) 4 rfl) hat⟩
    · rw [List.length_map, List.length_map]
      have := List.length_filter_le (newB F a.vars) (List.range a.vars.length)
      rw [List.length_range] at this
      omega
    · refine ⟨l5, _, _, ws5, rfl, s3.trans s5, h5, ?_⟩
      rw [pvars_take ha, hF]
      have e1 := new_take F a.vars a.vars.length (Nat.le_refl _)
      rw [List.take_length] at e1
      rw [← e1, List.map_append, List.map_map]
      exact r5
  · rintro H2 σ' H' s2 ⟨l, o2, o3, ws, eσ, s3, h1, h2⟩
    subst eσ
    rw [List.length_map, List.take_length] at h2
    exact wss_one (rt_de ((s1.trans s2).trans s3) (de_tuple T.b_tuple (ve_lv (ve_var 1) (SqL.of h1) h2)) q)
end
end J
/-! A pattern drawn. -/
namespace J
open PySem PySem.Spec PyProof.Rows L2
section
variable {X : Cx} {a b : Expr} {σ : L2.St} {H : Hp} {pos p2 : Pos} {Q : VK}
/-- a[:hi] of a list, by hand -/
theorem we_sllW (q : WE X a σ H fun x H1 => WE X b σ H1 fun y H2 => ∃ p xs j, x = .ref p ∧ y = .int j ∧ SqL X.K H2 p xs ∧ ∀ q, H2 q = none → Q (.ref q) (upd H2 q (.lst (cutV xs none (some j))))) : WE X (.Subscript a (.Slice none (some b) none p2) pos) σ H Q :=
  we_of (pe_slice sl_list pe_we po_none (po_some pe_we)) (q.mono fun x H1 h => h.mono fun y H2 ⟨p, xs, j, e1, e2, h1, h2⟩ => ⟨j, e2, p, xs, e1, h1, h2⟩)
end
theorem SameB.out {M N : List Addr} {H H1 H2 : Hp} (b : SameB M H H1) (b2 : SameB N H1 H2) (n : ∀ x ∈ N, x ∈ M ∨ H1 x = none) : SameB M H H2 := fun a o h hn => b2 a o (b a o h hn) fun hm => (n a hm).elim hn fun z => by rw [b a o h hn] at z; cases z
theorem wt_and {X : Cx} {a b : Expr} {σ : L2.St} {H : Hp} {pos : Pos} {Q : Bool → Hp → Prop} (q : WT X a σ H fun k H1 => if k = true then WT X b σ H1 Q else Q false H1) : WT X (.BoolOp .And [a, b] pos) σ H Q := wt_of (PW.pt (pw_and pt_we (pw_and1 pt_we))) q
def AtmOk (c : Cat) (a : Atm) : Prop := a.tab ∈ tabNames ∧ (∃ t, findT c a.tab = some t ∧ t.cols = a.vars.length) ∧ 1 ≤ a.vars.length ∧ a.vars.length ≤ 4 ∧ ∀ v ∈ a.vars, v ∈ varNames
theorem strs_ofN {n : Nat} {names : List Str} : ∀ {ds : List PyData}, ds.length = n → (∀ dd ∈ ds, ∃ v ∈ names, dd = .str v) → ∃ vs : List Str, ds = vs.map .str ∧ vs.length = n ∧ ∀ v ∈ vs, v ∈ names := fun {ds} hl h => by
  have : ∀ ds : List PyData, (∀ dd ∈ ds, ∃ v ∈ names, dd = .str v) → ∃ vs : List Str, ds = vs.map .str ∧ ∀ v ∈ vs, v ∈ names := fun ds => by
    induction ds with
    | nil => exact fun _ => ⟨[], rfl, nofun⟩
    | cons a t ih =>
      intro h
      obtain ⟨r, e, hr⟩ := ih fun d hd => h d (List.mem_cons_of_mem _ hd)
      obtain ⟨v, hv, ea⟩ := h a List.mem_cons_self
      refine ⟨v :: r, by rw [ea, e]; rfl, fun x hx => ?_⟩
      rcases List.mem_cons.mp hx with e2 | h2
      · rw [e2]; exact hv
      · exact hr x h2
  obtain ⟨r, e, hr⟩ := this ds h
  exact ⟨r, e, by rw [← hl, e, List.length_map], hr⟩
def allNames : List Str := ["x", "y", "z", "u", "v", "w"]
theorem names_in {n : Nat} (h : n < 3) : ∀ v ∈ allNames.take (n + 1), v ∈ varNames := by
  match n, h with
  | 0, _ => decide +kernel
  | 1, _ => decide +kernel
  | 2, _ => decide +kernel
section
variable {P : Program} {w : World} {K : PySem.W.Frag} {mg : Str → Option Value} {base : Heap}
def patS : Sp := fun vs H Q _ => ∃ (d l : Addr) (vc : V) (m : Nat) (c : Cat), vs = [.ref d, vc, .int 3, .int 3] ∧ DAt H d l ∧ Rep H (eCat c) vc ∧ GCat m c ∧ ∀ v H' p, SameB [d] H H' → DAt H' d l → GPat c p → Rep H' (ePat p) v → Q v H'
theorem ok_l_pattern (T : Tx K mg) : OkF P w K mg base (L2.CX P w) 2 (He.fAd K ("_law_pattern", none)) ["_law_d", "_law_catalogue_here", "_law_atoms", "_law_many"] patS := by
  refine mk_l_pattern T (fun vs H Q E ⟨_, _, _, _, _, e, _⟩ => by subst e; rfl) (fun cdv A outer s H vs Q E hr ⟨d, l, vc, m, c, e, hD, rc, hg, q⟩ => ?_)
  subst e
  have hfew := hg.few
  have hone := hg.one
  refine wss_cons (ws_set 4 sc_l_pattern.nd (we_sllW ((le_lst (ds := allNames.map .str) (aa_cons de_str (aa_cons de_str (aa_cons de_str (aa_cons de_str (aa_cons de_str (aa_cons de_str aa_nil)))))) (by decide)).go (Same.refl H) fun l1 xs1 H1 s1 n1 h1 r1 => we_op op_add ((de_int (i := 1)).go (Same.refl H1) fun v2 H2 s2 e2 => we_take (ok_l_take T) hr T.gl_take passL (ve_var 0) (DE.is (d2 := .int ((3 : Nat) : Int)) (de_var (d := .int 3) 3 rfl) rfl) ((hD.mono s1).mono s2) (by decide) (by decide) fun nn H3 b3 hD3 hn3 => ⟨1, (nn : Int), e2, rfl, l1, xs1, ((nn + 1 : Nat) : Int), rfl, by show V.int (1 + (nn : Int)) = _; rw [Int.add_comm]; rfl, SqL.of (b3 _ _ (s2 _ _ h1) fun hm => (hD.ne n1).1 (List.mem_singleton.mp hm)), fun ln hln => ?_⟩))))
  have rn : RepL (L2.upd H3 ln (.lst (cutV xs1 none (some ((nn + 1 : Nat) : Int))))) ((allNames.take (nn + 1)).map .str) (cutV xs1 none (some ((nn + 1 : Nat) : Int))) := by
    have := (r1.mono ((Kp.of s2).trans (((hD.mono s1).mono s2).kp b3))).cut none (some ((nn + 1 : Nat) : Int))
    rw [cut_to (by rw [List.length_map]; show nn + 1 ≤ 6; omega), ← List.map_take] at this
    exact this.mono (.new hln)
  have hn4 : (L2.upd H3 ln (.lst (cutV xs1 none (some ((nn + 1 : Nat) : Int))))) ln = some (.lst (cutV xs1 none (some ((nn + 1 : Nat) : Int)))) := upd_same
  have b4 : SameB [d] H (L2.upd H3 ln (.lst (cutV xs1 none (some ((nn + 1 : Nat) : Int))))) := ((SameB.of (s1.trans s2)).trans b3).trans (.of (.new hln))
  have hD4 : DAt (L2.upd H3 ln (.lst (cutV xs1 none (some ((nn + 1 : Nat) : Int))))) d l := hD3.mono (.new hln)
  have hlnd := (hD3.ne hln).1
  generalize L2.upd H3 ln (.lst (cutV xs1 none (some ((nn + 1 : Nat) : Int)))) = H4 at *
  generalize cutV xs1 none (some ((nn + 1 : Nat) : Int)) = xn at *
  generalize hnm : allNames.take (nn + 1) = names at *
  have hnames : ∀ v ∈ names, v ∈ varNames := by rw [← hnm]; exact names_in hn3
  have hnl : names.length = nn + 1 := by rw [← hnm, List.length_take]; show min (nn + 1) 6 = _; omega
  have hxl : xn.length = nn + 1 := by rw [rn.length, List.length_map, hnl]
  refine wss_cons (ws_set 5 sc_l_pattern.nd (LE.go (le_lst aa_nil (by decide)) (Same.refl H4) fun lb ys H5 s5 hnb hlb rl5 => ?_))
  obtain rfl : ys = [] := rl5
  have hlb0 : lb ≠ d ∧ lb ≠ ln := ⟨(hD4.ne hnb).1, fun e => by rw [e, hn4] at hnb; cases hnb⟩
  refine wss_cons (ws_forX (passes_of rfl) rfl T.b_range (we_op op_add ((de_int (i := 1)).go (Same.refl H5) fun v6 H6 s6 e6 => we_take (ok_l_take T) hr T.gl_take passL (ve_var 0) (DE.is (d2 := .int ((3 : Nat) : Int)) (de_var (d := .int 3) 2 rfl) rfl) ((hD4.mono s5).mono s6) (by decide) (by decide) fun n7 H7 b7 hD7 hn7 => ⟨1, (n7 : Int), e6, rfl, n7 + 1, by show V.int (1 + (n7 : Int)) = V.int ((n7 + 1 : Nat) : Int); rw [Int.add_comm]; rfl, by omega,
    fun i σ' H' => ∃ (o6 o7 : Option V) (as : List Atm) (ws : List V), σ' = [some (.ref d), some vc, some (.int 3), some (.int 3), some (.ref ln), some (.ref lb), o6, o7, none, none, none, none, none] ∧ SameB [d, lb] H5 H' ∧ DAt H' d l ∧ H' lb = some (.lst ws) ∧ RepL H' (as.map eAtm) ws ∧ as.length = i ∧ ∀ a ∈ as, AtmOk c a, ?_, ?_, ?_⟩)) (pg_name (i := 6) sc_l_pattern.nd rfl (.inl rfl)))
  · exact ⟨none, none, [], [], rfl, (SameB.of s6).trans (b7.wide fun x hx => by rw [List.mem_singleton.mp hx]; exact List.mem_cons_self), hD7, b7 _ _ (s6 _ _ hlb) fun hm => hlb0.1 (List.mem_singleton.mp hm), rfl, rfl, nofun⟩
  · rintro i σ' H' hi ⟨o6, o7, as, ws, eσ, b, hD', h1', h2, h3, h4⟩
    subst eσ
    have kp5 : Kp H5 H' := b.kp fun x hx => by
      simp only [List.mem_cons, List.not_mem_nil, or_false] at hx
      rcases hx with e | e
      · obtain ⟨_, _, _, _, z, _⟩ := hD4.mono s5
        rw [e]; exact ⟨_, z, rfl⟩
      · rw [e]; exact ⟨_, hlb, rfl⟩
    have rcH : Rep H' (eCat c) vc := (rc.mono ((hD.kp b4).trans (.of s5))).mono kp5
    have hln' : H' ln = some (.lst xn) := b _ _ (s5 _ _ hn4) fun hm => by
      simp only [List.mem_cons, List.not_mem_nil, or_false] at hm
      rcases hm with e | e
      · exact hlnd e
      · exact hlb0.2 e.symm
    have rn' : RepL H' (names.map .str) xn := (rn.mono (.of s5)).mono kp5
    refine wss_cons (ws_set 7 sc_l_pattern.nd (we_ixW ((de_var 1 rcH).go (Same.refl H') fun v8 H8 s8 r8 => we_take (ok_l_take T) hr T.gl_take passL (ve_var 0) (DE.is (d2 := .int (c.length : Int)) (de_len T.b_len (DE.qe (de_var 1 (rcH.mono (.of s8))))) (by rw [List.length_map])) (hD'.mono s8) hone (by omega) fun n9 H9 b9 hD9 hn9 => ?_)))
    obtain ⟨pt, ys, ept, hpt, rpt⟩ := (r8.mono ((hD'.mono s8).kp b9)).seq (K := K)
    have hc9 : c[n9]? = some c[n9] := List.getElem?_eq_getElem hn9
    obtain ⟨vt, hvt, rvt⟩ := rpt.at (show (c.map eTab)[n9]? = some (eTab c[n9]) by rw [List.getElem?_map, hc9]; rfl)
    refine ⟨pt, ys, (n9 : Int), vt, ept, rfl, hpt, atI_n hvt, ?_⟩
    have htm : c[n9] ∈ c := List.getElem_mem hn9
    have hgt := hg.tab _ htm
    have hnmt := hg.nm _ htm
    have hft : findT c c[n9].name = some c[n9] := by
      cases e : findT c c[n9].name with
      | none => exact absurd (decide_eq_true rfl) (List.find?_eq_none.mp e c[n9] htm)
      | some u => rw [nodup_name (names_slt hg.asc) u (findT_mem e).1 c[n9] htm (findT_mem e).2]
    generalize c[n9] = t at *
    have bb9 : SameB [d] H' H9 := (SameB.of s8).trans b9
    have h19 := bb9 _ _ h1' fun hm => hlb0.1 (List.mem_singleton.mp hm)
    have hln9 := bb9 _ _ hln' fun hm => hlnd (List.mem_singleton.mp hm)
    have rn9 := rn'.mono (hD'.kp bb9)
    have h29 := h2.mono (hD'.kp bb9)
    have hcl := hgt.lo
    have hch := hgt.hi
    have hwl : ws.length = as.length := by rw [h2.length, List.length_map]
    refine wss_one (ws_appW ((ve_var 5).go (Same.refl H9) fun v10 H10 s10 e10 => ⟨e10, ⟨_, SqL.of (s10 _ _ h19)⟩, ?_⟩))
    refine we_of (pe_tup pa_we) (wa_of (pa_cons pe_we pa_we rfl) ((de_ix (d := .str t.name) (DE.ue (de_var (d := eTab t) 7 (rvt.mono (.of s10)))) de_int rfl).go (Same.refl H10) fun v11 H11 s11 e11 => wa_of (pa_cons pe_we pa_nil rfl) (we_tuple T.b_tuple ((we_lcD n_l_pattern (defScope s_l_pattern) 12 t.cols (fun dd => ∃ v ∈ names, dd = .str v) rfl sc_l_pattern.nd T.b_range ((hD9.mono s10).mono s11) (de_ix (d := .int (t.cols : Int)) (DE.ue (de_var (d := eTab t) 7 (rvt.mono (.of (s10.trans s11))))) de_int rfl) (by omega) fun i12 H12 hi12 b12 hD12 => ?_).mono ?_))))
    · intro s0 H0 C cl fp
      have hln12 := b12 _ _ ((s10.trans s11) _ _ hln9) fun hm => hlnd (List.mem_singleton.mp hm)
      have rn12 := (rn9.mono (.of (s10.trans s11))).mono (((hD9.mono s10).mono s11).kp b12)
      refine we_ixlW ((ve_var 4).go (Same.refl H12) fun v13 H13 s13 e13 => we_take (ok_l_take T) hr T.gl_take passL (ve_var 0) (DE.is (d2 := .int (names.length : Int)) (de_len T.b_len (LV.qe (ve_lv (ve_var 4) (SqL.of (s13 _ _ hln12)) (rn12.mono (.of s13))))) (by rw [List.length_map])) (hD12.mono s13) (by omega) (by omega) fun n14 H14 b14 hD14 hn14 => ?_)
      have rn14 := (rn12.mono (.of s13)).mono ((hD12.mono s13).kp b14)
      obtain ⟨vv, hvv, rvv⟩ := rn14.at (show (names.map PyData.str)[n14]? = some (.str names[n14]) by rw [List.getElem?_map, List.getElem?_eq_getElem hn14]; rfl)
      exact ⟨ln, xn, (n14 : Int), vv, e13, rfl, SqL.of (b14 _ _ (s13 _ _ hln12) fun hm => hlnd (List.mem_singleton.mp hm)), atI_n hvv, (SameB.of s13).trans b14, hD14, _, ⟨_, List.getElem_mem hn14, rfl⟩, rvv⟩
    · rintro v12 H12 ⟨b12, hD12, Dl, xs, ds, ev, hn12, hl12, hr12, hlen, hall⟩
      subst ev
      obtain ⟨vars, evs, hvl, hvars⟩ := strs_ofN hlen hall
      refine ⟨Dl, xs, ds, rfl, SqL.of hl12, hr12, fun v13 H13 s13 r13 => ⟨szl (by show 2 ≤ 100000; decide), fun p hp => ⟨ws, ?_, by omega, ?_⟩⟩⟩
      · have := s13 _ _ (b12 _ _ ((s10.trans s11) _ _ h19) fun hm => hlb0.1 (List.mem_singleton.mp hm))
        rw [upd_ne fun e => by rw [← e, this] at hp; cases hp]
        exact this
      · rw [evs] at r13
        cases (show v11 = _ from e11)
        have h113 := s13 _ _ (b12 _ _ ((s10.trans s11) _ _ h19) fun hm => hlb0.1 (List.mem_singleton.mp hm))
        have hpl : p ≠ lb := fun e => by rw [e, h113] at hp; cases hp
        have hup : (L2.upd H13 p (.tup [V.str t.name, v13])) lb = some (.lst ws) := by rw [upd_ne (Ne.symm hpl)]; exact h113
        have k2' : Kp H13 (L2.upd H13 p (.tup [V.str t.name, v13])) := .new hp
        have kA : Kp H9 H13 := (Kp.of (s10.trans s11)).trans ((((hD9.mono s10).mono s11).kp b12).trans (.of s13))
        have ku2 : Kp (L2.upd H13 p (.tup [V.str t.name, v13])) (L2.upd (L2.upd H13 p (.tup [V.str t.name, v13])) lb (.lst (ws ++ [.ref p]))) := .upd hup rfl
        have hva : vst [.str t.name, eStrs vars] = false := rfl
        have rt0 : Rep (L2.upd H13 p (.tup [V.str t.name, v13])) (eAtm ⟨t.name, vars⟩) (.ref p) := ⟨p, _, rfl, upd_same, _, _, rfl, rfl, _, _, rfl, r13.mono k2', rfl⟩
        have hD13 := (hD12.mono s13)
        refine ⟨_, _, as ++ [⟨t.name, vars⟩], _, rfl, ?_, (hD13.put (hD13.ne hp)).put ⟨hlb0.1, fun e => ?_⟩, upd_same, ?_, by rw [List.length_append, h3]; rfl, fun a ha => ?_⟩
        · intro a o h hn
          have hb := (b.trans ((bb9.trans ((SameB.of (s10.trans s11)).trans (b12.trans (.of s13)))).wide fun x hx => by rw [List.mem_singleton.mp hx]; exact List.mem_cons_self)) a o h hn
          have e1 : a ≠ lb := fun e => hn (by rw [e]; simp)
          have e2 : a ≠ p := fun e => by rw [e, hp] at hb; cases hb
          rw [upd_ne e1, upd_ne e2]
          exact hb
        · exact (hD4.ne hnb).2 e
        · rw [List.map_append]
          exact ((h29.mono kA).mono (k2'.trans ku2)).snoc (rt0.mono ku2)
        · rcases List.mem_append.mp ha with h | h
          · exact h4 a h
          · rw [List.mem_singleton.mp h]
            exact ⟨hnmt, ⟨t, hft, hvl.symm⟩, by show 1 ≤ vars.length; omega, by show vars.length ≤ 4; omega, fun v hv => hnames v (hvars v hv)⟩
  · rintro σ' H' ⟨o6, o7, as, ws, eσ, b, hD', h1', h2, h3, h4⟩
    subst eσ
    have kp5 : Kp H5 H' := b.kp fun x hx => by
      simp only [List.mem_cons, List.not_mem_nil, or_false] at hx
      rcases hx with e | e
      · obtain ⟨_, _, _, _, z, _⟩ := hD4.mono s5
        rw [e]; exact ⟨_, z, rfl⟩
      · rw [e]; exact ⟨_, hlb, rfl⟩
    have bH : SameB [d] H H' := b4.out ((SameB.of s5).trans b) fun x hx => by
      simp only [List.mem_cons, List.not_mem_nil, or_false] at hx
      rcases hx with e | e
      · exact .inl (by rw [e]; exact List.mem_cons_self)
      · exact .inr (by rw [e]; exact hnb)
    have hal : as.length ≤ 3 := by omega
    have hpv : ∀ hd : List Str, pvars ⟨hd, as⟩ = pvars ⟨[], as⟩ := fun hd => rfl
    have hvm : ∀ v ∈ pvars ⟨[], as⟩, v ∈ varNames := fun v hv => by
      obtain ⟨a, ha, h⟩ := mem_pvars.mp hv
      exact (h4 a ha).2.2.2.2 v h
    have hvl : (pvars ⟨[], as⟩).length ≤ 3 := List.Nodup.length_le_of_subset (l₂ := varNames) (nodup_pvars _) hvm
    refine wss_cons (ws_de (d := ePat ⟨[], as⟩) 8 sc_l_pattern.nd (de_tup (ds := [eStrs [], eAtms as]) (aa_cons (de_tup aa_nil rfl (by decide)) (aa_cons (de_tuple T.b_tuple (ve_lv (ve_var 5) (SqL.of h1') h2)) aa_nil)) rfl (by show 2 ≤ 100000; decide)) fun vp H8 s8 r8 => ?_)
    refine wss_cons (ws_de (d := eStrs (pvars ⟨[], as⟩)) 9 sc_l_pattern.nd (de_call (ok_l_variables T) hr T.gl_variables passL (aa_cons (de_var 8 r8) aa_nil) ⟨⟨[], as⟩, ⟨hal, fun a ha => (h4 a ha).2.2.2.1, by show 0 ≤ 100; decide⟩, rfl, rfl⟩) fun vv H9 s9 r9 => ?_)
    generalize hpvs : pvars ⟨[], as⟩ = pv at *
    refine wss_cons (ws_set 10 sc_l_pattern.nd (LE.go (le_lst aa_nil (by decide)) (Same.refl H9) fun lh ys H10 s10 hnh hlh rl10 => ?_))
    obtain rfl : ys = [] := rl10
    have hD9 := (hD'.mono s8).mono s9
    have hlhd := hD9.ne hnh
    have hlhb : lh ≠ lb := fun e => by rw [e, s9 _ _ (s8 _ _ h1')] at hnh; cases hnh
    have r10 := r9.mono (.of s10)
    refine wss_cons (ws_forX (passes_of rfl) rfl T.b_range ((de_len T.b_len (DE.qe (de_var 9 r10))).go (Same.refl H10) fun v11 H11 s11 e11 => ⟨pv.length, by rw [(show v11 = _ from e11), List.length_map], by omega, fun i σ' H' => ∃ (o6 o11 : Option V) (hd : List Str) (ws2 : List V), σ' = [some (.ref d), some vc, some (.int 3), some (.int 3), some (.ref ln), some (.ref lb), o6, o7, some vp, some vv, some (.ref lh), o11, none] ∧ SameB [d, lh] H10 H' ∧ DAt H' d l ∧ H' lh = some (.lst ws2) ∧ RepL H' (hd.map .str) ws2 ∧ hd.length ≤ i ∧ hd.Nodup ∧ ∀ v ∈ hd, v ∈ pv, ?_, ?_, ?_⟩) (pg_name (i := 6) sc_l_pattern.nd rfl (.inl rfl)))
    · exact ⟨_, _, [], [], rfl, .of s11, (hD9.mono s10).mono s11, s11 _ _ hlh, rfl, Nat.le_refl _, List.nodup_nil, nofun⟩
    · rintro i σ' H12 hi ⟨o6, o11, hd, ws2, eσ, b12, hD12, h12, r12, h6, h7, h8⟩
      subst eσ
      have kp12 : Kp H10 H12 := b12.kp fun x hx => by
        simp only [List.mem_cons, List.not_mem_nil, or_false] at hx
        rcases hx with e | e
        · obtain ⟨_, _, _, _, z, _⟩ := hD9.mono s10
          rw [e]; exact ⟨_, z, rfl⟩
        · rw [e]; exact ⟨_, hlh, rfl⟩
      have rv12 := r10.mono kp12
      have hw2 : ws2.length = hd.length := by rw [r12.length, List.length_map]
      refine wss_cons (ws_set 11 sc_l_pattern.nd (we_ixW ((de_var 9 rv12).go (Same.refl H12) fun v13 H13 s13 r13 => we_take (ok_l_take T) hr T.gl_take passL (ve_var 0) (DE.is (d2 := .int (pv.length : Int)) (de_len T.b_len (DE.qe (de_var 9 (rv12.mono (.of s13))))) (by rw [List.length_map])) (hD12.mono s13) (by omega) (by omega) fun n14 H14 b14 hD14 hn14 => ?_)))
      obtain ⟨pt, ys, ept, hpt, rpt⟩ := (r13.mono ((hD12.mono s13).kp b14)).seq (K := K)
      obtain ⟨vo, hvo, rvo⟩ := rpt.at (show (pv.map PyData.str)[n14]? = some (.str pv[n14]) by rw [List.getElem?_map, List.getElem?_eq_getElem hn14]; rfl)
      refine ⟨pt, ys, (n14 : Int), vo, ept, rfl, hpt, atI_n hvo, ?_⟩
      have hvp : pv[n14] ∈ pv := List.getElem_mem hn14
      generalize pv[n14] = one at *
      have bb14 : SameB [d] H12 H14 := (SameB.of s13).trans b14
      have h14 := bb14 _ _ h12 fun hm => hlhd.1 (List.mem_singleton.mp hm)
      have rr14 := r12.mono (hD12.kp bb14)
      have w14 : SameB [d, lh] H10 H14 := b12.trans (bb14.wide fun x hx => by rw [List.mem_singleton.mp hx]; exact List.mem_cons_self)
      have stay : ∀ H15, SameB [d, lh] H10 H15 → DAt H15 d l → H15 lh = some (.lst ws2) → RepL H15 (hd.map .str) ws2 → ∃ (o6 o11 : Option V) (hd : List Str) (ws2 : List V), [some (V.ref d), some vc, some (.int 3), some (.int 3), some (.ref ln), some (.ref lb), some (.int (i : Int)), o7, some vp, some vv, some (.ref lh), some vo, none] = [some (.ref d), some vc, some (.int 3), some (.int 3), some (.ref ln), some (.ref lb), o6, o7, some vp, some vv, some (.ref lh), o11, none] ∧ SameB [d, lh] H10 H15 ∧ DAt H15 d l ∧ H15 lh = some (.lst ws2) ∧ RepL H15 (hd.map .str) ws2 ∧ hd.length ≤ i + 1 ∧ hd.Nodup ∧ ∀ v ∈ hd, v ∈ pv := fun H15 z1 z2 z3 z4 => ⟨_, _, hd, ws2, rfl, z1, z2, z3, z4, by omega, h7, h8⟩
      refine wss_one (ws_if (wt_and (BT.go (bt_cmp (ce_nins (de_var 11 rvo) (LV.qe (ve_lv (ve_var 10) (SqL.of h14) rr14)))) (Same.refl H14) fun H15 s15 => ?_)))
      by_cases hin : one ∈ hd
      · rw [List.contains_iff_mem.mpr hin, if_neg (by decide), if_neg (by decide)]
        exact wss_nil (stay H15 (w14.trans (.of s15)) (hD14.mono s15) (s15 _ _ h14) (rr14.mono (.of s15)))
      · rw [show hd.contains one = false from by rw [Bool.eq_false_iff]; exact fun h => hin (List.contains_iff_mem.mp h), if_pos (by decide)]
        refine wt_cmp op_gt (we_take (ok_l_take T) hr T.gl_take passL (ve_var 0) (DE.is (d2 := .int ((3 : Nat) : Int)) de_int rfl) (hD14.mono s15) (by decide) (by decide) fun n16 H16 b16 hD16 hn16 => (de_int (i := 0)).go (Same.refl H16) fun v17 H17 s17 e17 => ⟨(n16 : Int), 0, rfl, e17, _, rfl, ?_⟩)
        have h17 := s17 _ _ (b16 _ _ (s15 _ _ h14) fun hm => hlhd.1 (List.mem_singleton.mp hm))
        have rr17 := ((rr14.mono (.of s15)).mono ((hD14.mono s15).kp b16)).mono (.of s17)
        have w17 : SameB [d, lh] H10 H17 := ((w14.trans (.of s15)).trans (b16.wide fun x hx => by rw [List.mem_singleton.mp hx]; exact List.mem_cons_self)).trans (.of s17)
        have hD17 := hD16.mono s17
        by_cases hp : (0 : Int) < (n16 : Int)
        · rw [decide_eq_true hp, if_pos rfl]
          refine wss_one (ws_app (ve_var 10) h17 (by omega) (de_var (d := .str one) 11 (show Rep H17 (.str one) vo from rvo)) fun v18 H18 s18 r18 => ?_)
          have ku : Kp H18 (L2.upd H18 lh (.lst (ws2 ++ [v18]))) := .upd (s18 _ _ h17) rfl
          refine ⟨_, _, hd ++ [one], _, rfl, (w17.trans (.of s18)).trans (.upd (by simp)), (hD17.mono s18).put hlhd, upd_same, ?_, by rw [List.length_append]; show _ + 1 ≤ _; omega, List.nodup_append.mpr ⟨h7, List.nodup_cons.mpr ⟨nofun, List.nodup_nil⟩, fun x hx y hy e => hin (by rw [← List.mem_singleton.mp hy, ← e]; exact hx)⟩, fun v hv => (List.mem_append.mp hv).elim (h8 v) fun e => by rw [List.mem_singleton.mp e]; exact hvp⟩
          rw [List.map_append]
          exact (rr17.mono ((Kp.of s18).trans ku)).snoc (r18.mono ku)
        · rw [decide_eq_false hp, if_neg (by decide)]
          exact wss_nil (stay H17 w17 hD17 h17 rr17)
    · rintro σ' H12 ⟨o6, o11, hd, ws2, eσ, b12, hD12, h12, r12, h6, h7, h8⟩
      subst eσ
      have kp12 : Kp H10 H12 := b12.kp fun x hx => by
        simp only [List.mem_cons, List.not_mem_nil, or_false] at hx
        rcases hx with e | e
        · obtain ⟨_, _, _, _, z, _⟩ := hD9.mono s10
          rw [e]; exact ⟨_, z, rfl⟩
        · rw [e]; exact ⟨_, hlh, rfl⟩
      have h1b : H12 lb = some (.lst ws) := b12 _ _ (s10 _ _ (s9 _ _ (s8 _ _ h1'))) fun hm => by
        simp only [List.mem_cons, List.not_mem_nil, or_false] at hm
        rcases hm with e | e
        · exact hlb0.1 e
        · exact hlhb e.symm
      have r2b := h2.mono ((Kp.of ((s8.trans s9).trans s10)).trans kp12)
      refine wss_one (rt_de (Same.refl H12) (de_tup (ds := [eStrs hd, eAtms as]) (aa_cons (de_tuple T.b_tuple (ve_lv (ve_var 10) (SqL.of h12) r12)) (aa_cons (de_tuple T.b_tuple (ve_lv (ve_var 5) (SqL.of h1b) r2b)) aa_nil)) rfl (by show 2 ≤ 100000; decide)) fun v' H13 s13 r13 => ?_)
      refine q v' H13 ⟨hd, as⟩ ?_ (hD12.mono s13) ⟨hal, by show 0 < as.length; omega, fun a ha => (h4 a ha).1, fun a ha => (h4 a ha).2.1, fun a ha => (h4 a ha).2.2.1, fun a ha => (h4 a ha).2.2.2.1, fun a ha => (h4 a ha).2.2.2.2, fun v hv => by rw [hpv]; exact h8 v hv, h7⟩ r13
      have bA : SameB [d] H H9 := bH.trans (.of (s8.trans s9))
      refine SameB.trans (bA.out ((SameB.of s10).trans b12) fun x hx => ?_) (.of s13)
      simp only [List.mem_cons, List.not_mem_nil, or_false] at hx
      rcases hx with e | e
      · exact .inl (by rw [e]; exact List.mem_cons_self)
      · exact .inr (by rw [e]; exact hnh)
end
end J
/-! The law's agrees, named. -/
namespace J
open PySem PySem.Spec PyProof.Rows L2
abbrev Kn := Str → Option Int
def KnD (kvs : List (Key × V)) (kn : Kn) : Prop := ∀ x : Str, valV kvs (.inr x) = (kn x).map V.int
theorem KnD.nil : KnD [] fun _ => none := fun _ => rfl
theorem KnD.put {kvs : List (Key × V)} {kn : Kn} (h : KnD kvs kn) (x : Str) (n : Int) : KnD (putK kvs (.inr x) (.int n)) fun y => if y = x then some n else kn y := fun y => by
  rw [valV_put]
  by_cases e : y = x
  · show _ = (if y = x then some n else kn y).map V.int
    rw [if_pos (by rw [e]), if_pos e]; rfl
  · show _ = (if y = x then some n else kn y).map V.int
    rw [if_neg fun e2 => e (Sum.inr.inj e2), if_neg e, h y]
theorem KnD.congr {kvs : List (Key × V)} {kn kn2 : Kn} (h : KnD kvs kn) (e : ∀ x, kn x = kn2 x) : KnD kvs kn2 := fun x => by rw [h x, e x]
def okK (kn : Kn) (inner : List Str) (row : Row) (k : Nat) : Bool := match kn (inner.getD k "") with
  | some n => decide (n = row.getD k 0)
  | none => true
def agB (inner : List Str) (row : Row) (kn : Kn) : Bool := ((List.range inner.length).all fun k => okK kn inner row k) && agreesB inner row
/-- what is known of the first k of the order -/
def knOf (order : List Str) (t : Row) (k : Nat) : Kn := fun x => if x ∈ order.take k then some (t.getD (idx order x) 0) else none
theorem idx_self {order : List Str} (hn : order.Nodup) {k : Nat} (hk : k < order.length) : idx order (order.getD k "") = k := by
  have h2 := getD_at ("" : Str) hk
  have h1 := idx_at (List.mem_of_getElem? h2)
  rcases Nat.lt_trichotomy (idx order (order.getD k "")) k with hlt | heq | hgt
  · have h4 := h1.1
    rw [← h2, List.getElem?_eq_getElem (by omega), List.getElem?_eq_getElem hk] at h4
    exact absurd ((List.getElem_inj hn).mp (Option.some.inj h4)) (by omega)
  · exact heq
  · exact absurd h2 (h1.2 k hgt)
theorem kn_step {order : List Str} {t : Row} (hn : order.Nodup) {k : Nat} (hk : k < order.length) (x : Str) : (if x = order.getD k "" then some (t.getD k 0) else knOf order t k x) = knOf order t (k + 1) x := by
  unfold knOf
  have e : order.take (k + 1) = order.take k ++ [order.getD k ""] := by rw [List.take_add_one, getD_at ("" : Str) hk]; rfl
  rw [e]
  by_cases h : x = order.getD k ""
  · rw [if_pos h, if_pos (by rw [h]; exact List.mem_append_right _ List.mem_cons_self), h, idx_self hn hk]
  · rw [if_neg h]
    by_cases h2 : x ∈ order.take k
    · rw [if_pos h2, if_pos (List.mem_append_left _ h2)]
    · rw [if_neg h2, if_neg fun hm => (List.mem_append.mp hm).elim h2 fun e => h (List.mem_singleton.mp e)]
theorem kn_zero {order : List Str} {t : Row} (x : Str) : (none : Option Int) = knOf order t 0 x := by unfold knOf; rw [List.take_zero, if_neg (by simp)]
section
variable {P : Program} {w : World} {K : PySem.W.Frag} {mg : Str → Option Value} {base : Heap}
def agrS (K : PySem.W.Frag) : Sp := fun vs H Q _ => ∃ (vi vr : V) (a : Addr) (inner : List Str) (row : Row) (kvs : List (Key × V)) (kn : Kn), vs = [vi, vr, .ref a] ∧ Rep H (eStrs inner) vi ∧ Rep H (eRow row) vr ∧ H a = some (.dK kvs) ∧ KnD kvs kn ∧ row.length = inner.length ∧ inner.length ≤ 4 ∧ ∀ H', Same H H' → Q (.bl (agB inner row kn)) H'
theorem all_false {n k : Nat} {f : Nat → Bool} (h : k < n) (hf : f k = false) : (List.range n).all f = false := by
  rw [List.all_eq_false]
  exact ⟨k, List.mem_range.mpr h, by rw [hf]; decide⟩
theorem ok_l_agrees (T : Tx K mg) : OkF P w K mg base (L2.CX P w) 1 (He.fAd K ("_law_agrees", none)) ["_law_inner", "_law_row", "_law_known"] (agrS K) := by
  refine mk_l_agrees T (fun vs H Q E ⟨_, _, _, _, _, _, _, e, _⟩ => by subst e; rfl) (fun cdv A outer s H vs Q E hr ⟨vi, vr, ka, inner, row, kvs, kn, e, ri, rr, hk, hkn, hl, h4, q⟩ => ?_)
  subst e
  have hu := hu_of hr
  refine wss_cons (ws_set 3 sc_l_agrees.nd (we_newK fun sa hsa => ?_))
  have s0 : Same H (L2.upd H sa (.dK [])) := .new hsa
  have hs0 : (L2.upd H sa (.dK [])) sa = some (.dK []) := upd_same
  generalize L2.upd H sa (.dK []) = H1 at *
  have ri1 := ri.mono (.of s0)
  refine wss_cons (ws_forX (passes_of rfl) rfl T.b_range ((de_len T.b_len (DE.qe (de_var 0 ri1))).go (Same.refl H1) fun v2 H2 s2 e2 => ⟨inner.length, by rw [(show v2 = _ from e2), List.length_map], by omega, fun i σ' H' => ∃ (o : Option V) (skv : List (Key × V)), σ' = [some vi, some vr, some (.ref ka), some (.ref sa), o] ∧ SameB [sa] H1 H' ∧ H' sa = some (.dK skv) ∧ skv.length ≤ i ∧ KnD skv (fun x => if x ∈ inner.take i then some (row.getD (idx inner x) 0) else none) ∧ ∀ k, k < i → okK kn inner row k = true ∧ row.getD k 0 = row.getD (idx inner (inner.getD k "")) 0, ?_, ?_, ?_⟩) (pg_name (i := 4) sc_l_agrees.nd rfl (.inl rfl)))
  · exact ⟨none, [], rfl, .of s2, s2 _ _ hs0, Nat.le_refl _, KnD.nil.congr fun x => by rw [List.take_zero, if_neg (by simp)], fun k hk => absurd hk (Nat.not_lt_zero k)⟩
  · rintro i σ' H' hi ⟨o, skv, eσ, b, h1, h1l, h2, h3⟩
    subst eσ
    have kp : Kp H1 H' := kp1 b hs0 rfl
    have ri' := ri1.mono kp
    have rr' := (rr.mono (.of s0)).mono kp
    have hkne : ka ≠ sa := fun e => by rw [e, hsa] at hk; cases hk
    have hk' : H' ka = some (.dK kvs) := b _ _ (s0 _ _ hk) fun hm => hkne (List.mem_singleton.mp hm)
    have hat : atI (inner.map PyData.str) ((i : Nat) : Int) = some (.str (inner.getD i "")) := atI_n (by rw [List.getElem?_map, getD_at ("" : Str) hi]; rfl)
    have har : atI (row.map PyData.int) ((i : Nat) : Int) = some (.int (row.getD i 0)) := atI_n (by rw [List.getElem?_map, getD_at (0 : Int) (by omega)]; rfl)
    have retF : ∀ {H5 : Hp} {pos : Pos} {n : Nat} {p2 : Pos} {D : Ends}, Same H' H5 → agB inner row kn = false → D.rt = Q → WSs (cxOf (L2.CX P w) P w K mg base n_l_agrees "_law_agrees" (defScope s_l_agrees) (He.fAd K ("_law_agrees", none)) cdv A outer s H E) [.Return (some (.Constant (.bool false) n p2)) pos] D [some vi, some vr, some (.ref ka), some (.ref sa), some (.int (i : Int))] H5 := fun {H5 pos n p2 D} s5 e eD => by
      refine wss_one (rt_de (Same.refl H5) (de_bl (k := false)) fun v' H6 s6 r6 => ?_)
      cases (show v' = _ from r6)
      have := q H6 (((same_out s0 b fun x hx => by rw [List.mem_singleton.mp hx]; exact hsa).trans s5).trans s6)
      rw [e] at this
      rw [eD]
      exact this
    refine wss_cons (ws_if (BT.go (bt_and (m := !decide ((kn (inner.getD i "")).getD 0 = row.getD i 0)) (bt_cmp (ce_dinK (k := .inr (inner.getD i "")) hu (ve_str (de_ix (DE.ue (de_var 0 ri')) (de_var (d := .int (i : Int)) 4 rfl) hat)) (ve_var 2) (.inl hk'))) fun hin => bt_cmp (ce_ne (de_n (ve_dgetK (k := .inr (inner.getD i "")) (v := .int ((kn (inner.getD i "")).getD 0)) hu (ve_var 2) (.inl hk') (ve_str (de_ix (DE.ue (de_var 0 ri')) (de_var (d := .int (i : Int)) 4 rfl) hat)) ?_)) (de_ix (DE.ue (de_var 1 rr')) (de_var (d := .int (i : Int)) 4 rfl) har))) (Same.refl H') fun H3 s3 => ?_))
    · rw [hkn] at hin ⊢
      cases e : kn (inner.getD i "") with
      | none => rw [e] at hin; cases hin
      | some n => rfl
    have hok : ((valV kvs (.inr (inner.getD i ""))).isSome && !decide ((kn (inner.getD i "")).getD 0 = row.getD i 0)) = !okK kn inner row i := by
      unfold okK
      rw [hkn]
      cases kn (inner.getD i "") with
      | none => rfl
      | some n => rfl
    rw [hok]
    cases ho : okK kn inner row i with
    | false =>
      rw [if_pos (by decide)]
      exact retF s3 (by unfold agB; rw [all_false hi ho]; rfl) rfl
    | true =>
    rw [if_neg (by decide)]
    have h13 := s3 _ _ h1
    have ri3 := ri'.mono (.of s3)
    have rr3 := rr'.mono (.of s3)
    refine wss_nil (wss_cons (ws_if (BT.go (bt_and (m := !decide (row.getD (idx inner (inner.getD i "")) 0 = row.getD i 0)) (bt_cmp (ce_dinK (k := .inr (inner.getD i "")) hu (ve_str (de_ix (DE.ue (de_var 0 ri3)) (de_var (d := .int (i : Int)) 4 rfl) hat)) (ve_var 3) (.inl h13))) fun hin => bt_cmp (ce_ne (de_n (ve_dgetK (k := .inr (inner.getD i "")) (v := .int (row.getD (idx inner (inner.getD i "")) 0)) hu (ve_var 3) (.inl h13) (ve_str (de_ix (DE.ue (de_var 0 ri3)) (de_var (d := .int (i : Int)) 4 rfl) hat)) ?_)) (de_ix (DE.ue (de_var 1 rr3)) (de_var (d := .int (i : Int)) 4 rfl) har))) (Same.refl H3) fun H4 s4 => ?_)))
    · rw [h2] at hin ⊢
      by_cases e : inner.getD i "" ∈ inner.take i
      · simp only [if_pos e]; rfl
      · simp only [if_neg e] at hin; cases hin
    have hseen : ((valV skv (.inr (inner.getD i ""))).isSome && !decide (row.getD (idx inner (inner.getD i "")) 0 = row.getD i 0)) = !decide (row.getD i 0 = row.getD (idx inner (inner.getD i "")) 0) := by
      rw [h2]
      by_cases e : inner.getD i "" ∈ inner.take i
      · simp only [if_pos e, Option.map_some, Option.isSome_some, Bool.true_and]
        congr 1
        exact decide_eq_decide.mpr ⟨Eq.symm, Eq.symm⟩
      · have hi2 : idx inner (inner.getD i "") = i := by
          have h2 := getD_at ("" : Str) hi
          have h1 := idx_at (List.mem_of_getElem? h2)
          rcases Nat.lt_trichotomy (idx inner (inner.getD i "")) i with hlt | heq | hgt
          · refine absurd ?_ e
            refine List.mem_of_getElem? (i := idx inner (inner.getD i "")) ?_
            rw [List.getElem?_take, if_pos hlt]
            exact h1.1
          · exact heq
          · exact absurd h2 (h1.2 i hgt)
        simp only [if_neg e, hi2, Option.map_none, Option.isSome_none, Bool.false_and, decide_true, Bool.not_true]
    rw [hseen]
    by_cases hd : row.getD i 0 = row.getD (idx inner (inner.getD i "")) 0
    · rw [decide_eq_true hd, if_neg (by decide)]
      have h14 := s4 _ _ h13
      have ri4 := ri3.mono (.of s4)
      have rr4 := rr3.mono (.of s4)
      refine wss_nil (wss_one (ws_dputK (k := .inr (inner.getD i "")) hu mono_rep (de_ix (DE.ue (de_var 1 rr4)) (de_var (d := .int (i : Int)) 4 rfl) har) (ve_var 3) h14 (ve_str (de_ix (DE.ue (de_var 0 ri4)) (de_var (d := .int (i : Int)) 4 rfl) hat)) (by omega) fun v5 H5 s5 e5 => ?_))
      cases (show v5 = _ from e5)
      refine ⟨_, _, rfl, (b.trans (.of ((s3.trans s4).trans s5))).trans (.upd (by simp)), upd_same, ?_, ((h2.put (inner.getD i "") (row.getD i 0)).congr fun x => ?_), fun k hk => ?_⟩
      · have := putK_few skv (Sum.inr (inner.getD i "")) (V.int (row.getD i 0))
        omega
      · have e : inner.take (i + 1) = inner.take i ++ [inner.getD i ""] := by rw [List.take_add_one, getD_at ("" : Str) hi]; rfl
        rw [e]
        by_cases hx : x = inner.getD i ""
        · rw [if_pos hx, if_pos (by rw [hx]; exact List.mem_append_right _ List.mem_cons_self), hx, hd]
        · rw [if_neg hx]
          by_cases hx2 : x ∈ inner.take i
          · rw [if_pos hx2, if_pos (List.mem_append_left _ hx2)]
          · rw [if_neg hx2, if_neg fun hm => (List.mem_append.mp hm).elim hx2 fun e => hx (List.mem_singleton.mp e)]
      · rcases Nat.lt_succ_iff_lt_or_eq.mp hk with h | h
        · exact h3 k h
        · rw [h]; exact ⟨ho, hd⟩
    · rw [decide_eq_false hd, if_pos (by decide)]
      exact retF (s3.trans s4) (by
        unfold agB agreesB
        rw [all_false (f := fun k => decide (row.getD k 0 = row.getD (idx inner (inner.getD k "")) 0)) hi (decide_eq_false hd), Bool.and_false]) rfl
  · rintro σ' H' ⟨o, skv, eσ, b, h1, h1l, h2, h3⟩
    subst eσ
    refine wss_one (rt_de (Same.refl H') (de_bl (k := true)) fun v' H6 s6 r6 => ?_)
    cases (show v' = _ from r6)
    have := q H6 ((same_out s0 b fun x hx => by rw [List.mem_singleton.mp hx]; exact hsa).trans s6)
    have e : agB inner row kn = true := by
      unfold agB agreesB
      rw [Bool.and_eq_true, List.all_eq_true, List.all_eq_true]
      exact ⟨fun k hk => (h3 k (List.mem_range.mp hk)).1, fun k hk => decide_eq_true (h3 k (List.mem_range.mp hk)).2⟩
    rw [e] at this
    exact this
end
end J
/-! The law's levels, in plain. -/
namespace J
open PySem PySem.Spec PyProof.Rows L2
def addV (vs : List Int) (row : Row) : List Int := vs ++ row.filter fun n => !vs.contains n
def inVals (c : Cat) (n : Int) : Bool := c.any fun t => t.rows.any fun r => r.contains n
def anyAg (c : Cat) (a : Atm) (kn : Kn) : Bool := (rowsIn c a.tab).any fun row => agB a.vars row kn
def goodA (c : Cat) (order : List Str) (t : Row) (k : Nat) (a : Atm) : Bool := !a.vars.contains (order.getD k "") || anyAg c a (knOf order t (k + 1))
def goodB (c : Cat) (p : Pat) (t : Row) (k : Nat) : Bool := p.atoms.all (goodA c (pvars p) t k)
def plev (c : Cat) (p : Pat) : Nat → List Row
  | 0 => if p.atoms.all (fun a => anyAg c a fun _ => none) = true then [[]] else []
  | k + 1 => (plev c p k).flatMap fun pre => ((only3 (inVals c)).filter fun n => goodB c p (pre ++ [n]) k).map fun n => pre ++ [n]
/-! the values -/
theorem mem_addV {vs : List Int} {row : Row} {x : Int} : x ∈ addV vs row ↔ x ∈ vs ∨ x ∈ row := by
  unfold addV
  rw [List.mem_append, List.mem_filter]
  by_cases h : x ∈ vs
  · exact ⟨fun _ => .inl h, fun _ => .inl h⟩
  · simp [h]
theorem mem_foldV : ∀ {rows : List Row} {vs : List Int} {x : Int}, x ∈ rows.foldl addV vs ↔ x ∈ vs ∨ ∃ r ∈ rows, x ∈ r
  | [], vs, x => by simp
  | r :: rows, vs, x => by
    rw [List.foldl_cons, mem_foldV, mem_addV]
    simp only [List.mem_cons, exists_eq_or_imp]
    rw [or_assoc]
def cnt3 (vs : List Int) : Nat := (decide ((0 : Int) ∈ vs)).toNat + (decide ((1 : Int) ∈ vs)).toNat + (decide ((2 : Int) ∈ vs)).toNat
theorem dec_mono {a b : Prop} [Decidable a] [Decidable b] (h : a → b) : (decide a).toNat ≤ (decide b).toNat := by
  by_cases ha : a
  · rw [decide_eq_true ha, decide_eq_true (h ha)]; exact Nat.le_refl _
  · rw [decide_eq_false ha]; exact Nat.zero_le _
theorem dec_new {a b : Prop} [Decidable a] [Decidable b] (h : b) (ha : ¬ a) : (decide a).toNat + 1 ≤ (decide b).toNat := by
  rw [decide_eq_false ha, decide_eq_true h]; exact Nat.le_refl _
theorem addV_len {vs : List Int} {row : Row} (h : vs.length ≤ 4 * cnt3 vs) (hr : row.length ≤ 4) (hd : ∀ n ∈ row, dig3 n) : (addV vs row).length ≤ 4 * cnt3 (addV vs row) := by
  have hl := List.length_filter_le (fun n => !vs.contains n) row
  have m0 : ∀ x : Int, (decide (x ∈ vs)).toNat ≤ (decide (x ∈ addV vs row)).toNat := fun x => dec_mono fun h => mem_addV.mpr (.inl h)
  have h0 := m0 0
  have h1 := m0 1
  have h2 := m0 2
  cases e : row.filter fun n => !vs.contains n with
  | nil =>
    have : addV vs row = vs := by unfold addV; rw [e, List.append_nil]
    rw [this]; exact h
  | cons a t =>
    have ha : a ∈ row.filter fun n => !vs.contains n := by rw [e]; exact List.mem_cons_self
    obtain ⟨ha1, ha2⟩ := List.mem_filter.mp ha
    have hav : a ∉ vs := fun h => by simp [h] at ha2
    have haw : a ∈ addV vs row := mem_addV.mpr (.inr ha1)
    have hg : cnt3 vs + 1 ≤ cnt3 (addV vs row) := by
      unfold cnt3
      have hn := dec_new haw hav
      rcases hd a ha1 with e | e | e <;> rw [e] at hn <;> omega
    unfold addV at hg ⊢
    rw [List.length_append]
    omega
theorem cnt3_le (vs : List Int) : cnt3 vs ≤ 3 := by
  have : ∀ b : Bool, b.toNat ≤ 1 := fun b => by cases b <;> decide
  have h0 := this (decide ((0 : Int) ∈ vs))
  have h1 := this (decide ((1 : Int) ∈ vs))
  have h2 := this (decide ((2 : Int) ∈ vs))
  unfold cnt3
  omega
/-! the levels -/
def stepP (c : Cat) (p : Pat) (t : Row) : Bool := p.atoms.all (fun a => anyAg c a fun _ => none) && (List.range t.length).all fun i => inVals c (t.getD i 0) && goodB c p (t.take (i + 1)) i
theorem stepP_snoc {c : Cat} {p : Pat} {pre : Row} {x : Int} : stepP c p (pre ++ [x]) = (stepP c p pre && (inVals c x && goodB c p (pre ++ [x]) pre.length)) := by
  unfold stepP
  rw [List.length_append]
  show (_ && (List.range (pre.length + 1)).all _) = _
  rw [List.range_succ, List.all_append, Bool.and_assoc]
  congr 2
  · rw [Bool.eq_iff_iff, List.all_eq_true, List.all_eq_true]
    constructor
    · intro h i hi
      have := h i hi
      have hi := List.mem_range.mp hi
      rw [List.take_append_of_le_length (by omega), getD_app hi] at this
      exact this
    · intro h i hi
      have := h i hi
      have hi := List.mem_range.mp hi
      rw [List.take_append_of_le_length (by omega), getD_app hi]
      exact this
  · rw [List.all_cons, List.all_nil, Bool.and_true, List.take_of_length_le (by rw [List.length_append]; exact Nat.le_refl _)]
    congr 2
    rw [List.getD_eq_getElem?_getD, List.getElem?_append_right (Nat.le_refl _), Nat.sub_self]
    rfl
theorem plev_is (c : Cat) (p : Pat) : ∀ k, plev c p k = (tups k).filter (stepP c p)
  | 0 => by
    unfold plev tups
    rw [List.filter_cons, List.filter_nil]
    have : stepP c p [] = p.atoms.all fun a => anyAg c a fun _ => none := by unfold stepP; rw [List.length_nil, List.range_zero, List.all_nil, Bool.and_true]
    rw [this]
  | k + 1 => by
    unfold plev
    rw [plev_is c p k]
    show _ = ((tups k).flatMap fun p => [0, 1, 2].map fun x => p ++ [x]).filter _
    rw [List.filter_flatMap, flat_filter, List.flatMap_def, List.flatMap_def]
    congr 1
    refine List.map_congr_left fun pre hpre => ?_
    have hl := (mem_tups.mp hpre).len
    rw [List.filter_map]
    have e : ((stepP c p) ∘ fun x => pre ++ [x]) = fun x => stepP c p pre && (inVals c x && goodB c p (pre ++ [x]) k) := funext fun x => by rw [← hl]; exact stepP_snoc
    rw [e]
    cases hp : stepP c p pre with
    | true =>
      rw [if_pos rfl]
      unfold only3
      rw [List.filter_filter]
      congr 2
      funext x
      rw [Bool.and_comm]; simp
    | false => simp
theorem agB_iff {inner : List Str} {row : Row} {kn : Kn} : agB inner row kn = true ↔ (∀ (k : Nat) (n : Int), k < inner.length → kn (inner.getD k "") = some n → n = row.getD k 0) ∧ agreesB inner row = true := by
  unfold agB
  rw [Bool.and_eq_true, List.all_eq_true]
  refine and_congr ⟨fun h k n hk hn => ?_, fun h k hk => ?_⟩ Iff.rfl
  · have := h k (List.mem_range.mpr hk)
    unfold okK at this
    rw [hn] at this
    exact of_decide_eq_true this
  · unfold okK
    cases e : kn (inner.getD k "") with
    | none => rfl
    | some n => exact decide_eq_true (h k n (List.mem_range.mp hk) e)
theorem agrees_atm {order vars : List Str} {t : Row} : agreesB vars (atmT order vars t) = true := List.all_eq_true.mpr fun j hj => decide_eq_true (by
  have hj := List.mem_range.mp hj
  have hvm : vars.getD j "" ∈ vars := List.mem_of_getElem? (getD_at ("" : Str) hj)
  rw [atmT_at hj, atmT_at (idx_lt hvm), idx_getD hvm])
theorem kn_take {order : List Str} {t : Row} {k : Nat} (x : Str) : knOf order (t.take k) k x = knOf order t k x := by
  unfold knOf
  by_cases h : x ∈ order.take k
  · rw [if_pos h, if_pos h]
    have hi : idx order x < k := by
      obtain ⟨j, hj, e⟩ := List.getElem_of_mem h
      rw [List.length_take] at hj
      rw [List.getElem_take] at e
      rcases Nat.lt_or_ge (idx order x) k with hlt | hge
      · exact hlt
      · have hx : x ∈ order := List.mem_of_mem_take h
        have h1 := idx_at hx
        exact absurd (by rw [List.getElem?_eq_getElem (by omega), e]) (h1.2 j (by omega))
    rw [List.getD_eq_getElem?_getD, List.getElem?_take, if_pos hi, ← List.getD_eq_getElem?_getD]
  · rw [if_neg h, if_neg h]
theorem anyAg_congr {c : Cat} {a : Atm} {k1 k2 : Kn} (h : ∀ x, k1 x = k2 x) : anyAg c a k1 = anyAg c a k2 := by rw [show k1 = k2 from funext h]
theorem stepP_fits {c : Cat} {p : Pat} (ok : PatOk c p) {t : Row} (ht : t.length = (pvars p).length) : stepP c p t = fitsB c p t := by
  rw [Bool.eq_iff_iff]
  unfold fitsB
  rw [List.all_eq_true]
  constructor
  · intro hs a ha
    unfold stepP at hs
    rw [Bool.and_eq_true] at hs
    obtain ⟨tb, t1, t2, _⟩ := ok.tab a ha
    have hin : ∀ v ∈ a.vars, v ∈ pvars p := fun v hv => mem_pvars.mpr ⟨a, ha, hv⟩
    have hpne : placesOf (pvars p) a.vars ≠ [] := by
      obtain ⟨v0, hv0⟩ : ∃ v0, v0 ∈ a.vars := List.exists_mem_of_length_pos (ok.lo a ha)
      have hl := idx_lt (hin v0 hv0)
      exact List.ne_nil_of_mem (mem_places.mpr ⟨hl, by rw [idx_getD (hin v0 hv0)]; exact hv0⟩)
    have hlm := List.getLast_mem hpne
    generalize hi : (placesOf (pvars p) a.vars).getLast hpne = i at hlm
    have hmax : ∀ k ∈ placesOf (pvars p) a.vars, k ≤ i := fun k hk => by
      have hs := List.dropLast_concat_getLast hpne
      have hp := places_asc (pvars p) a.vars
      rw [← hs, hi] at hp hk
      rcases List.mem_append.mp hk with h | h
      · exact Nat.le_of_lt ((List.pairwise_append.mp hp).2.2 k h i List.mem_cons_self)
      · rw [List.mem_singleton.mp h]; exact Nat.le_refl _
    obtain ⟨hil, hiv⟩ := mem_places.mp hlm
    have hz := List.all_eq_true.mp hs.2 i (List.mem_range.mpr (by omega))
    rw [Bool.and_eq_true] at hz
    have hg := List.all_eq_true.mp hz.2 a ha
    unfold goodA at hg
    rw [List.contains_iff_mem.mpr hiv, Bool.not_true, Bool.false_or, anyAg_congr fun x => kn_take x] at hg
    obtain ⟨row, hr, hag⟩ := List.any_eq_true.mp hg
    obtain ⟨h1, h2⟩ := agB_iff.mp hag
    have hrm : row ∈ tb.rows := by unfold rowsIn at hr; rw [t1] at hr; exact hr
    have hrl := (t2 row hrm).len
    have e : atmT (pvars p) a.vars t = row := row_ext atmT_len hrl fun j hj => by
      have hvm : a.vars.getD j "" ∈ a.vars := List.mem_of_getElem? (getD_at ("" : Str) hj)
      have hix := idx_lt (hin _ hvm)
      have hk : idx (pvars p) (a.vars.getD j "") ∈ placesOf (pvars p) a.vars := mem_places.mpr ⟨hix, by rw [idx_getD (hin _ hvm)]; exact hvm⟩
      have hle := hmax _ hk
      have hmt : a.vars.getD j "" ∈ (pvars p).take (i + 1) := List.mem_of_getElem? (i := idx (pvars p) (a.vars.getD j "")) (by rw [List.getElem?_take, if_pos (by omega)]; exact (idx_at (hin _ hvm)).1)
      rw [atmT_at hj]
      exact h1 j _ hj (by unfold knOf; rw [if_pos hmt])
    rw [e]
    exact decide_eq_true hr
  · intro h
    have key : ∀ a ∈ p.atoms, ∀ k, anyAg c a (knOf (pvars p) t k) = true := fun a ha k => List.any_eq_true.mpr ⟨_, of_decide_eq_true (h a ha), agB_iff.mpr ⟨fun j n hj hn => (by
      unfold knOf at hn
      split at hn
      · rw [atmT_at hj]; exact (Option.some.inj hn).symm
      · cases hn), agrees_atm⟩⟩
    unfold stepP
    rw [Bool.and_eq_true, List.all_eq_true, List.all_eq_true]
    refine ⟨fun a ha => ?_, fun i hi => ?_⟩
    · have := key a ha 0
      rw [← anyAg_congr fun x => kn_zero (order := pvars p) (t := t) x] at this
      exact this
    · have hi := List.mem_range.mp hi
      rw [Bool.and_eq_true]
      refine ⟨?_, List.all_eq_true.mpr fun a ha => ?_⟩
      · have hio : i < (pvars p).length := by omega
        have hvm : (pvars p).getD i "" ∈ pvars p := List.mem_of_getElem? (getD_at ("" : Str) hio)
        obtain ⟨a, ha, hv⟩ := mem_pvars.mp hvm
        obtain ⟨tb, t1, _, _⟩ := ok.tab a ha
        have hm := of_decide_eq_true (h a ha)
        unfold rowsIn at hm
        rw [t1] at hm
        refine List.any_eq_true.mpr ⟨tb, (findT_mem t1).1, List.any_eq_true.mpr ⟨_, hm, List.contains_iff_mem.mpr ?_⟩⟩
        unfold atmT
        exact List.mem_map.mpr ⟨_, hv, by rw [idx_self (nodup_pvars p) hio]⟩
      · unfold goodA
        rw [anyAg_congr fun x => kn_take x, key a ha, Bool.or_true]
theorem plev_joined {c : Cat} {p : Pat} (ok : PatOk c p) : plev c p (pvars p).length = joinedL c p := by
  rw [plev_is, joined_is ok]
  exact List.filter_congr fun t ht => stepP_fits ok (mem_tups.mp ht).len
theorem plev_dig {c : Cat} {p : Pat} {k : Nat} : ∀ r ∈ plev c p k, GRow k r := fun r hr => by
  rw [plev_is] at hr
  exact mem_tups.mp (List.mem_filter.mp hr).1
theorem plev_len {c : Cat} {p : Pat} {k : Nat} (hk : k ≤ 3) : (plev c p k).length ≤ 27 := by
  rw [plev_is]
  refine Nat.le_trans (List.length_filter_le _ _) ?_
  rw [tups_len]
  exact Nat.pow_le_pow_right (n := 3) (j := 3) (by decide) hk
end J
/-! The law's partials, walked. -/
namespace J
open PySem PySem.Spec PyProof.Rows L2
theorem rowsIn_of {c : Cat} {x : Str} {t : Tab} (h : findT c x = some t) : rowsIn c x = t.rows := by unfold rowsIn; rw [h]
/-- what holds of the values so far -/
structure ValsOk (S : Int → Prop) (vs : List Int) : Prop where
  len : vs.length ≤ 4 * cnt3 vs
  dig : ∀ n ∈ vs, dig3 n
  mem : ∀ x, x ∈ vs ↔ S x
theorem ValsOk.add {S S' : Int → Prop} {vs : List Int} {row : Row} {k : Nat} (h : ValsOk S vs) (g : GRow k row) (hk : k ≤ 4) (e : ∀ x, S' x ↔ S x ∨ x ∈ row) : ValsOk S' (addV vs row) where
  len := addV_len h.len (by rw [g.len]; exact hk) g.val
  dig := fun n hn => (mem_addV.mp hn).elim (h.dig n) (g.val n)
  mem := fun x => by rw [mem_addV, h.mem, e]
theorem ValsOk.congr {S S' : Int → Prop} {vs : List Int} (h : ValsOk S vs) (e : ∀ x, S' x ↔ S x) : ValsOk S' vs := ⟨h.len, h.dig, fun x => by rw [h.mem, e]⟩
theorem ValsOk.few {S : Int → Prop} {vs : List Int} (h : ValsOk S vs) : vs.length ≤ 12 := by
  have h1 := h.len
  have h2 := cnt3_le vs
  omega
theorem take_ex {α : Type} {xs : List α} {i : Nat} {a : α} (h : xs[i]? = some a) (P : α → Prop) : (∃ t ∈ xs.take (i + 1), P t) ↔ (∃ t ∈ xs.take i, P t) ∨ P a := by
  rw [List.take_add_one, h, Option.toList_some]
  constructor
  · rintro ⟨t, ht, hp⟩
    rcases List.mem_append.mp ht with h | h
    · exact .inl ⟨t, h, hp⟩
    · rw [List.mem_singleton.mp h] at hp; exact .inr hp
  · rintro (⟨t, ht, hp⟩ | hp)
    · exact ⟨t, List.mem_append_left _ ht, hp⟩
    · exact ⟨a, List.mem_append_right _ List.mem_cons_self, hp⟩
section
variable {P : Program} {w : World} {K : PySem.W.Frag} {mg : Str → Option Value} {base : Heap}
def MListOf (H0 : Hp) (ds : List PyData) : V → Hp → Prop := fun v H => ∃ (l : Addr) (xs : List V), v = .ref l ∧ H0 l = none ∧ H l = some (.lst xs) ∧ RepL H ds xs
theorem mono_ml {H0 : Hp} {ds : List PyData} : Mono (MListOf H0 ds) := fun _ _ _ s ⟨l, xs, e, h0, h1, h2⟩ => ⟨l, xs, e, h0, s _ _ h1, h2.mono (.of s)⟩
theorem LE.ml {X : Cx} {e : Expr} {σ : L2.St} {H : Hp} {ds : List PyData} (h : LE X e σ H ds) : EE X e σ H (MListOf H ds) := h.en
def partS (K : PySem.W.Frag) : Sp := fun vs H Q _ => ∃ (vc vp vo : V) (m : Nat) (c : Cat) (p : Pat), vs = [vc, vp, vo] ∧ Rep H (eCat c) vc ∧ Rep H (ePat p) vp ∧ Rep H (eStrs (pvars p)) vo ∧ GCat m c ∧ m ≤ 60 ∧ GPat c p ∧
  ∀ (L la : Addr) (pre xs : List V) H', Same H H' → H' L = some (.lst (pre ++ [.ref la])) → H' la = some (.lst xs) → RepL H' ((joinedL c p).map eRow) xs → Q (.ref L) H'
/-- any row agrees -/
theorem de_anyAg {X : Cx} {σ : L2.St} {H : Hp} {elt iter : Expr} {scope : Scope} {p lp tp : Pos} {x : Str} (N : List Str) (sc : Scope) (j : Nat) (c : Cat) (a : Atm) (t : Tab) (kn : Kn) (hc : X.calm = true) (hN : X.N.Nodup) (hm : X.mg "any" = none) (hf : findT c a.tab = some t) (hz : t.rows.length < 100000)
    (hit : UE X iter σ H (t.rows.map eRow)) (hb : ∀ row v H2, row ∈ t.rows → Same H H2 → Rep H2 (eRow row) v → Blk X scope fun Y => DE Y elt (σ.set j (some v)) H2 (.bool (agB a.vars row kn)))
    (ok : blkC N sc scope [(x, j)] = true := by decide +kernel) (h1 : X.N = N := by rfl) (h2 : X.env.scope = sc := by rfl) (hi : X.N[j]? = some x := by rfl) (hl : scope.names.lookup x = some .local := by rfl) (hs : ∀ x, foldedSetIterable iter X.env x = pure x := by intro _; rfl)
    (hg : Gl X "any" := by rfl) (hst : starEach [.ListComp elt [⟨.Name x tp, iter, [], 0⟩] scope lp] X.env = (false, eval (.ListComp elt [⟨.Name x tp, iter, [], 0⟩] scope lp) X.env) :: starEach [] X.env := by rfl) :
    DE X (.Call (.Name "any" p) [.ListComp elt [⟨.Name x tp, iter, [], 0⟩] scope lp] [] pos) σ H (.bool (anyAg c a kn)) :=
  DE.is (de_any (bs := t.rows.map fun row => agB a.vars row kn) hc hm (LE.lv (LE.is (le_mU N sc j t.rows eRow (fun row => .bool (agB a.vars row kn)) hc hN hit hz hb ok h1 h2 hi hl hs) map_bl)) hg hst) (by
    unfold anyAg
    rw [rowsIn_of hf, List.any_map]
    rfl)
theorem ok_l_partials (T : Tx K mg) : OkF P w K mg base (L2.CX P w) 3 (He.fAd K ("_law_partials", none)) ["_law_catalogue_here", "_law_pattern_here", "_law_order"] (partS K) := by
  refine mk_l_partials T (fun vs H Q E ⟨_, _, _, _, _, _, e, _⟩ => by subst e; rfl) (fun cdv A outer s H vs Q E hr ⟨vc, vp, vo, m, c, p, e, rc, rp, ro, hg, hm60, hp, q⟩ => ?_)
  subst e
  have hu := hu_of hr
  have hfew := hg.few
  have hvl := hp.vlen
  have hal := hp.few
  refine wss_cons (ws_set 3 sc_l_partials.nd (LE.go (le_lst aa_nil (by decide)) (Same.refl H) fun l0 ys H1 s1 hn0 hl0 rl1 => ?_))
  obtain rfl : ys = [] := rl1
  -- the values
  refine wss_cons (ws_nx (fun σ' H' => ∃ (o4 o5 : Option V) (l : Addr) (ws : List V) (vals : List Int), σ' = [some vc, some vp, some vo, some (.ref l), o4, o5, none, none, none, none, none, none, none, none, none, none] ∧ Same H1 H' ∧ H' l = some (.lst ws) ∧ RepL H' (vals.map .int) ws ∧ ValsOk (fun x => ∃ t ∈ c, ∃ r ∈ t.rows, x ∈ r) vals)
    (ws_forU (ds := c.map eTab) (passes_of rfl) rfl (DE.ue (de_var 0 (rc.mono (.of s1)))) (pg_name (i := 4) sc_l_partials.nd rfl (.inl rfl))
      (fun H2 i σ' H' => ∃ (o4 o5 : Option V) (l : Addr) (ws : List V) (vals : List Int), σ' = [some vc, some vp, some vo, some (.ref l), o4, o5, none, none, none, none, none, none, none, none, none, none] ∧ Same H2 H' ∧ H' l = some (.lst ws) ∧ RepL H' (vals.map .int) ws ∧ ValsOk (fun x => ∃ t ∈ c.take i, ∃ r ∈ t.rows, x ∈ r) vals)
      (fun H2 s2 => ⟨none, none, l0, [], [], rfl, .refl _, s2 _ _ hl0, rfl, ⟨Nat.zero_le _, nofun, fun x => by simp⟩⟩) (fun H2 i σ' H' ⟨_, _, _, _, _, _, s2, _⟩ => .of s2) ?_ ?_) ?_)
  · rintro H2 i d v σ' H' s2 hd rd ⟨o4, o5, l, ws, vals, eσ, s3, h1, h2, h3⟩
    subst eσ
    obtain ⟨t, ht, e⟩ := map_at hd
    subst e
    have gt := hg.tab t (List.mem_of_getElem? ht)
    refine wss_one (ws_forU (ds := t.rows.map eRow) (passes_of rfl) rfl (DE.ue (de_ix (d := eRows t.rows) (DE.ue (de_var 4 rd)) de_int rfl)) (pg_name (i := 5) sc_l_partials.nd rfl (.inl rfl))
      (fun H3 j σ' H' => ∃ (o5 : Option V) (l : Addr) (ws : List V) (vals : List Int), σ' = [some vc, some vp, some vo, some (.ref l), some v, o5, none, none, none, none, none, none, none, none, none, none] ∧ Same H3 H' ∧ H' l = some (.lst ws) ∧ RepL H' (vals.map .int) ws ∧ ValsOk (fun x => (∃ t ∈ c.take i, ∃ r ∈ t.rows, x ∈ r) ∨ ∃ r ∈ t.rows.take j, x ∈ r) vals)
      (fun H3 s4 => ⟨o5, l, ws, vals, rfl, .refl _, s4 _ _ h1, h2.mono (.of s4), h3.congr fun x => by simp⟩) (fun H3 i σ' H' ⟨_, _, _, _, _, s2, _⟩ => .of s2) ?_ ?_)
    · rintro H3 j d2 u σ' H4 s4 hd2 rd2 ⟨o5, l, ws, vals, eσ, s5, h1, h2, h3⟩
      subst eσ
      obtain ⟨row, hrow, e⟩ := map_at hd2
      subst e
      have gr := gt.row row (List.mem_of_getElem? hrow)
      have hhi := gt.hi
      have hv12 := h3.few
      refine wss_one (ws_set 3 sc_l_partials.nd (LE.go (le_catV (ve_var 3) h1 h2 (le_cU n_l_partials (defScope s_l_partials) 12 row .int (fun n => !vals.contains n) .int rfl sc_l_partials.nd (DE.ue (de_var (d := eRow row) 5 rd2)) (by rw [gr.len]; omega) fun y v2 H5 hy s6 r6 => ?_) ?_) (Same.refl H4) fun l5 ws5 H5 s6 n6 h6 r6 => ?_))
      · intro s7 H7 C cl fp
        exact ⟨bt_cmp (ce_nini (de_var 12 r6) (LV.qe (ve_lv (ve_var 3) (SqL.of (s6 _ _ h1)) (h2.mono (.of s6))))), fun _ => de_var 12 r6⟩
      · rw [List.length_map, List.length_map]
        have := List.length_filter_le (fun n => !vals.contains n) row
        rw [gr.len] at this
        omega
      · refine ⟨_, l5, ws5, addV vals row, rfl, s5.trans s6, h6, by unfold addV; rw [List.map_append]; exact r6, h3.add gr hhi fun x => ?_⟩
        rw [take_ex hrow, or_assoc]
    · rintro H3 σ' H4 s4 ⟨o5, l, ws, vals, eσ, s5, h1, h2, h3⟩
      subst eσ
      rw [List.length_map, List.take_length] at h3
      exact ⟨_, _, l, ws, vals, rfl, (s3.trans s4).trans s5, h1, h2, h3.congr fun x => take_ex ht _⟩
  · rintro H2 σ' H' s2 ⟨o4, o5, l, ws, vals, eσ, s3, h1, h2, h3⟩
    subst eσ
    rw [List.length_map, List.take_length] at h3
    exact ⟨_, _, l, ws, vals, rfl, s2.trans s3, h1, h2, h3⟩
  rintro σ2 H2 ⟨o4, o5, l, ws, vals, eσ, s2, h1, h2, h3⟩
  subst eσ
  have hv12 := h3.few
  have hval : (only3 fun k => decide (k ∈ vals)) = only3 (inVals c) := by
    unfold only3
    refine List.filter_congr fun x _ => ?_
    rw [Bool.eq_iff_iff, decide_eq_true_eq, h3.mem]
    unfold inVals
    simp only [List.any_eq_true, List.contains_iff_mem]
  refine wss_cons (ws_set 3 sc_l_partials.nd (LE.go (LE.is (le_seti rfl T.b_sorted T.b_set (ve_lv (ds := vals.map .int) (ve_var 3) (SqL.of h1) h2) (by omega) h3.dig) (by rw [hval])) (Same.refl H2) fun lv wv H3 s3 nv hlv rv => ?_))
  -- the first level
  refine wss_cons (ws_set 6 sc_l_partials.nd (we_of (pe_lst pa_we) ((aa_one (LE.ml (le_lst aa_nil (by decide)))).go (Same.refl H3) fun vs H4 s4 ⟨v0, e0, la0, xs0, e1, _, hla0, rl0⟩ => ?_)))
  subst e0 e1
  refine ⟨szl (by show 1 ≤ 100000; decide), fun L hL => ?_⟩
  have sL : Same H (L2.upd H4 L (.lst [.ref la0])) := (((s1.trans s2).trans s3).trans s4).trans (.new hL)
  have hLn : H L = none := (((s1.trans s2).trans s3).trans s4).free hL
  have hL5 : (L2.upd H4 L (.lst [.ref la0])) L = some (.lst [.ref la0]) := upd_same
  have hlv5 : (L2.upd H4 L (.lst [.ref la0])) lv = some (.lst wv) := (s4.trans (.new hL)) _ _ hlv
  have rv5 : RepL (L2.upd H4 L (.lst [.ref la0])) ((only3 (inVals c)).map .int) wv := rv.mono (.of (s4.trans (.new hL)))
  generalize L2.upd H4 L (.lst [.ref la0]) = H5 at *
  have hLlv : lv ≠ L := fun e => by
    have := s4 _ _ hlv
    rw [e, hL] at this; cases this
  refine wss_cons (ws_lset (k := 0) mono_ml (LE.ml (le_lst (ds := [eRow []]) (aa_cons (de_tup aa_nil rfl (by decide)) aa_nil) (by decide))) (ve_var 6) hL5 (de_int (i := 0)) (by show 0 < 1; decide) fun v6 H6 s6 ⟨la, xs, ea, nla, hla, ra⟩ => ?_)
  subst ea
  have hLla : la ≠ L := fun e => by rw [e, hL5] at nla; cases nla
  have bB : SameB [L] H5 (L2.upd H6 L (.lst ([V.ref la0].set 0 (.ref la)))) := (SameB.of s6).trans (.upd (by simp))
  have hLB : (L2.upd H6 L (.lst ([V.ref la0].set 0 (.ref la)))) L = some (.lst [.ref la]) := upd_same
  have hlaB : (L2.upd H6 L (.lst ([V.ref la0].set 0 (.ref la)))) la = some (.lst xs) := by rw [upd_ne hLla]; exact hla
  have kB : Kp H6 (L2.upd H6 L (.lst ([V.ref la0].set 0 (.ref la)))) := .upd (s6 _ _ hL5) rfl
  have raB := ra.mono kB
  have kpB := kp1 bB hL5 rfl
  have hlvB := bB _ _ hlv5 fun hm => hLlv (List.mem_singleton.mp hm)
  have rvB := rv5.mono kpB
  have rcB := (rc.mono (.of sL)).mono kpB
  have rpB := (rp.mono (.of sL)).mono kpB
  have roB := (ro.mono (.of sL)).mono kpB
  have sB : Same H (L2.upd H6 L (.lst ([V.ref la0].set 0 (.ref la)))) := same_out sL bB fun a ha => by rw [List.mem_singleton.mp ha]; exact hLn
  generalize L2.upd H6 L (.lst ([V.ref la0].set 0 (.ref la))) = HB at *
  refine wss_cons (ws_nx (fun σ' H' => ∃ (o7 o8 : Option V) (la : Addr) (xs : List V), σ' = [some vc, some vp, some vo, some (.ref lv), o4, o5, some (.ref L), o7, o8, none, none, none, none, none, none, none] ∧ SameB [L] HB H' ∧ la ≠ L ∧ H' L = some (.lst [.ref la]) ∧ H' la = some (.lst xs) ∧ RepL H' ((plev c p 0).map eRow) xs)
    (ws_forU (ds := p.atoms.map eAtm) (passes_of rfl) rfl (DE.ue (de_ix (d := eAtms p.atoms) (DE.ue (de_var 1 rpB)) de_int rfl)) (Names2 7 8 rfl sc_l_partials.nd rfl rfl ⟨.inl rfl, .inl rfl⟩ ⟨.inr rfl, .inl rfl⟩)
      (fun H7 i σ' H' => ∃ (o7 o8 : Option V) (la : Addr) (xs : List V), σ' = [some vc, some vp, some vo, some (.ref lv), o4, o5, some (.ref L), o7, o8, none, none, none, none, none, none, none] ∧ Same HB H7 ∧ SameB [L] H7 H' ∧ la ≠ L ∧ H' L = some (.lst [.ref la]) ∧ H' la = some (.lst xs) ∧ RepL H' ((if (p.atoms.take i).all (fun a => anyAg c a fun _ => none) = true then [[]] else []).map eRow) xs)
      (fun H7 s7 => ⟨none, none, la, xs, rfl, s7, .refl _ _, hLla, s7 _ _ hLB, s7 _ _ hlaB, by rw [List.take_zero]; exact raB.mono (.of s7)⟩) (fun H7 i σ' H' ⟨_, _, _, _, _, s7, b, _⟩ => kp1 b (s7 _ _ hLB) rfl) ?_ ?_) ?_)
  · rintro H7 i d u σ' H8 _ hd rd ⟨o7, o8, la, xs, eσ, s7, b8, hne, h8, h9, r9⟩
    subst eσ
    obtain ⟨a, ha, e⟩ := map_at hd
    subst e
    have ham := List.mem_of_getElem? ha
    obtain ⟨t, hft, htc⟩ := hp.fit a ham
    have gt := hg.tab t (findT_mem hft).1
    have hgtf := gt.few
    have kp8 : Kp HB H8 := (Kp.of s7).trans (kp1 b8 (s7 _ _ hLB) rfl)
    have rc8 := rcB.mono kp8
    refine takes_tup2 (R := fun σ2 => WSs _ _ _ σ2 H8) rd (fun x y rx ry => ?_) _ fun _ z => z
    refine wss_one (ws_if (BT.go (bt_not (bt_val (de_anyAg n_l_partials (defScope s_l_partials) 5 c a t (fun _ => none) rfl sc_l_partials.nd T.b_any hft (by omega) (DE.ue (de_ix (d := eRows t.rows) (DE.ue (de_call (ok_l_table T |>.mono (by decide)) hr T.gl_table passL (aa_cons (de_var 0 rc8) (aa_cons (de_var 7 rx) aa_nil)) ⟨c, a.tab, t, by omega, hft, rfl, rfl⟩)) de_int rfl)) fun row v10 H10 hrow s10 r10 => ?_))) (Same.refl H8) fun H9 s9 => ?_))
    · intro s11 H11 C cl fp
      refine ee_call (ok_l_agrees T |>.mono (by decide)) hr T.gl_agrees passL (aav_cons mono_rep (de_var 8 (ry.mono (.of s10))) (aav_cons mono_rep (de_var 5 r10) (aa_one (P := fun v H => ∃ a, v = V.ref a ∧ H a = some (.dK [])) fun H12 s12 => we_newK fun q hq => ⟨.new hq, q, rfl, upd_same⟩))) fun vs H12 Q2 s12 ⟨w1, q1, e1, z1, w2, q2, e2, z2, w3, e3, ka, e4, hk⟩ hQ => ?_
      subst e1 e2 e3 e4
      exact ⟨w1, w2, ka, a.vars, row, [], fun _ => none, rfl, z1, z2, hk, KnD.nil, by rw [(gt.row row hrow).len, htc], hp.hi a ham, fun H13 s13 => hQ _ _ s13 rfl⟩
    · have h98 := s9 _ _ h8
      have h99 := s9 _ _ h9
      have etk : (p.atoms.take (i + 1)).all (fun a => anyAg c a fun _ => none) = ((p.atoms.take i).all (fun a => anyAg c a fun _ => none) && anyAg c a fun _ => none) := by
        rw [List.take_add_one, ha, Option.toList_some, List.all_append]
        simp
      cases hg9 : anyAg c a fun _ => none with
      | true =>
        rw [if_neg (by decide)]
        refine wss_nil ⟨_, _, la, xs, rfl, s7, b8.trans (.of s9), hne, h98, h99, ?_⟩
        rw [etk, hg9, Bool.and_true]
        exact r9.mono (.of s9)
      | false =>
        rw [if_pos (by decide)]
        refine wss_one (ws_lset (k := 0) mono_ml (LE.ml (le_lst (ds := []) aa_nil (by decide))) (ve_var 6) h98 (de_int (i := 0)) (by show 0 < 1; decide) fun v11 H11 s11 ⟨lb, xb, eb, nlb, hlb, rb⟩ => ?_)
        subst eb
        have hbL : lb ≠ L := fun e => by rw [e, h98] at nlb; cases nlb
        refine ⟨_, _, lb, xb, rfl, s7, (b8.trans (.of (s9.trans s11))).trans (.upd (by simp)), hbL, upd_same, by rw [upd_ne hbL]; exact hlb, ?_⟩
        rw [etk, hg9, Bool.and_false, if_neg (by decide)]
        exact rb.mono (.upd (s11 _ _ h98) rfl)
  · rintro H7 σ' H8 s78 ⟨o7, o8, la, xs, eσ, s7, b8, hne, h8, h9, r9⟩
    subst eσ
    rw [List.length_map, List.take_length] at r9
    exact ⟨_, _, la, xs, rfl, (SameB.of s7).trans b8, hne, h8, h9, r9⟩
  rintro σ7 HC ⟨o7, o8, la, xs, eσ, bC, hne, hLC, hlaC, raC⟩
  subst eσ
  have kpC : Kp HB HC := kp1 bC hLB rfl
  have sC : Same H HC := same_out sB bC fun a ha => by rw [List.mem_singleton.mp ha]; exact hLn
  have rcC := rcB.mono kpC
  have rpC := rpB.mono kpC
  have roC := roB.mono kpC
  have rvC := rvB.mono kpC
  have hlvC := bC _ _ hlvB fun hm => hLlv (List.mem_singleton.mp hm)
  have hv3 : (only3 (inVals c)).length ≤ 3 := only3_len _
  have hnd := nodup_pvars p
  refine wss_cons (ws_forX (passes_of rfl) rfl T.b_range ((de_len T.b_len (DE.qe (de_var 2 roC))).go (Same.refl HC) fun v8 HD sD eD => ⟨(pvars p).length, by rw [(show v8 = _ from eD), List.length_map], by omega, fun i σ' H' => ∃ (o7 o8 o9 o10 o11 o12 o13 o14 o15 : Option V) (pre : List V) (la : Addr) (xs : List V), σ' = [some vc, some vp, some vo, some (.ref lv), o4, o5, some (.ref L), o7, o8, o9, o10, o11, o12, o13, o14, o15] ∧ SameB [L] HC H' ∧ la ≠ L ∧ H' L = some (.lst (pre ++ [.ref la])) ∧ pre.length = i ∧ H' la = some (.lst xs) ∧ RepL H' ((plev c p i).map eRow) xs, ?_, ?_, ?_⟩) (pg_name (i := 9) sc_l_partials.nd rfl (.inl rfl)))
  · exact ⟨o7, o8, none, none, none, none, none, none, none, [], la, xs, rfl, .of sD, hne, sD _ _ hLC, rfl, sD _ _ hlaC, raC.mono (.of sD)⟩
  · rintro i σ' H' hi ⟨o7, o8, o9, o10, o11, o12, o13, o14, o15, pre, la, xs, eσ, b, hne, hL', hpre, hla', ra'⟩
    subst eσ
    have kp' : Kp HC H' := kp1 b hLC rfl
    have hlv' := b _ _ hlvC fun hm => hLlv (List.mem_singleton.mp hm)
    refine wss_cons (ws_set 10 sc_l_partials.nd (LE.go (le_lst aa_nil (by decide)) (Same.refl H') fun lo ys H6 s6 nlo hlo rl6 => ?_))
    obtain rfl : ys = [] := rl6
    have hloL : lo ≠ L := fun e => by rw [e, hL'] at nlo; cases nlo
    have hlola : lo ≠ la := fun e => by rw [e, hla'] at nlo; cases nlo
    have hlolv : lo ≠ lv := fun e => by rw [e, hlv'] at nlo; cases nlo
    have hL6 := s6 _ _ hL'
    have hla6 := s6 _ _ hla'
    have hlv6 := s6 _ _ hlv'
    have ra6 := ra'.mono (.of s6)
    have kp6 := kp'.trans (.of s6)
    have rc6 := rcC.mono kp6
    have rp6 := rpC.mono kp6
    have ro6 := roC.mono kp6
    have rv6 := rvC.mono kp6
    have hpl27 : (plev c p i).length ≤ 27 := plev_len (by omega)
    have hF3 : ∀ pr : Row, ((only3 (inVals c)).filter fun n => goodB c p (pr ++ [n]) i).length ≤ 3 := fun pr => Nat.le_trans (List.length_filter_le _ _) hv3
    refine wss_cons (ws_forL (ds := (plev c p i).map eRow) (l := la) (vs := xs) (passes_of rfl) rfl (ve_ixl (ve_var 6) (SqL.of hL6) (de_var (d := .int (i : Int)) 9 rfl) (atI_n (by rw [List.getElem?_append_right (by omega), hpre, Nat.sub_self]; rfl))) (SqL.of hla6) ra6 (pg_name (i := 11) sc_l_partials.nd rfl (.inl rfl))
      (fun i2 σ' H' => ∃ (o7 o8 o11 o12 o13 o14 o15 : Option V) (ws : List V), σ' = [some vc, some vp, some vo, some (.ref lv), o4, o5, some (.ref L), o7, o8, some (.int (i : Int)), some (.ref lo), o11, o12, o13, o14, o15] ∧ SameB [lo] H6 H' ∧ H' lo = some (.lst ws) ∧ ws.length ≤ 3 * i2 ∧ RepL H' ((((plev c p i).take i2).flatMap fun pr => ((only3 (inVals c)).filter fun n => goodB c p (pr ++ [n]) i).map fun n => pr ++ [n]).map eRow) ws)
      (fun H7 s7 => ⟨_, _, _, _, _, _, _, [], rfl, .of s7, s7 _ _ hlo, Nat.le_refl _, rfl⟩) (fun i2 σ' H7 ⟨_, _, _, _, _, _, _, ws, _, b7, _⟩ => ⟨kp1 b7 hlo rfl, SqL.of (b7 _ _ hla6 fun hm => hlola (List.mem_singleton.mp hm).symm)⟩) ?_ ?_)
    · rintro i2 d v σ' H8 hd rd ⟨o7, o8, o11, o12, o13, o14, o15, ws, eσ, b8, h8, hl8, r8⟩
      subst eσ
      obtain ⟨pr, hpr, e⟩ := map_at hd
      subst e
      have gpr := plev_dig pr (List.mem_of_getElem? hpr)
      have hprl := gpr.len
      have hi2 : i2 < 27 := Nat.lt_of_lt_of_le (List.getElem?_eq_some_iff.mp hpr).1 hpl27
      have kp8 : Kp H6 H8 := kp1 b8 hlo rfl
      have hlv8 := b8 _ _ hlv6 fun hm => hlolv (List.mem_singleton.mp hm).symm
      have hbase : ((((plev c p i).take i2).flatMap fun pr => ((only3 (inVals c)).filter fun n => goodB c p (pr ++ [n]) i).map fun n => pr ++ [n])) = (((plev c p i).take i2).flatMap fun pr => ((only3 (inVals c)).filter fun n => goodB c p (pr ++ [n]) i).map fun n => pr ++ [n]) := rfl
      generalize hBs : (((plev c p i).take i2).flatMap fun pr => ((only3 (inVals c)).filter fun n => goodB c p (pr ++ [n]) i).map fun n => pr ++ [n]) = Bs at r8 hbase
      refine wss_one (ws_forL (ds := (only3 (inVals c)).map .int) (l := lv) (vs := wv) (passes_of rfl) rfl (ve_var 3) (SqL.of hlv8) (rv6.mono kp8) (pg_name (i := 12) sc_l_partials.nd rfl (.inl rfl))
        (fun i3 σ' H' => ∃ (o7 o8 o12 o13 o14 o15 : Option V) (ws : List V), σ' = [some vc, some vp, some vo, some (.ref lv), o4, o5, some (.ref L), o7, o8, some (.int (i : Int)), some (.ref lo), some v, o12, o13, o14, o15] ∧ SameB [lo] H8 H' ∧ H' lo = some (.lst ws) ∧ ws.length ≤ 3 * i2 + i3 ∧ RepL H' ((Bs ++ (((only3 (inVals c)).take i3).filter fun n => goodB c p (pr ++ [n]) i).map fun n => pr ++ [n]).map eRow) ws)
        (fun H9 s9 => ⟨_, _, _, _, _, _, ws, rfl, .of s9, s9 _ _ h8, by omega, by rw [List.take_zero]; simpa using r8.mono (.of s9)⟩) (fun i3 σ' H9 ⟨_, _, _, _, _, _, ws, _, b9, _⟩ => ⟨kp1 b9 h8 rfl, SqL.of (b9 _ _ hlv8 fun hm => hlolv (List.mem_singleton.mp hm).symm)⟩) ?_ ?_)
      · rintro i3 d3 u σ' H9 hd3 rd3 ⟨o7, o8, o12, o13, o14, o15, ws, eσ, b9, h9, hl9, r9⟩
        subst eσ
        obtain ⟨n, hn, e⟩ := map_at hd3
        subst e
        cases (show u = _ from rd3)
        have hi3 : i3 < 3 := Nat.lt_of_lt_of_le (List.getElem?_eq_some_iff.mp hn).1 hv3
        have kp9 : Kp H6 H9 := kp8.trans (kp1 b9 h8 rfl)
        have rpr9 : Rep H9 (eRow pr) v := rd.mono (kp1 b9 h8 rfl)
        have hgetn : (pr ++ [n]).getD i 0 = n := by
          rw [List.getD_eq_getElem?_getD, List.getElem?_append_right (by omega), hprl, Nat.sub_self]; rfl
        generalize htq : pr ++ [n] = tq at *
        have htl : tq.length = i + 1 := by rw [← htq, List.length_append, hprl]; rfl
        refine wss_cons (ws_set 13 sc_l_partials.nd (we_newK fun kd hkd => ?_))
        have s10 : Same H9 (L2.upd H9 kd (.dK [])) := .new hkd
        have h10 : (L2.upd H9 kd (.dK [])) kd = some (.dK []) := upd_same
        have hkdlo : kd ≠ lo := fun e => by rw [e, h9] at hkd; cases hkd
        generalize L2.upd H9 kd (.dK []) = H10 at *
        have ro10 := (ro6.mono kp9).mono (.of s10)
        have rpr10 := rpr9.mono (.of s10)
        refine wss_cons (ws_forX (passes_of rfl) rfl T.b_range ((de_var (d := .int (i : Int)) 9 rfl).go (Same.refl H10) fun v11 H11 s11 e11 => ⟨i, e11, by omega, fun j σ' H' => ∃ (o14 : Option V) (kvs : List (Key × V)), σ' = [some vc, some vp, some vo, some (.ref lv), o4, o5, some (.ref L), o7, o8, some (.int (i : Int)), some (.ref lo), some v, some (.int n), some (.ref kd), o14, o15] ∧ SameB [kd] H10 H' ∧ H' kd = some (.dK kvs) ∧ kvs.length ≤ j ∧ KnD kvs (knOf (pvars p) tq j), ?_, ?_, ?_⟩) (pg_name (i := 14) sc_l_partials.nd rfl (.inl rfl)))
        · exact ⟨_, [], rfl, .of s11, s11 _ _ h10, Nat.le_refl _, KnD.nil.congr fun x => kn_zero x⟩
        · rintro j σ' H12 hj ⟨o14, kvs, eσ, b12, h12, hk12, hn12⟩
          subst eσ
          have kp12 : Kp H10 H12 := kp1 b12 h10 rfl
          have ro12 := ro10.mono kp12
          have rpr12 := rpr10.mono kp12
          have hjo : j < (pvars p).length := by omega
          refine wss_one (ws_dputK (k := .inr ((pvars p).getD j "")) hu mono_rep (de_ix (d := .int (tq.getD j 0)) (DE.ue (de_var (d := eRow pr) 11 rpr12)) (de_var (d := .int (j : Int)) 14 rfl) (atI_n (by rw [List.getElem?_map, ← htq, getD_app (by omega), getD_at (0 : Int) (by omega)]; rfl))) (ve_var 13) h12 (ve_str (de_ix (DE.ue (de_var 2 ro12)) (de_var (d := .int (j : Int)) 14 rfl) (atI_n (by rw [List.getElem?_map, getD_at ("" : Str) hjo]; rfl)))) (by omega) fun v13 H13 s13 e13 => ?_)
          cases (show v13 = _ from e13)
          refine ⟨_, _, rfl, (b12.trans (.of s13)).trans (.upd (by simp)), upd_same, ?_, (hn12.put _ _).congr fun x => kn_step hnd hjo x⟩
          have := putK_few kvs (Sum.inr ((pvars p).getD j "")) (V.int (tq.getD j 0))
          omega
        · rintro σ' H12 ⟨o14, kvs, eσ, b12, h12, hk12, hn12⟩
          subst eσ
          have kp12 : Kp H10 H12 := kp1 b12 h10 rfl
          have ro12 := ro10.mono kp12
          refine wss_cons (ws_dputK (k := .inr ((pvars p).getD i "")) hu mono_rep (de_var (d := .int n) 12 rfl) (ve_var 13) h12 (ve_str (de_ix (DE.ue (de_var 2 ro12)) (de_var (d := .int (i : Int)) 9 rfl) (atI_n (by rw [List.getElem?_map, getD_at ("" : Str) hi]; rfl)))) (by omega) fun v13 H13 s13 e13 => ?_)
          cases (show v13 = _ from e13)
          have b14 : SameB [kd] H10 (L2.upd H13 kd (.dK (putK kvs (.inr ((pvars p).getD i "")) (.int n)))) := (b12.trans (.of s13)).trans (.upd (by simp))
          have h14 : (L2.upd H13 kd (.dK (putK kvs (.inr ((pvars p).getD i "")) (.int n)))) kd = some (.dK (putK kvs (.inr ((pvars p).getD i "")) (.int n))) := upd_same
          have hn14 : KnD (putK kvs (.inr ((pvars p).getD i "")) (.int n)) (knOf (pvars p) tq (i + 1)) := (hn12.put _ _).congr fun x => by rw [← kn_step hnd hi x, hgetn]
          generalize putK kvs (.inr ((pvars p).getD i "")) (.int n) = kvs2 at *
          generalize L2.upd H13 kd (.dK kvs2) = H14 at *
          have kp14 : Kp H10 H14 := kp1 b14 h10 rfl
          have kpA : Kp H6 H14 := (kp9.trans (.of s10)).trans kp14
          have rc14 := rc6.mono kpA
          have rp14 := rp6.mono kpA
          have ro14 := ro6.mono kpA
          have rpr14 := rpr10.mono kp14
          have h914 : H14 lo = some (.lst ws) := b14 _ _ (s10 _ _ h9) fun hm => hkdlo (List.mem_singleton.mp hm).symm
          have r914 := (r9.mono (.of s10)).mono kp14
          have s914 : SameB [lo] H8 H14 := b9.out ((SameB.of s10).trans b14) fun a ha => .inr (by rw [List.mem_singleton.mp ha]; exact hkd)
          refine wss_cons (ws_de (d := .bool true) 15 sc_l_partials.nd de_bl fun v15 H15 s15 e15 => ?_)
          cases (show v15 = _ from e15)
          refine wss_cons (ws_forU (ds := p.atoms.map eAtm) (passes_of rfl) rfl (DE.ue (de_ix (d := eAtms p.atoms) (DE.ue (de_var 1 (rp14.mono (.of s15)))) de_int rfl)) (Names2 7 8 rfl sc_l_partials.nd rfl rfl ⟨.inl rfl, .inl rfl⟩ ⟨.inr rfl, .inl rfl⟩)
            (fun H16 i5 σ' H' => ∃ (o7 o8 : Option V), σ' = [some vc, some vp, some vo, some (.ref lv), o4, o5, some (.ref L), o7, o8, some (.int (i : Int)), some (.ref lo), some v, some (.int n), some (.ref kd), o14, some (.bl ((p.atoms.take i5).all (goodA c (pvars p) tq i)))] ∧ Same H15 H16 ∧ Same H16 H')
            (fun H16 s16 => ⟨_, _, rfl, s16, .refl _⟩) (fun H16 i5 σ' H' ⟨_, _, _, _, s⟩ => .of s) ?_ ?_)
          · rintro H16 i5 d5 u5 σ' H17 _ hd5 rd5 ⟨o7, o8, eσ, s16, s17⟩
            subst eσ
            obtain ⟨a, ha, e⟩ := map_at hd5
            subst e
            have ham := List.mem_of_getElem? ha
            obtain ⟨t, hft, htc⟩ := hp.fit a ham
            have gt := hg.tab t (findT_mem hft).1
            have hgtf := gt.few
            have sA := s15.trans (s16.trans s17)
            have rc17 := rc14.mono (.of sA)
            have ro17 := ro14.mono (.of sA)
            have h17 := sA _ _ h14
            refine takes_tup2 (R := fun σ2 => WSs _ _ _ σ2 H17) rd5 (fun x y rx ry => ?_) _ fun _ z => z
            have etk : (p.atoms.take (i5 + 1)).all (goodA c (pvars p) tq i) = ((p.atoms.take i5).all (goodA c (pvars p) tq i) && goodA c (pvars p) tq i a) := by
              rw [List.take_add_one, ha, Option.toList_some, List.all_append]
              simp
            generalize hgv : (p.atoms.take i5).all (goodA c (pvars p) tq i) = gv at *
            refine wss_one (ws_if (BT.go (bt_and (m := gv) (bt_cmp (ce_ins (x := (pvars p).getD i "") (ys := a.vars) (de_ix (DE.ue (de_var 2 ro17)) (de_var (d := .int (i : Int)) 9 rfl) (atI_n (by rw [List.getElem?_map, getD_at ("" : Str) hi]; rfl))) (DE.qe (de_var 8 ry)))) fun _ => bt_val (de_var (d := .bool gv) 15 rfl)) (Same.refl H17) fun H18 s18 => ?_))
            cases hb : a.vars.contains ((pvars p).getD i "") && gv with
            | true =>
              rw [if_pos rfl]
              obtain ⟨hb1, hb2⟩ := Bool.and_eq_true_iff.mp hb
              refine wss_one (ws_de (d := .bool (anyAg c a (knOf (pvars p) tq (i + 1)))) 15 sc_l_partials.nd (de_anyAg n_l_partials (defScope s_l_partials) 5 c a t (knOf (pvars p) tq (i + 1)) rfl sc_l_partials.nd T.b_any hft (by omega) (DE.ue (de_ix (d := eRows t.rows) (DE.ue (de_call (ok_l_table T |>.mono (by decide)) hr T.gl_table passL (aa_cons (de_var 0 (rc17.mono (.of s18))) (aa_cons (de_var 7 (rx.mono (.of s18))) aa_nil)) ⟨c, a.tab, t, by omega, hft, rfl, rfl⟩)) de_int rfl)) fun row v10 H19 hrow s19 r19 => ?_) fun v20 H20 s20 e20 => ?_)
              · intro s21 H21 C cl fp
                refine ee_call (ok_l_agrees T |>.mono (by decide)) hr T.gl_agrees passL (aav_cons mono_rep (de_var 8 (ry.mono (.of (s18.trans s19)))) (aav_cons mono_rep (de_var 5 r19) (aa_one (P := fun v _ => v = V.ref kd) (ve_var 13)))) fun vs H22 Q2 s22 ⟨w1, q1, e1, z1, w2, q2, e2, z2, w3, e3, e4⟩ hQ => ?_
                subst e1 e2 e3 e4
                exact ⟨w1, w2, kd, a.vars, row, kvs2, knOf (pvars p) tq (i + 1), rfl, z1, z2, (s18.trans (s19.trans s22)) _ _ h17, hn14, by rw [(gt.row row hrow).len, htc], hp.hi a ham, fun H23 s23 => hQ _ _ s23 rfl⟩
              · cases (show v20 = _ from e20)
                refine ⟨some x, some y, ?_, s16, s17.trans (s18.trans s20)⟩
                rw [etk, hb2, Bool.true_and]
                unfold goodA
                rw [hb1, Bool.not_true, Bool.false_or]
                rfl
            | false =>
              rw [if_neg (by decide)]
              refine wss_nil ⟨some x, some y, ?_, s16, s17.trans s18⟩
              have : (gv && goodA c (pvars p) tq i a) = gv := by
                unfold goodA
                rcases Bool.and_eq_false_iff.mp hb with h | h
                · rw [h, Bool.not_false, Bool.true_or, Bool.and_true]
                · rw [h, Bool.false_and]
              rw [etk, this]
              rfl
          · rintro H16 σ' H17 _ ⟨o7, o8, eσ, s16, s17⟩
            subst eσ
            rw [List.length_map, List.take_length]
            have sA := s15.trans (s16.trans s17)
            have h17 := sA _ _ h914
            have r17 := r914.mono (.of sA)
            have rpr17 := rpr14.mono (.of sA)
            have b17 : SameB [lo] H8 H17 := s914.trans (.of sA)
            have mk := made_snoc (only3 (inVals c)) (fun n => goodB c p (pr ++ [n]) i) (fun n => pr ++ [n]) i3 n hn
            refine wss_one (ws_if (BT.go (bt_val (de_var (d := .bool (p.atoms.all (goodA c (pvars p) tq i))) 15 rfl)) (Same.refl H17) fun H18 s18 => ?_))
            have hgb : goodB c p (pr ++ [n]) i = p.atoms.all (goodA c (pvars p) tq i) := by rw [htq]; rfl
            cases hga : p.atoms.all (goodA c (pvars p) tq i) with
            | true =>
              rw [if_pos rfl]
              refine wss_one (ws_app (ve_var 10) (s18 _ _ h17) (by omega) (DE.is (d2 := eRow tq) (de_addt (de_var (d := eRow pr) 11 (rpr17.mono (.of s18))) (de_tup (aa_cons (de_var (d := .int n) 12 rfl) aa_nil) rfl (by show 1 ≤ 100000; decide)) (szl (by rw [List.length_map, hprl]; show i + 1 ≤ 100000; omega)) fun _ _ => ?_) ?_) fun v19 H19 s19 r19 => ?_)
              · rw [show pr.map PyData.int ++ [PyData.int n] = (pr ++ [n]).map .int by rw [List.map_append]; rfl]
                exact vst_ints
              · rw [← htq]
                unfold eRow
                rw [List.map_append]; rfl
              · have ku : Kp H19 (L2.upd H19 lo (.lst (ws ++ [v19]))) := .upd (s19 _ _ (s18 _ _ h17)) rfl
                refine ⟨_, _, _, _, _, _, _, rfl, (b17.trans (.of (s18.trans s19))).trans (.upd (by simp)), upd_same, by rw [List.length_append]; show _ + 1 ≤ _; omega, ?_⟩
                rw [mk, hgb, hga, if_pos rfl, ← List.append_assoc, List.map_append, htq]
                exact (r17.mono ((Kp.of (s18.trans s19)).trans ku)).snoc (r19.mono ku)
            | false =>
              rw [if_neg (by decide)]
              refine wss_nil ⟨_, _, _, _, _, _, _, rfl, b17.trans (.of s18), s18 _ _ h17, by omega, ?_⟩
              rw [mk, hgb, hga, if_neg (by decide)]
              exact r17.mono (.of s18)
      · rintro σ' H9 ⟨o7, o8, o12, o13, o14, o15, ws2, eσ, b9, h9, hl9, r9⟩
        subst eσ
        rw [List.length_map] at hl9 r9
        rw [List.take_length] at r9
        refine ⟨_, _, _, _, _, _, _, ws2, rfl, b8.trans b9, h9, by omega, ?_⟩
        rw [List.take_add_one, hpr, Option.toList_some, List.flatMap_append, hBs, List.flatMap_cons, List.flatMap_nil, List.append_nil]
        exact r9
    · rintro σ' H9 ⟨o7, o8, o11, o12, o13, o14, o15, ws, eσ, b9, h9, hl9, r9⟩
      subst eσ
      rw [List.length_map, List.take_length] at r9
      have hL9 := b9 _ _ hL6 fun hm => hloL (List.mem_singleton.mp hm).symm
      have hprel : pre.length + 1 ≤ 10 := by omega
      refine wss_one (ws_app (P := fun v _ => v = V.ref lo) (ve_var 6) hL9 (by rw [List.length_append]; show _ + 1 < _; omega) (ve_var 10) fun v10 H10 s10 e10 => ?_)
      subst e10
      have ku : Kp H10 (L2.upd H10 L (.lst (pre ++ [.ref la] ++ [.ref lo]))) := .upd (s10 _ _ hL9) rfl
      refine ⟨_, _, _, _, _, _, _, _, _, pre ++ [.ref la], lo, ws, rfl, ?_, hloL, upd_same, by rw [List.length_append, hpre]; rfl, by rw [upd_ne hloL]; exact s10 _ _ h9, (r9.mono (.of s10)).mono ku⟩
      have bx : SameB [L] HC H9 := b.out ((SameB.of s6).trans b9) fun a ha => .inr (by rw [List.mem_singleton.mp ha]; exact nlo)
      exact (bx.trans (.of s10)).trans (.upd (by simp))
  · rintro σ' H' ⟨o7, o8, o9, o10, o11, o12, o13, o14, o15, pre, la, xs, eσ, b, hne, hL', hpre, hla', ra'⟩
    subst eσ
    have sE : Same H H' := same_out sC b fun a ha => by rw [List.mem_singleton.mp ha]; exact hLn
    rw [plev_joined (patOk_of hg (by omega) hp)] at ra'
    exact wss_one (ws_ret (EE.go (ve_var 6) (Same.refl H') fun v' H5 s5 e5 => by
      subst e5
      exact q L la pre xs H5 (sE.trans s5) (s5 _ _ hL') (s5 _ _ hla') (ra'.mono (.of s5))))
end
end J
/-! The law's named, assignments, answers. -/
namespace J
open PySem PySem.Spec PyProof.Rows L2
section
variable {X : Cx} {elt iter c tg : Expr} {ifs : List Expr} {body : List Stmt} {scope : Scope} {pos tp : Pos} {σ : L2.St} {H : Hp} {x : Str} {j : Nat} {α : Type} {g : TG} {D : Ends}
/-- [elt for x in (a list)], each item a new thing -/
theorem ee_mNL (Po : α → V → Hp → Prop) (N : List Str) (sc : Scope) (j : Nat) (as : List α) (enc : α → PyData) (hc : X.calm = true) (hN : X.N.Nodup) (hit : LV X iter σ H (as.map enc)) (hz : as.length < 100000)
    (hb : ∀ a v H2, a ∈ as → Same H H2 → Rep H2 (enc a) v → Blk X scope fun Y => EE Y elt (σ.set j (some v)) H2 (NewP H2 Po a))
    (ok : blkC N sc scope [(x, j)] = true := by decide +kernel) (h1 : X.N = N := by rfl) (h2 : X.env.scope = sc := by rfl) (hi : X.N[j]? = some x := by rfl) (hl : scope.names.lookup x = some .local := by rfl) (hs : ∀ x, foldedSetIterable iter X.env x = pure x := by intro _; rfl) :
    EE X (.ListComp elt [⟨.Name x tp, iter, [], 0⟩] scope pos) σ H fun v H2 => ∃ l ws, v = .ref l ∧ H l = none ∧ H2 l = some (.lst ws) ∧ AllP Po H2 as ws := fun H1 s =>
  we_of (pe_lc (own := [(x, j)]) hc hN (pi_list pe_we) (by subst h1 h2; exact blkOk_by ok) (pg_blk hN hi hl) (pts_blk (ifs := [])) pe_blk hs) (hit.go s fun v H2 s2 ⟨a, vs, e1, t, r⟩ => ⟨a, e1, ⟨vs, t⟩, fun D hD => by
    have hlen : vs.length = as.length := by rw [r.length, List.length_map]
    refine lc_list (xs := vs) (fun i H' => Same H2 H' ∧ ∃ acc, H' D = some (.lst acc) ∧ acc.length = (as.take i).length ∧ AllP (fun a v H => ∀ H'', (∀ b o, b ≠ D → H b = some o → H'' b = some o) → Po a v H'') H' (as.take i) acc) ⟨.new hD, [], upd_same, rfl, rfl⟩ (fun i H' _ c => c.1.seq t) (fun i x H' hx c => ?_) fun H' c => ?_
    · obtain ⟨c1, acc, c2, c4, c3⟩ := c
      obtain ⟨d, hd, rd⟩ := r.get hx
      obtain ⟨y, hy, e⟩ := map_at hd
      subst e
      refine ⟨wipe1, ?_⟩
      rw [show (wipe σ ([(_, j)].map (·.2))).set j _ = σ.set j _ from wipe2]
      intro s0 H0 C cl fp
      constructor
      intro pins st I
      refine thn ((bts_nil H' (Same.refl H')).run pins st I) fun k st2 ⟨H3, I3, s3, e3⟩ => ⟨H3, I3, ?_⟩
      subst e3
      rw [if_pos rfl]
      intro s0 H0 C cl fp
      refine EE.go (hb y x H' (List.mem_of_getElem? hy) ((s.trans s2).trans c1) (rd.mono (.of c1)) s0 H0 C cl fp) s3 fun v4 H4 s4 np => ?_
      have s34 := s3.trans s4
      refine ⟨acc, s34 _ _ c2, szlt (by rw [c4, List.length_take]; omega), (c1.trans s34).mut hD, _, upd_same, ?_, ?_⟩
      · rw [List.length_append, c4, List.take_add_one, hy, List.length_append]; rfl
      · rw [List.take_add_one, hy]
        refine AllP.snoc (fun H'' hk => np H'' fun b o hb hbo => ?_) (c3.imp fun a v q H'' hk => q H'' fun b o hb hbo => ?_)
        · have hne : b ≠ D := fun e => by rw [e, c2] at hb; cases hb
          exact hk b o hne (by rw [upd_ne hne]; exact hbo)
        · exact hk b o hb (by rw [upd_ne hb]; exact s34 _ _ hbo)
    · rw [hlen, List.take_of_length_le (Nat.le_refl _)] at c
      obtain ⟨c1, acc, c2, c4, c3⟩ := c
      exact ⟨s2.trans c1, D, acc, rfl, (s.trans s2).free hD, c2, c3.imp fun a v q => q H' fun _ _ _ h => h⟩⟩)
theorem pg_blkC (hN : X.N.Nodup) (hi : X.N[j]? = some x) (hl : scope.names.lookup x = some .cell) : Blk X scope fun Y => PG Y (.Name x tp) (gName j) := fun _ _ _ _ _ => pg_name (i := j) hN hi (.inr (lookup_relS_keep (sc := X.env.scope) (k := .cell) (by decide) hl)) (.inl (by show (scope.names.lookup x == some .cell) = true; rw [hl]; rfl))
/-- [elt for x in (a list of things)], the things told by Po -/
theorem rlc_gE (Po : α → V → Hp → Prop) (mPo : ∀ a v H H', Same H H' → Po a v H → Po a v H') (j : Nat) (as : List α) (gd : α → PyData) (hit : EE X iter σ H fun v H2 => ∃ l ws, v = .ref l ∧ H2 l = some (.lst ws) ∧ AllP Po H2 as ws) (hz : as.length < 100000)
    (hb : ∀ a v H2, a ∈ as → Same H H2 → Po a v H2 → Blk X scope fun Y => DE Y elt (σ.set j (some v)) H2 (gd a)) : Rlc X (iList X.K (WE X iter)) (gName j) scope [] elt [j] σ H (as.map gd) := fun H1 s =>
  (hit.go s fun v H2 s2 ⟨l, vs, e1, t, r⟩ => ⟨l, e1, ⟨vs, SqL.of t⟩, fun D hD => by
    have hlen := r.len
    have hDl : D ≠ l := fun e => by rw [e, t] at hD; cases hD
    refine lc_list (xs := vs) (fun i H' => Cv H2 D (((as.take i).filter fun _ => true).map gd) H') (Cv.start hD) (fun i H' _ c => c.1.seq (SqL.of t)) (fun i x H' hx c => ?_) fun H' c => ?_
    · have hi' : i < as.length := by rw [← hlen]; exact (List.getElem?_eq_some_iff.mp hx).1
      have ha : as[i]? = some as[i] := List.getElem?_eq_getElem hi'
      refine ⟨wipe1, ?_⟩
      rw [made_snoc as (fun _ => true) gd i _ ha, show (wipe σ [j]).set j _ = σ.set j _ from wipe2]
      exact cv_turn hD c (Nat.lt_of_le_of_lt (made_len as _ gd i) hz) (fun _ _ _ _ _ => bts_nil) fun _ => hb as[i] x H' (List.getElem_mem hi') ((s.trans s2).trans c.1) (mPo _ _ _ _ c.1 (r.get ha hx))
    · rw [hlen, List.take_of_length_le (Nat.le_refl _), filter_true] at c
      obtain ⟨c1, acc, c2, c3⟩ := c
      exact ⟨s2.trans c1, D, acc, rfl, s2.free hD, c2, c3⟩⟩)
theorem ws_mE {y : Str} {py spos : Pos} (i : Nat) (Po : α → V → Hp → Prop) (mPo : ∀ a v H H', Same H H' → Po a v H → Po a v H') (N : List Str) (sc : Scope) (j : Nat) (as : List α) (gd : α → PyData) (hc : X.calm = true) (hN : X.N.Nodup) (hit : EE X iter σ H fun v H2 => ∃ l ws, v = .ref l ∧ H2 l = some (.lst ws) ∧ AllP Po H2 as ws) (hz : as.length < 100000)
    (hb : ∀ a v H2, a ∈ as → Same H H2 → Po a v H2 → Blk X scope fun Y => DE Y elt (σ.set j (some v)) H2 (gd a))
    (q : ∀ l ys H2, Same H H2 → H l = none → H2 l = some (.lst ys) → RepL H2 (as.map gd) ys → D.nx (σ.set i (some (.ref l))) H2)
    (ok : blkC N sc scope [(x, j)] = true := by decide +kernel) (h1 : X.N = N := by rfl) (h2 : X.env.scope = sc := by rfl) (hi : X.N[j]? = some x := by rfl) (hl : scope.names.lookup x = some .cell := by rfl) (hy : X.N[i]? = some y := by rfl) (hyl : X.env.scope.names.lookup y = some .local := by rfl)
    (hsw : swapsWith (.ListComp elt [⟨.Name x tp, iter, [], 0⟩] scope pos) (some (.Name y py)) spos.line X.env = pure true := by first | rfl | exact sw_true rfl rfl rfl rfl) (hs : ∀ x, foldedSetIterable iter X.env x = pure x := by intro _; rfl) :
    WS X (.Assign [.Name y py] (.ListComp elt [⟨.Name x tp, iter, [], 0⟩] scope pos) spos) D σ H :=
  ws_lc (own := [(x, j)]) (g := gName j) i hc hN (pi_list pe_we) (by subst h1 h2; exact blkOk_by ok) (pg_blkC hN hi hl) (rlc_gE Po mPo j as gd hit hz hb) ilist_mono q hy hyl hsw hs
/-- for tg in (a list of things) -/
theorem ws_forP (Po : α → V → Hp → Prop) (mPo : ∀ a v H H', Same H H' → Po a v H → Po a v H') (as : List α) (hp : PassesOwn (model X.prog X.w) X.A X.env X.xe) (hc : X.calm = true) (hit : EE X iter σ H fun v H2 => ∃ l ws, v = .ref l ∧ H l = none ∧ H2 l = some (.lst ws) ∧ AllP Po H2 as ws) (hg : PG X tg g) (Pv : Hp → Nat → L2.St → Hp → Prop) (h0 : ∀ H1, Same H H1 → Pv H1 0 σ H1)
    (hk : ∀ H1 i σ' H', Pv H1 i σ' H' → ∀ l xs, H l = none → H1 l = some (.lst xs) → H' l = some (.lst xs)) (hPo : ∀ H1 i σ' H' a v, Pv H1 i σ' H' → Same H H1 → Po a v H1 → Po a v H')
    (hs : ∀ H1 i a v σ' H', Same H H1 → as[i]? = some a → Po a v H' → Pv H1 i σ' H' → g v σ' H' fun σ2 H2 => WSs X body { D with nx := Pv H1 (i + 1), ct := Pv H1 (i + 1), bk := D.nx } σ2 H2) (hd : ∀ H1 σ' H', Same H H1 → Pv H1 as.length σ' H' → D.nx σ' H')
    (hf : ∀ x, foldedSetIterable iter X.env x = pure x := by intro _; rfl) : WS X (.For tg iter body [] pos) D σ H :=
  ws_of (ps_for hp hc (pi_list pe_we) hg pss_we hf) (hit.go (Same.refl H) fun v H2 s2 ⟨l, vs, e1, n0, t, r⟩ => ⟨l, e1, ⟨vs, SqL.of t⟩, by
    have hlen := r.len
    refine for_list (xs := vs) (Pv H2) (h0 H2 s2) (fun i σ' H' _ p => SqL.of (hk H2 i σ' H' p l vs n0 t)) (fun i x σ' H' hx p => ?_) fun σ' H' p => ?_
    · have hi' : i < as.length := by rw [← hlen]; exact (List.getElem?_eq_some_iff.mp hx).1
      have ha : as[i]? = some as[i] := List.getElem?_eq_getElem hi'
      exact hs H2 i as[i] x σ' H' s2 ha (hPo H2 i σ' H' _ _ p s2 (r.get ha hx)) p
    · rw [hlen] at p
      exact hd H2 σ' H' s2 p⟩)
end
theorem atI_last {α : Type} {xs : List α} {x : α} : atI (xs ++ [x]) (-1) = some x := by
  unfold atI ixN
  rw [if_neg (by decide), List.length_append]
  have h1 : [x].length = 1 := rfl
  rw [h1, if_pos (by omega)]
  show (xs ++ [x])[((-1 : Int) + ((xs.length + 1 : Nat) : Int)).toNat]? = some x
  have h2 : ((-1 : Int) + ((xs.length + 1 : Nat) : Int)).toNat = xs.length := by omega
  rw [h2, List.getElem?_append_right (Nat.le_refl _), Nat.sub_self]
  rfl
section
variable {P : Program} {w : World} {K : PySem.W.Frag} {mg : Str → Option Value} {base : Heap}
def namedS : Sp := fun vs H Q _ => ∃ (vo vr : V) (order : List Str) (row : Row), vs = [vo, vr] ∧ Rep H (eStrs order) vo ∧ Rep H (eRow row) vr ∧ order.Nodup ∧ row.length = order.length ∧ order.length ≤ 10 ∧ ∀ d kvs H', Same H H' → H d = none → H' d = some (.dK kvs) → KnD kvs (knOf order row order.length) → Q (.ref d) H'
theorem ok_l_named (T : Tx K mg) : OkF P w K mg base (L2.CX P w) 1 (He.fAd K ("_law_named", none)) ["_law_order", "_law_row"] namedS := by
  refine mk_l_named T (fun vs H Q E ⟨_, _, _, _, e, _⟩ => by subst e; rfl) (fun cdv A outer s H vs Q E hr ⟨vo, vr, order, row, e, ro, rr, hnd, hl, h10, q⟩ => ?_)
  subst e
  have hu := hu_of hr
  refine wss_cons (ws_set 2 sc_l_named.nd (we_newK fun kd hkd => ?_))
  have s1 : Same H (L2.upd H kd (.dK [])) := .new hkd
  have h1 : (L2.upd H kd (.dK [])) kd = some (.dK []) := upd_same
  generalize L2.upd H kd (.dK []) = H1 at *
  have ro1 := ro.mono (.of s1)
  have rr1 := rr.mono (.of s1)
  refine wss_cons (ws_forX (passes_of rfl) rfl T.b_range ((de_len T.b_len (DE.qe (de_var 0 ro1))).go (Same.refl H1) fun v2 H2 s2 e2 => ⟨order.length, by rw [(show v2 = _ from e2), List.length_map], by omega, fun j σ' H' => ∃ (o : Option V) (kvs : List (Key × V)), σ' = [some vo, some vr, some (.ref kd), o] ∧ SameB [kd] H1 H' ∧ H' kd = some (.dK kvs) ∧ kvs.length ≤ j ∧ KnD kvs (knOf order row j), ?_, ?_, ?_⟩) (pg_name (i := 3) sc_l_named.nd rfl (.inl rfl)))
  · exact ⟨_, [], rfl, .of s2, s2 _ _ h1, Nat.le_refl _, KnD.nil.congr fun x => kn_zero x⟩
  · rintro j σ' H12 hj ⟨o14, kvs, eσ, b12, h12, hk12, hn12⟩
    subst eσ
    have kp12 : Kp H1 H12 := kp1 b12 h1 rfl
    refine wss_one (ws_dputK (k := .inr (order.getD j "")) hu mono_rep (de_ix (d := .int (row.getD j 0)) (DE.ue (de_var (d := eRow row) 1 (rr1.mono kp12))) (de_var (d := .int (j : Int)) 3 rfl) (atI_n (by rw [List.getElem?_map, getD_at (0 : Int) (by omega)]; rfl))) (ve_var 2) h12 (ve_str (de_ix (DE.ue (de_var 0 (ro1.mono kp12))) (de_var (d := .int (j : Int)) 3 rfl) (atI_n (by rw [List.getElem?_map, getD_at ("" : Str) hj]; rfl)))) (by omega) fun v13 H13 s13 e13 => ?_)
    cases (show v13 = _ from e13)
    refine ⟨_, _, rfl, (b12.trans (.of s13)).trans (.upd (by simp)), upd_same, ?_, (hn12.put _ _).congr fun x => kn_step hnd hj x⟩
    have := putK_few kvs (Sum.inr (order.getD j "")) (V.int (row.getD j 0))
    omega
  · rintro σ' H12 ⟨o14, kvs, eσ, b12, h12, hk12, hn12⟩
    subst eσ
    exact wss_one (ws_ret (EE.go (ve_var 2) (Same.refl H12) fun v' H5 s5 e5 => by
      subst e5
      exact q kd kvs H5 ((same_out s1 b12 fun a ha => by rw [List.mem_singleton.mp ha]; exact hkd).trans s5) hkd (s5 _ _ h12) hn12))
/-- an assignment by names -/
def PoN (p : Pat) (row : Row) (v : V) (H : Hp) : Prop := ∃ d kvs, v = .ref d ∧ H d = some (.dK kvs) ∧ KnD kvs (knOf (pvars p) row (pvars p).length)
theorem PoN.mono {p : Pat} (row : Row) (v : V) (H H' : Hp) (s : Same H H') : PoN p row v H → PoN p row v H' := fun ⟨d, kvs, e, h1, h2⟩ => ⟨d, kvs, e, s _ _ h1, h2⟩
theorem kn_all {p : Pat} {row : Row} {x : Str} (h : x ∈ pvars p) : knOf (pvars p) row (pvars p).length x = some (row.getD (idx (pvars p) x) 0) := by unfold knOf; rw [List.take_length, if_pos h]
def assignS (K : PySem.W.Frag) : Sp := fun vs H Q _ => ∃ (vc vp : V) (m : Nat) (c : Cat) (p : Pat), vs = [vc, vp] ∧ Rep H (eCat c) vc ∧ Rep H (ePat p) vp ∧ GCat m c ∧ m ≤ 60 ∧ GPat c p ∧ ∀ (l : Addr) (ws : List V) H', Same H H' → H l = none → H' l = some (.lst ws) → AllP (PoN p) H' (joinedL c p) ws → Q (.ref l) H'
theorem ok_l_assignments (T : Tx K mg) : OkF P w K mg base (L2.CX P w) 4 (He.fAd K ("_law_assignments", none)) ["_law_catalogue_here", "_law_pattern_here"] (assignS K) := by
  refine mk_l_assignments T (fun vs H Q E ⟨_, _, _, _, _, e, _⟩ => by subst e; rfl) (fun cdv A outer s H vs Q E hr ⟨vc, vp, m, c, p, e, rc, rp, hg, hm, hp, q⟩ => ?_)
  subst e
  have ok := patOk_of hg (by omega) hp
  have hjl := joined_len ok
  refine wss_cons (ws_de (d := eStrs (pvars p)) 2 sc_l_assignments.nd (de_call (ok_l_variables T |>.mono (by decide)) hr T.gl_variables passL (aa_cons (de_var 1 rp) aa_nil) ⟨p, ⟨ok.alen, ok.hi, by have := ok.hlen; omega⟩, rfl, rfl⟩) fun vo H1 s1 ro => ?_)
  have rc1 := rc.mono (.of s1)
  have rp1 := rp.mono (.of s1)
  refine wss_one (rt_ee (Same.refl H1) (ee_mNL (PoN p) n_l_assignments (defScope s_l_assignments) 3 (joinedL c p) eRow rfl sc_l_assignments.nd (fun H2 s2 => we_ixlW (we_call (ok_l_partials T) hr T.gl_partials passL ((aav_cons mono_rep (de_var 0 (rc1.mono (.of s2))) (aav_cons mono_rep (de_var 1 (rp1.mono (.of s2))) (aa_one (de_var 2 (ro.mono (.of s2)))))).go (Same.refl H2) fun vs H3 s3 ⟨w1, q1, e1, z1, w2, q2, e2, z2, w3, e3, z3⟩ => ?_))) (by omega) fun row v H2 hrow s2 rr => ?_) fun v' H' s' ⟨l, ws, e', n0, hl, ha⟩ => ?_)
  · subst e1 e2 e3
    exact ⟨w1, w2, w3, m, c, p, rfl, z1, z2, z3, hg, hm, hp, fun L la pre xs H4 s4 h1 h2 h3 => (de_neg (de_int (i := 1))).go (Same.refl H4) fun v5 H5 s5 e5 => ⟨L, _, -1, .ref la, rfl, e5, SqL.of (s5 _ _ h1), atI_last, (s3.trans s4).trans s5, la, xs, rfl, SqL.of (s5 _ _ h2), h3.mono (.of s5)⟩⟩
  · intro s5 H5 C cl fp
    have g := joined_dig row hrow
    refine ee_call (ok_l_named T |>.mono (by decide)) hr T.gl_named passL (aav_cons mono_rep (de_var (d := eStrs (pvars p)) 2 (ro.mono (.of s2))) (aa_one (de_var (d := eRow row) 3 rr))) fun vs H3 Q2 s3 ⟨w1, q1, e1, z1, w2, e2, z2⟩ hQ => ?_
    subst e1 e2
    exact ⟨w1, w2, pvars p, row, rfl, z1, z2, nodup_pvars p, g.len, by have := ok.olen; omega, fun d kvs H4 s4 n4 h4 k4 => hQ _ _ s4 fun H6 hk => ⟨d, kvs, rfl, hk _ _ (s3.free n4) h4, k4⟩⟩
  · subst e'
    exact q l ws H' (s1.trans s') (s1.free n0) hl ha
def scAns : Scope := relS { kind := .function, names := [(".0", .local), ("_law_one", .cell), ("tuple", .globalImplicit), ("_law_pattern_here", .free)], isGenerator := false, isCoroutine := false } (defScope s_l_answers)
def ansR (ds : List PyData) (d : PyData) : Prop := ∃ m c p, GCat m c ∧ m ≤ 60 ∧ GPat c p ∧ ds = [eCat c, ePat p] ∧ d = eRows (ansL c p)
theorem proj_at {p : Pat} {row : Row} : (p.head.map fun v => PyData.int (row.getD (idx (pvars p) v) 0)) = (proj p row).map .int := by unfold proj; rw [List.map_map]; rfl
theorem ok_l_answers (T : Tx K mg) : OkF P w K mg base (L2.CX P w) 5 (He.fAd K ("_law_answers", none)) ["_law_catalogue_here", "_law_pattern_here"] (spD ansR) := by
  refine mk_l_answers T (spD_len fun ds d ⟨_, _, _, _, _, _, e, _⟩ => by subst e; rfl) (fun cdv A outer s H vs Q E hr ⟨ds, d, h, ⟨m, c, p, hg, hm, hp, e, e2⟩, q⟩ => ?_)
  subst e e2
  obtain ⟨vc, vp, e, rc, rp⟩ := h.two
  subst e
  have hu := hu_of hr
  have ok := patOk_of hg (by omega) hp
  have hjl := joined_len ok
  have hh := ok.hlen
  refine wss_cons (ws_mE 2 (PoN p) (fun a v H H' => PoN.mono a v H H') n_l_answers (defScope s_l_answers) 3 (joinedL c p) (fun row => eRow (proj p row)) rfl sc_l_answers.nd (ee_call (ok_l_assignments T) hr T.gl_assignments passL (aav_cons mono_rep (de_var 0 rc) (aa_one (de_var 1 rp))) fun vs H2 Q2 s2 ⟨w1, q1, e1, z1, w2, e2, z2⟩ hQ => ?_) (by omega) (fun row v H2 hrow s2 ⟨kd, kvs, ev, hk, hkn⟩ => ?_) fun l ys H2 s2 n2 h2 r2 => ?_)
  · subst e1 e2
    exact ⟨w1, w2, m, c, p, rfl, z1, z2, hg, hm, hp, fun l ws H3 s3 n3 h3 a3 => hQ _ _ s3 ⟨l, ws, rfl, h3, a3⟩⟩
  · subst ev
    intro s5 H5 C cl fp
    refine DE.is (de_tuple T.b_tuple (LE.lv (le_mU n_l_answers scAns 4 p.head .str (fun v => .int (row.getD (idx (pvars p) v) 0)) rfl sc_l_answers.nd (DE.ue (de_ix (d := eStrs p.head) (DE.ue (de_var 1 (rp.mono (.of s2)))) de_int rfl)) (by omega) fun y u H6 hy s6 ru => ?_))) (by rw [proj_at]; rfl)
    intro s7 H7 C2 cl2 fp2
    refine de_n (ve_dgetK (k := .inr y) hu (ve_var 3) (.inl (s6 _ _ hk)) (ve_str (de_var 4 ru)) ?_)
    rw [hkn, kn_all (hp.head y hy)]
    rfl
  · have hB : ∀ r ∈ (joinedL c p).map (proj p), r.length = p.head.length ∧ TS.Bd 3 r := fun r hr2 => by
      obtain ⟨t, ht, e⟩ := List.mem_map.mp hr2
      rw [← e]
      have g := proj_grow ok (joined_dig t ht)
      exact ⟨g.len, bd3 g⟩
    refine wss_one (rt_de s2 (de_tuple T.b_tuple (LE.lv (le_sset (rs := (joinedL c p).map (proj p)) (d := p.head.length) (B := 3) rfl (hu64 hr) T.b_sorted T.b_set (ve_lv (ve_var 2) (SqL.of h2) (by rw [List.map_map]; exact r2)) (by rw [List.length_map]; omega) (fun x hx y hy hne => ?_) hB))) q)
    by_cases e : p.head.length = 0
    · exfalso
      have h1 := (hB x hx).1
      have h2 := (hB y hy).1
      rw [e] at h1 h2
      exact hne (by rw [List.length_eq_zero_iff.mp h1, List.length_eq_zero_iff.mp h2])
    · omega
end
end J
/-! A def called within an except suite on the exception that is held there; isinstance of it. -/
namespace J
open PySem PySem.Spec PyProof.Rows L2
/-- what holds of the body's walk holds of the call -/
theorem pin_run {X : Cx} {k : Nat} {f a : Addr} {nm qual : Str} {params : Arguments} {body : List Stmt} {scope : Scope} {fd : FuncData} {N : List Str} {ar : Str} {oe : Obj} {pins : List (Addr × Obj)} {σ : L2.St} {H : Hp} {s : Shared} {Q : VK}
    (F : FunD X.K nm qual params body scope [] [] f fd) (S : FnScope N [ar] scope) (hb : Binds X.K fd [ar] []) (hr : L2H.RoomH (k + 1) X.A) (hp : (a, oe) ∈ X.pn) (I : Inv X pins σ H s)
    (hbody : ∀ cdv E, WSs (L2H.cxH (L2.CX X.prog X.w) X.prog X.w X.K X.mg X.base N qual scope f cdv X.A X.stack s H E (a, oe)) body { nx := fun _ H' => Q .non H', rt := Q } (L2.start N [.ref a]) H)
    (hx : Passes (L2.CX X.prog X.w) X E0) : wpAny (model X.prog X.w) X.A (call (.ref f) [.ref a]) (EP X pins σ Q) X.xe s := by
  obtain ⟨oc, od, dV, kV, doc, pm, an, cdv, ct, osl, efd, hlk, hcode, _, _⟩ := F.ex
  subst efd
  have pinned := I.pin (a, oe) (List.mem_append_left _ hp)
  have ground := I.env0
  have inK : X.K.In s.heap := I.kIn
  have free := ground.mod.nolimit.keeps fun b o e => (ground.bs b o e).1
  have pk : L2H.PinOk X.stack H s (a, oe) := { get := pinned.1, free := pinned.2.1, nofs := fun hm => (List.mem_cons.mp (I.stkSub a hm)).elim pinned.2.2.1 pinned.2.2.2.1, nocell := pinned.2.2.2.2 }
  have bound := hb s [.ref a] inK rfl
  have kinds : ∀ y ∈ [ar].zip [Value.ref a], scope.names.lookup y.1 = some .local ∨ scope.names.lookup y.1 = some .cell ∧ ((cellsFrom (s.heap.objs.size + 1) scope.names []).lookup y.1).isSome = true := by
    rintro ⟨n, v⟩ hy
    have hn : n = ar := List.mem_singleton.mp (List.of_mem_zip hy).1
    subst hn
    rcases S.par n List.mem_cons_self with z | z
    · exact .inl z
    · exact .inr ⟨z, PySem.W.cellsFrom_some _ _ _ (.inl z)⟩
  have depth : X.A.depth < recursionLimit := hr.depth
  have key : codeAny (model X.prog X.w) X.A (.call (.ref f) ⟨[.ref a], []⟩) (CR (L2.CX X.prog X.w) X.stack X.prog X.w H s Q E0) s := by
    apply codeAny_call_function depth (inK _ _ hlk) rfl S.co S.gen rfl (PySem.W.codeRec_of inK hcode)
    apply bound
    apply wpAny_newFunctionEnv_cells S.kind kinds
    rintro env rfl s1 made
    refine ⟨free.keeps made.toInCall.keep, codeAny_func ?_⟩
    have J := L2H.inv_startH (CX := L2.CX X.prog X.w) (mg := X.mg) (E := E0) (N := N) (vs := [.ref a]) S pk ground rfl (.cons rfl .nil) made
    refine wpAny_mono ((hbody cdv E0).run [] s1 J) ?_ fun e s' z => z
    intro fl s' z
    cases fl with
    | ret u =>
      obtain ⟨v, σ', H', J2, rv, q⟩ := z
      exact ⟨v, H', J2.os, J2.bare, J2.base, J2.hok, rv, q⟩
    | next =>
      obtain ⟨σ', H', J2, q⟩ := z
      exact ⟨.non, H', J2.os, J2.bare, J2.base, J2.hok, rfl, q⟩
    | brk =>
      obtain ⟨_, _, _, no⟩ := z
      exact (show False from no).elim
    | cont =>
      obtain ⟨_, _, _, no⟩ := z
      exact (show False from no).elim
  refine wpAny_call (codeAny_mono key ?_)
  intro r s' z
  match r, z with
  | .error e, z => exact hx pins σ H s e s' I z
  | .ok (.ret u), z => exact I.after z
/-- f(e), e the pinned one -/
theorem we_pin {X : Cx} {k : Nat} {f a : Addr} {nm qual x : Str} {params : Arguments} {body : List Stmt} {scope : Scope} {fd : FuncData} {N : List Str} {ar : Str} {oe : Obj} {σ : L2.St} {H : Hp} {Q : VK} {q pos : Pos} {e : Expr}
    (F : FunD X.K nm qual params body scope [] [] f fd) (S : FnScope N [ar] scope) (hb : Binds X.K fd [ar] []) (hr : L2H.RoomH (k + 1) X.A) (hp : (a, oe) ∈ X.pn) (hm : X.mg x = some (.ref f)) (ha : VE X e σ H (.ref a)) (hx : Passes (L2.CX X.prog X.w) X E0)
    (hbody : ∀ cdv E s H1, Same H H1 → WSs (L2H.cxH (L2.CX X.prog X.w) X.prog X.w X.K X.mg X.base N qual scope f cdv X.A X.stack s H1 E (a, oe)) body { nx := fun _ H' => Q .non H', rt := Q } (L2.start N [.ref a]) H1)
    (hg : Gl X x := by rfl) (hdb : (x == ("__debug__" : Str)) = false := by decide) (he : starEach [e] X.env = (false, eval e X.env) :: starEach [] X.env := by rfl) (hpl : (backTo pos (starEach [] X.env)).any (·.1) = false := by rfl) : WE X (.Call (.Name x q) [e] [] pos) σ H Q := by
  constructor
  intro pins s I
  apply wpAny_Call_Name_kw
  apply ld_glob I hg hm _ hdb
  refine PySem.W.callWith_K (h₀ := X.base) I.ok.mod.kin F.kp (thn ((wa_of (pa_cons pe_we pa_nil he) (ha.go (Same.refl H) fun v H1 s1 e1 => ⟨s1, by rw [e1]⟩) : WA X [e] σ H fun vs H1 => Same H H1 ∧ vs = [.ref a]).run pos pins s I) ?_) he hpl
  rintro us s1 ⟨vs, H1, I1, r, s1', e1⟩
  refine ⟨I1.kIn, ?_⟩
  subst e1
  rw [Vals.ref1 r]
  exact pin_run F S hb hr hp I1 (fun cdv E => hbody cdv E s1 H1 s1') hx
end J
/-! The law's class of an error. -/
namespace J
open PySem PySem.Spec PyProof.Rows L2
theorem pin_isE {X : Cx} {a D : Addr} {oe : Obj} (C : ExcC X.K D) (hz : Zc (.ref D) none oe) (hf : ∃ vs, oe.data = .fields vs) (hp : (a, oe) ∈ X.pn) : CallR X (.builtin "isinstance") (rIsE X.K D a) := by
  rintro pins s σ H xs us Q I r ⟨c, cv, b, ex, hcv, hk, q⟩
  subst ex
  have there := (I.pin (a, oe) (List.mem_append_left _ hp)).1
  have inst : PySem.W.InstAt s.heap a oe D none := by
    obtain ⟨oc, od, da, sl⟩ := oe
    obtain ⟨z1, z2⟩ := hz
    obtain ⟨vs, z3⟩ := hf
    simp only at z1 z2 z3
    subst z1 z2 z3
    exact ⟨there, rfl, rfl, trivial⟩
  match us, r with
  | [_, _], .cons rx (.cons rc .nil) =>
    cases rx
    rw [hcv _ rc]
    have kit := PySem.W.handS_kitx_exc (x := a) (ox := oe) C.hg C.hk C.hs C.hd C.ha C.hn C.ht C.hm
    exact PySem.W.kia_one kit I.kIn inst hk nofun fun tk => ⟨.bl b, H, I.kept (t' := tk) (fun _ _ z => z), rfl, q⟩
section
variable {P : Program} {w : World} {K : PySem.W.Frag} {mg : Str → Option Value} {base : Heap}
theorem Tx.xbE (T : Tx K mg) {x : Str} (hx : x ∈ exs) : isB K x = true ∧ ∀ y ∈ exq, kitB K x y = true := by
  have h := T.xb
  unfold J.xb at h
  obtain ⟨_, h2⟩ := Bool.and_eq_true_iff.mp h
  obtain ⟨h3, h4⟩ := Bool.and_eq_true_iff.mp h2
  exact ⟨List.all_eq_true.mp h3 x hx, fun y hy => List.all_eq_true.mp (List.all_eq_true.mp h4 x hx) y hy⟩
theorem Tx.excC (T : Tx K mg) {x : Str} (hx : x ∈ exs) : ExcC K (He.ga K x) := by
  have h := (T.xbE hx).1
  unfold isB at h
  obtain ⟨h1, h⟩ := Bool.and_eq_true_iff.mp h
  obtain ⟨h2, h⟩ := Bool.and_eq_true_iff.mp h
  obtain ⟨h3, h⟩ := Bool.and_eq_true_iff.mp h
  obtain ⟨h4, h⟩ := Bool.and_eq_true_iff.mp h
  obtain ⟨h5, h⟩ := Bool.and_eq_true_iff.mp h
  obtain ⟨h6, h⟩ := Bool.and_eq_true_iff.mp h
  obtain ⟨h7, h8⟩ := Bool.and_eq_true_iff.mp h
  exact ⟨He.eqO_ok h1, He.eqO_ok h2, of_decide_eq_true h3, h4, He.eqO_ok h5, He.eqO_ok h6, of_decide_eq_true h7, of_decide_eq_true h8⟩
theorem Tx.kit (T : Tx K mg) {x y : Str} (hx : x ∈ exs) (hy : y ∈ exq) : PySem.W.kitOne K (.ref (He.ga K x)) (.ref (He.ga K y)) = some (decide (x = y)) := of_decide_eq_true ((T.xbE hx).2 y hy)
def pc (x y t : Str) : Str := if x = y then t else ""
def toldOf (x : Str) : Str := pc x "StandingError" "standing" ++ pc x "RowError" "row" ++ pc x "UnknownTable" "table" ++ pc x "PatternError" "pattern"
theorem told_s : toldOf "StandingError" = "standing" := by decide +kernel
theorem told_r : toldOf "RowError" = "row" := by decide +kernel
theorem told_t : toldOf "UnknownTable" = "table" := by decide +kernel
theorem pc_len (x y : Str) {t : Str} (h : t.length ≤ 20) : (pc x y t).length ≤ 20 := by
  unfold pc
  split
  · exact h
  · exact Nat.zero_le _
theorem str_len_add (x y : Str) : (x ++ y).length = x.length + y.length := by
  show (x.cps ++ y.cps).size = _
  rw [Array.size_append]
  rfl
/-- 't' if isinstance(e, C) else '' -/
theorem de_piece {X : Cx} {a : Addr} {oe : Obj} {σ : L2.St} {H : Hp} {e : Expr} {x y t : Str} {pI p1 p2 pos pa pb : Pos} {n n2 : Nat} (T : Tx X.K X.mg) (hx : x ∈ exs) (hy : y ∈ exq) (hz : Zc (.ref (He.ga X.K x)) none oe) (hf : ∃ vs, oe.data = .fields vs) (hp : (a, oe) ∈ X.pn) (he : VE X e σ H (.ref a)) (hm : X.mg y = some (.ref (He.ga X.K y)))
    (hg : Gl X "isinstance" := by rfl) (hg2 : Gl X y := by rfl) (hdb : (y == ("__debug__" : Str)) = false := by decide)
    (hs : starEach [e, .Name y p1] X.env = (false, eval e X.env) :: starEach [.Name y p1] X.env := by rfl) (hs2 : starEach [.Name y p1] X.env = (false, eval (.Name y p1) X.env) :: starEach [] X.env := by rfl) (hpl : (backTo p2 (starEach [e, .Name y p1] X.env)).any (·.1) = false := by rfl)
    (hit : ∀ whole, isTrue (.Call (.Name "isinstance" pI) [e, .Name y p1] [] p2) X.env whole = (do let v ← whole; standAt p2; holding [v] (truthy v)) := by intro _; rfl) :
    DE X (.IfExp (.Call (.Name "isinstance" pI) [e, .Name y p1] [] p2) (.Constant (.str t) n pa) (.Constant (.str "") n2 pb) pos) σ H (.str (pc x y t)) := by
  have hv : VE X (.Name y p1) σ H (.ref (He.ga X.K y)) := fun H1 _ => we_of (pe_glob (v := .ref (He.ga X.K y)) hg2 hm rfl hdb) ⟨Same.refl H1, rfl⟩
  have h : DE X (.Call (.Name "isinstance" pI) [e, .Name y p1] [] p2) σ H (.bool (decide (x = y))) :=
    ee_blt (pin_isE (T.excC hx) hz hf hp) T.b_isinstance (by decide +kernel) (aav_cons mono_eq he (aa_one hv hs2) hs) (fun vs H2 s2 ⟨v, r, e1, e2, v3, e3, e4⟩ => by
      subst e1 e2 e3 e4
      exact ⟨.ref (He.ga X.K y), .ref (He.ga X.K y), decide (x = y), rfl, fun u hu => hu, T.kit hx hy, Same.refl H2, rfl⟩) (fun _ _ _ _ k ⟨c, cv, b, h1, h2, h3, h4⟩ => ⟨c, cv, b, h1, h2, h3, k _ _ h4⟩) (hg := hg) (he := hs)
  unfold pc
  refine ee_ifExp (bt_val h hit) (fun hk => ?_) fun hk => ?_
  · rw [if_pos (of_decide_eq_true hk)]; exact de_str
  · rw [if_neg (of_decide_eq_false hk)]; exact de_str
/-- _law_class(e) -/
theorem we_class (T : Tx K mg) {X : Cx} {a : Addr} {oe : Obj} {σ : L2.St} {H : Hp} {Q : VK} {q pos : Pos} {e : Expr} {x : Str} (hK : X.K = K) (hmg : X.mg = mg) (hr : L2H.RoomH 1 X.A) (hx : x ∈ exs) (hz : Zc (.ref (He.ga X.K x)) none oe) (hf : ∃ vs, oe.data = .fields vs) (hp : (a, oe) ∈ X.pn) (ha : VE X e σ H (.ref a)) (hxx : Passes (L2.CX X.prog X.w) X E0)
    (h : ∀ H', Same H H' → Q (.str (toldOf x)) H') (hg : Gl X "_law_class" := by rfl) (he : starEach [e] X.env = (false, eval e X.env) :: starEach [] X.env := by rfl) (hpl : (backTo pos (starEach [] X.env)).any (·.1) = false := by rfl) : WE X (.Call (.Name "_law_class" q) [e] [] pos) σ H Q := by
  subst hK hmg
  obtain ⟨fd, F⟩ := T.cd.def_ 34 (d := ⟨("_law_class", none), "_law_class", "_law_class", defArgs s_l_class, defBody s_l_class, defScope s_l_class, [], []⟩) rfl
  have F : FunD X.K "_law_class" "_law_class" (defArgs s_l_class) (defBody s_l_class) (defScope s_l_class) [] [] (He.fAd X.K ("_law_class", none)) fd := F
  refine we_pin F sc_l_class (F.bindsN fun _ _ _ _ _ _ us hl => match us, hl with | [_], _ => rfl) hr hp T.gl_class ha hxx (fun cdv E s H1 s1 => ?_) hg (by decide) he hpl
  have hpn : (a, oe) ∈ (L2H.cxH (L2.CX X.prog X.w) X.prog X.w X.K X.mg X.base n_l_class "_law_class" (defScope s_l_class) (He.fAd X.K ("_law_class", none)) cdv X.A X.stack s H1 E (a, oe)).pn := List.mem_cons_self
  refine wss_cons (ws_de (d := .str (pc x "StandingError" "standing" ++ pc x "RowError" "row")) 1 sc_l_class.nd (de_adds (de_piece (a := a) (oe := oe) (x := x) T hx (by decide) hz hf hpn (ve_var 0) T.gStandingError) (de_piece (a := a) (oe := oe) (x := x) T hx (by decide) hz hf hpn (ve_var 0) T.gRowError) ?_) fun v2 H2 s2 r2 => ?_)
  · have h1 := pc_len x "StandingError" (t := "standing") (by decide)
    have h2 := pc_len x "RowError" (t := "row") (by decide)
    exact szl (by omega)
  · refine wss_one (rt_de (s1.trans s2) (de_adds (de_adds (de_var 1 r2) (de_piece (a := a) (oe := oe) (x := x) T hx (by decide) hz hf hpn (ve_var 0) T.gUnknownTable) ?_) (de_piece (a := a) (oe := oe) (x := x) T hx (by decide) hz hf hpn (ve_var 0) T.gPatternError) ?_) fun v' H' s' r' => ?_)
    · have h1 := pc_len x "StandingError" (t := "standing") (by decide)
      have h2 := pc_len x "RowError" (t := "row") (by decide)
      have h3 := pc_len x "UnknownTable" (t := "table") (by decide)
      rw [str_len_add]
      exact szl (by omega)
    · have h1 := pc_len x "StandingError" (t := "standing") (by decide)
      have h2 := pc_len x "RowError" (t := "row") (by decide)
      have h3 := pc_len x "UnknownTable" (t := "table") (by decide)
      have h4 := pc_len x "PatternError" (t := "pattern") (by decide)
      rw [str_len_add, str_len_add]
      exact szl (by omega)
    · cases (show v' = _ from r')
      exact h H' s'
end
end J
/-! The law's deed. -/
namespace J
open PySem PySem.Spec PyProof.Rows L2
/-- try: body, except x as n: suite; what is let out of the body is held -/
theorem ws_try {X : Cx} {x n : Str} {c : Value} {i : Nat} {body suite : List Stmt} {b0 : Stmt} {np pos pos2 : Pos} {Wout : WX} {D : Ends} {σ : L2.St} {H : Hp} (E : XK) (hs : X.stack = X.env :: X.outer) (hf : X.env.frame = some X.env.locals) (hN : X.N.Nodup) (hi : X.N[i]? = some n) (hln : X.env.kindOf n = some .local) (hc : Names X x c) (tk : Takes X Wout)
    (hE : ∀ cls d H, E cls d H → PySem.W.exmOne X.K cls c = some true ∧ ∀ (a : Addr) (oe : Obj) (pn : List (Addr × Obj)) (σ' : L2.St), H a = none → σ'.length = X.N.length → Zc cls d oe → (∃ vs, oe.data = .fields vs) → WSs (X.suite a ((a, oe) :: pn)) (b0 :: suite) { nx := fun σ' H' => D.nx (σ'.set i none) H', rt := D.rt, bk := fun σ' H' => D.bk (σ'.set i none) H', ct := fun σ' H' => D.ct (σ'.set i none) H' } (σ'.set i (some (.ref a))) H)
    (hb : ∀ pn xe, Passes (L2.CX X.prog X.w) (X.tr pn xe) E → PassesOwn (model X.prog X.w) X.A X.env xe → WSs (X.tr pn xe) body D σ H) : WS X (.Try body [.ExceptHandler (some (.Name x np)) (some n) (b0 :: suite) pos2] [] [] pos) D σ H :=
  ws_of (ps_try_as (tb := fun W D σ H => ∀ pn xe, Takes (X.tr pn xe) W → PassesOwn (model X.prog X.w) X.A X.env xe → WSs (X.tr pn xe) body D σ H)
    (ts := fun a cls d D σ H => ∀ oe pn, Zc cls d oe → (∃ vs, oe.data = .fields vs) → WSs (X.suite a ((a, oe) :: pn)) (b0 :: suite) D σ H) hs hf hN hi hln hc tk
    (fun W pn xe t po => ⟨fun pins s σ H D I h => (h pn xe t po).run pins s I⟩) (fun a oe cls d pn hz hfi => ⟨fun pins s σ H D I h => (h oe pn hz hfi).run pins s I⟩))
    (fun pn xe t po => hb pn xe (passes_call t fun cls d σ' H' h => ⟨true, (hE cls d H' h).1, fun _ a hn oe pn2 hz hfi => ⟨fun pins s I => ((hE cls d H' h).2 a oe pn2 σ' hn (by
      have := I.len
      rw [List.length_set] at this
      exact this) hz hfi).run pins s I⟩, nofun⟩) po)
section
variable {P : Program} {w : World} {K : PySem.W.Frag} {mg : Str → Option Value} {base : Heap}
def fallS (K : PySem.W.Frag) : Sp := fun vs H Q E => ∃ (ka : Addr) (vx : V) (M : List Addr) (st : KSt) (x : Str), vs = [.ref ka, vx] ∧ KAt K H ka M st ∧ Rep H (.str x) vx ∧ x ∈ patNames ∧ st.n ≤ 900 ∧ match look st.pats x with
  | none => ∀ H', Same H H' → E (.ref (He.ga K "StandingError")) none H'
  | some _ => ∀ H' M', SameB M H H' → (∀ m ∈ M', m ∈ M ∨ H m = none) → KAt K H' ka M' { stFall st x with n := st.n + 1 } → Q .non H'
/-- what a deed's promise is asked: what it gives is given, what it lets out is told -/
def mAll (K : PySem.W.Frag) (H : Hp) (Q : VK) (sp : Hp → VK → XK → Prop) : Prop := ∀ (H1 : Hp) (Q2 : VK) (E2 : XK), Same H H1 → (∀ v H', (∀ H'', Same H' H'' → Q v H'') → Q2 v H') → (∀ x ∈ exs, ∀ H', (∀ H'', Same H' H'' → Q (.str (toldOf x)) H'') → E2 (.ref (He.ga K x)) none H') → sp H1 Q2 E2
/-- the keeper's deed by its word -/
def deedS (K : PySem.W.Frag) (ka : Addr) (wd : Str) (va vb : V) (H : Hp) (Q : VK) : Prop :=
  (wd = "stand" ∧ mAll K H Q (standS K [.ref ka, va, vb])) ∨ (wd = "fall" ∧ mAll K H Q (fallS K [.ref ka, va])) ∨ (wd = "add" ∧ mAll K H Q (addS K [.ref ka, va, vb])) ∨ (wd = "drop" ∧ mAll K H Q (dropS K [.ref ka, va, vb])) ∨ (wd = "answers" ∧ mAll K H Q (answersS K [.ref ka, va])) ∨ (wd = "ways" ∧ mAll K H Q (waysS K [.ref ka, va, vb]))
def doS (K : PySem.W.Frag) : Sp := fun vs H Q _ => ∃ (ka : Addr) (va vb : V) (wd : Str), vs = [.ref ka, .str wd, va, vb] ∧ (∃ dx vt dp dc ds ll, H ka = some (.ins (He.ga K "Keeper") dx (keepF vt dp dc ds ll))) ∧ deedS K ka wd va vb H Q
theorem ok_Keeper_fallS (T : Tx K mg) : OkF P w K mg base (L2.CX P w) 2 (He.fAd K ("Keeper", some "fall")) ["self", "name"] (fallS K) := ok_Keeper_fall T
theorem ok_l_do (T : Tx K mg) : OkF P w K mg base (L2.CX P w) 11 (He.fAd K ("_law_do", none)) ["_law_keeper", "_law_word", "_law_a", "_law_b"] (doS K) := by
  refine mk_l_do T (fun vs H Q E ⟨_, _, _, _, e, _⟩ => by subst e; rfl) (fun cdv A outer s H vs Q E hr ⟨ka, va, vb, wd, e, ⟨dx, vt, dp, dc, ds, ll, hins⟩, h⟩ => ?_)
  subst e
  refine wss_cons (ws_try (i := 5) (c := .ref (He.ga K "HallError")) (Wout := fun cls d _ H => E cls d H) (fun cls d H' => ∃ x ∈ exs, cls = .ref (He.ga K x) ∧ d = none ∧ ∀ H'', Same H' H'' → Q (.str (toldOf x)) H'') rfl rfl sc_l_do.nd rfl rfl ⟨rfl, by decide, .inl T.gHallError⟩ tkE ?_ fun pn xe hx po => ?_)
  · rintro cls d H' ⟨x, hxx, e1, e2, hq⟩
    subst e1 e2
    refine ⟨?_, fun a oe pn σ' hn hl hz hf => ?_⟩
    · simp only [exs, List.mem_cons, List.not_mem_nil, or_false] at hxx
      rcases hxx with e | e | e <;> subst e
      · exact T.exm_StandingError
      · exact T.exm_RowError
      · exact T.exm_UnknownTable
    · have hl : σ'.length = 6 := hl
      have hrm : L2H.RoomH 1 (A.deeper (envOfC "_law_do" (defScope s_l_do) s.heap.objs.size (He.fAd K ("_law_do", none)) cdv)) := (L2H.roomH_of hr).mono (by decide)
      exact wss_one (ws_ret (we_class (a := a) (oe := oe) (x := x) T rfl rfl ⟨hrm.dp, hrm.un⟩ hxx hz hf List.mem_cons_self (ve_var 5 (by rw [List.getElem?_set_self (by omega)])) passL fun H'' s'' => hq H'' s''))
  · have fin : ∀ v H', (∀ H'', Same H' H'' → Q v H'') → WSs (cxOf (L2.CX P w) P w K mg base n_l_do "_law_do" (defScope s_l_do) (He.fAd K ("_law_do", none)) cdv A outer s H E) [Stmt.Return (some (.Name "_law_found" ⟨503, 11, 503, 21⟩)) ⟨503, 4, 503, 21⟩] { nx := fun _ H' => Q .non H', rt := Q } [some (.ref ka), some (.str wd), some va, some vb, some v, none] H' := fun v H' hq =>
      wss_one (ws_ret (EE.go (ve_var 4) (Same.refl H') fun u H'' s'' eu => by
        subst eu
        exact hq H'' s''))
    rcases h with ⟨ew, hm⟩ | ⟨ew, hm⟩ | ⟨ew, hm⟩ | ⟨ew, hm⟩ | ⟨ew, hm⟩ | ⟨ew, hm⟩
    · -- stand
      subst ew
      refine wss_one (ws_if (BT.go (bt_cmp (ce_eqs (de_var (d := .str "stand") 1 rfl) de_str)) (Same.refl H) fun H1 s1 => ?_))
      rw [if_pos (by decide +kernel)]
      refine wss_one (ws_set 4 sc_l_do.nd (we_meth (ok_Keeper_stand T |>.mono (by decide)) hr (ve_var 0) (s1 _ _ hins) T.clKeeper T.me_Keeper_stand rfl hx (aav_cons (P := fun u _ => u = va) mono_eq (ve_var 2) (aa_one (P := fun u _ => u = vb) (ve_var 3))) fun vs H8 s8 ⟨w1, q1, e1, e2, w3, e3, e4⟩ => ?_))
      subst e1 e2 e3 e4
      exact hm H8 _ _ (s1.trans s8) (fun v H' hq => fin v H' hq) fun x hxx H' hq => ⟨x, hxx, rfl, rfl, hq⟩
    · -- fall
      subst ew
      refine wss_one (ws_if (BT.go (bt_cmp (ce_eqs (de_var (d := .str "fall") 1 rfl) de_str)) (Same.refl H) fun H1 s1 => ?_))
      rw [if_neg (by decide +kernel)]
      refine wss_one (ws_if (BT.go (bt_cmp (ce_eqs (de_var (d := .str "fall") 1 rfl) de_str)) (Same.refl H1) fun H2 s2 => ?_))
      rw [if_pos (by decide +kernel)]
      refine wss_one (ws_set 4 sc_l_do.nd (we_meth (ok_Keeper_fallS T |>.mono (by decide)) hr (ve_var 0) ((s1.trans s2) _ _ hins) T.clKeeper T.me_Keeper_fall rfl hx (aa_one (P := fun u _ => u = va) (ve_var 2)) fun vs H8 s8 ⟨w1, e1, e2⟩ => ?_))
      subst e1 e2
      exact hm H8 _ _ ((s1.trans s2).trans s8) (fun v H' hq => fin v H' hq) fun x hxx H' hq => ⟨x, hxx, rfl, rfl, hq⟩
    · -- add
      subst ew
      refine wss_one (ws_if (BT.go (bt_cmp (ce_eqs (de_var (d := .str "add") 1 rfl) de_str)) (Same.refl H) fun H1 s1 => ?_))
      rw [if_neg (by decide +kernel)]
      refine wss_one (ws_if (BT.go (bt_cmp (ce_eqs (de_var (d := .str "add") 1 rfl) de_str)) (Same.refl H1) fun H2 s2 => ?_))
      rw [if_neg (by decide +kernel)]
      refine wss_one (ws_if (BT.go (bt_cmp (ce_eqs (de_var (d := .str "add") 1 rfl) de_str)) (Same.refl H2) fun H3 s3 => ?_))
      rw [if_pos (by decide +kernel)]
      refine wss_one (ws_set 4 sc_l_do.nd (we_meth (ok_Keeper_add T) hr (ve_var 0) (((s1.trans s2).trans s3) _ _ hins) T.clKeeper T.me_Keeper_add rfl hx (aav_cons (P := fun u _ => u = va) mono_eq (ve_var 2) (aa_one (P := fun u _ => u = vb) (ve_var 3))) fun vs H8 s8 ⟨w1, q1, e1, e2, w3, e3, e4⟩ => ?_))
      subst e1 e2 e3 e4
      exact hm H8 _ _ (((s1.trans s2).trans s3).trans s8) (fun v H' hq => fin v H' hq) fun x hxx H' hq => ⟨x, hxx, rfl, rfl, hq⟩
    · -- drop
      subst ew
      refine wss_one (ws_if (BT.go (bt_cmp (ce_eqs (de_var (d := .str "drop") 1 rfl) de_str)) (Same.refl H) fun H1 s1 => ?_))
      rw [if_neg (by decide +kernel)]
      refine wss_one (ws_if (BT.go (bt_cmp (ce_eqs (de_var (d := .str "drop") 1 rfl) de_str)) (Same.refl H1) fun H2 s2 => ?_))
      rw [if_neg (by decide +kernel)]
      refine wss_one (ws_if (BT.go (bt_cmp (ce_eqs (de_var (d := .str "drop") 1 rfl) de_str)) (Same.refl H2) fun H3 s3 => ?_))
      rw [if_neg (by decide +kernel)]
      refine wss_one (ws_if (BT.go (bt_cmp (ce_eqs (de_var (d := .str "drop") 1 rfl) de_str)) (Same.refl H3) fun H4 s4 => ?_))
      rw [if_pos (by decide +kernel)]
      refine wss_one (ws_set 4 sc_l_do.nd (we_meth (ok_Keeper_drop T) hr (ve_var 0) ((((s1.trans s2).trans s3).trans s4) _ _ hins) T.clKeeper T.me_Keeper_drop rfl hx (aav_cons (P := fun u _ => u = va) mono_eq (ve_var 2) (aa_one (P := fun u _ => u = vb) (ve_var 3))) fun vs H8 s8 ⟨w1, q1, e1, e2, w3, e3, e4⟩ => ?_))
      subst e1 e2 e3 e4
      exact hm H8 _ _ ((((s1.trans s2).trans s3).trans s4).trans s8) (fun v H' hq => fin v H' hq) fun x hxx H' hq => ⟨x, hxx, rfl, rfl, hq⟩
    · -- answers
      subst ew
      refine wss_one (ws_if (BT.go (bt_cmp (ce_eqs (de_var (d := .str "answers") 1 rfl) de_str)) (Same.refl H) fun H1 s1 => ?_))
      rw [if_neg (by decide +kernel)]
      refine wss_one (ws_if (BT.go (bt_cmp (ce_eqs (de_var (d := .str "answers") 1 rfl) de_str)) (Same.refl H1) fun H2 s2 => ?_))
      rw [if_neg (by decide +kernel)]
      refine wss_one (ws_if (BT.go (bt_cmp (ce_eqs (de_var (d := .str "answers") 1 rfl) de_str)) (Same.refl H2) fun H3 s3 => ?_))
      rw [if_neg (by decide +kernel)]
      refine wss_one (ws_if (BT.go (bt_cmp (ce_eqs (de_var (d := .str "answers") 1 rfl) de_str)) (Same.refl H3) fun H4 s4 => ?_))
      rw [if_neg (by decide +kernel)]
      refine wss_one (ws_if (BT.go (bt_cmp (ce_eqs (de_var (d := .str "answers") 1 rfl) de_str)) (Same.refl H4) fun H5 s5 => ?_))
      rw [if_pos (by decide +kernel)]
      refine wss_one (ws_set 4 sc_l_do.nd (we_meth (ok_Keeper_answers T |>.mono (by decide)) hr (ve_var 0) (((((s1.trans s2).trans s3).trans s4).trans s5) _ _ hins) T.clKeeper T.me_Keeper_answers rfl hx (aa_one (P := fun u _ => u = va) (ve_var 2)) fun vs H8 s8 ⟨w1, e1, e2⟩ => ?_))
      subst e1 e2
      exact hm H8 _ _ (((((s1.trans s2).trans s3).trans s4).trans s5).trans s8) (fun v H' hq => fin v H' hq) fun x hxx H' hq => ⟨x, hxx, rfl, rfl, hq⟩
    · -- ways
      subst ew
      refine wss_one (ws_if (BT.go (bt_cmp (ce_eqs (de_var (d := .str "ways") 1 rfl) de_str)) (Same.refl H) fun H1 s1 => ?_))
      rw [if_neg (by decide +kernel)]
      refine wss_one (ws_if (BT.go (bt_cmp (ce_eqs (de_var (d := .str "ways") 1 rfl) de_str)) (Same.refl H1) fun H2 s2 => ?_))
      rw [if_neg (by decide +kernel)]
      refine wss_one (ws_if (BT.go (bt_cmp (ce_eqs (de_var (d := .str "ways") 1 rfl) de_str)) (Same.refl H2) fun H3 s3 => ?_))
      rw [if_neg (by decide +kernel)]
      refine wss_one (ws_if (BT.go (bt_cmp (ce_eqs (de_var (d := .str "ways") 1 rfl) de_str)) (Same.refl H3) fun H4 s4 => ?_))
      rw [if_neg (by decide +kernel)]
      refine wss_one (ws_if (BT.go (bt_cmp (ce_eqs (de_var (d := .str "ways") 1 rfl) de_str)) (Same.refl H4) fun H5 s5 => ?_))
      rw [if_neg (by decide +kernel)]
      refine wss_one (ws_set 4 sc_l_do.nd (we_meth (ok_Keeper_ways T |>.mono (by decide)) hr (ve_var 0) (((((s1.trans s2).trans s3).trans s4).trans s5) _ _ hins) T.clKeeper T.me_Keeper_ways rfl hx (aav_cons (P := fun u _ => u = va) mono_eq (ve_var 2) (aa_one (P := fun u _ => u = vb) (ve_var 3))) fun vs H8 s8 ⟨w1, q1, e1, e2, w3, e3, e4⟩ => ?_))
      subst e1 e2 e3 e4
      exact hm H8 _ _ (((((s1.trans s2).trans s3).trans s4).trans s5).trans s8) (fun v H' hq => fin v H' hq) fun x hxx H' hq => ⟨x, hxx, rfl, rfl, hq⟩
end
end J
/-! The keeper's properties; the law's changes. -/
namespace J
open PySem PySem.Spec PyProof.Rows L2
section
variable {P : Program} {w : World} {K : PySem.W.Frag} {mg : Str → Option Value} {base : Heap}
/-- what K holds of a property and of its getter -/
theorem PrD.facts {d : PrD} (e : prW K d = d.val) (c : d.ok K = true) : PropOf K (He.ga K d.cls) d.name (pAd K d.cls d.name) (gAd K d.cls d.name) ∧ ∃ fd, FunD K d.name d.qual d.params d.body d.scope [] [] (gAd K d.cls d.name) fd := by
  unfold PrD.ok at c
  obtain ⟨c1, c⟩ := Bool.and_eq_true_iff.mp c
  obtain ⟨c2, c⟩ := Bool.and_eq_true_iff.mp c
  obtain ⟨c3, c⟩ := Bool.and_eq_true_iff.mp c
  obtain ⟨c4, c⟩ := Bool.and_eq_true_iff.mp c
  obtain ⟨c5, c6⟩ := Bool.and_eq_true_iff.mp c
  have hrec : ∃ rest, PySem.W.recIn K (pAd K d.cls d.name) "property" = some (.ref (gAd K d.cls d.name) :: rest) := by
    unfold gAd
    split at c4
    · rename_i g rest hq
      rw [hq]
      exact ⟨rest, rfl⟩
    · cases c4
  refine ⟨⟨He.eqO_ok c1, He.eqO_ok c2, of_decide_eq_true c3, hrec⟩, ?_⟩
  unfold prW at e
  cases hq : K.lookup (gAd K d.cls d.name) with
  | none => rw [hq] at c6; cases c6
  | some ob =>
    obtain ⟨oc, od, data, sl⟩ := ob
    rw [hq] at c6 e
    cases data with
    | func fd =>
      obtain ⟨m1, m2, m3, m4, m5, m6, m7, m8, m9, m10, m11, m12, m13, m14, m15⟩ := fd
      have e2 : (some (m1, m2, m3, m4, m5, m6, m7, m15) : He.FnW) = some (d.name, d.qual, d.params, .stmts d.body, d.scope, mainGlobals, [], builtinsNs) := e
      injection e2 with e2
      injection e2 with f1 e2
      injection e2 with f2 e2
      injection e2 with f3 e2
      injection e2 with f4 e2
      injection e2 with f5 e2
      injection e2 with f6 e2
      injection e2 with f7 f8
      subst f1 f2 f3 f4 f5 f6 f7 f8
      obtain ⟨g1, g2⟩ := Bool.and_eq_true_iff.mp (show (PySem.W.codeIn K m13 d.qual && (He.dflB K m8 [] && He.kwdB K m9 [])) = true from c6)
      obtain ⟨g3, g4⟩ := Bool.and_eq_true_iff.mp g2
      exact ⟨_, ⟨⟨oc, od, m8, m9, m10, m11, m12, m13, m14, sl, rfl, hq, g1, He.dflB_ok g3, He.kwdB_ok g4⟩, c5⟩⟩
    | _ => cases c6
theorem Tx.prop (T : Tx K mg) (i : Nat) {d : PrD} (h : prs[i]? = some d) : PropOf K (He.ga K d.cls) d.name (pAd K d.cls d.name) (gAd K d.cls d.name) ∧ ∃ fd, FunD K d.name d.qual d.params d.body d.scope [] [] (gAd K d.cls d.name) fd := by
  have e := T.pr
  have e2 : (prs.map fun d => prW K d)[i]? = (prs.map PrD.val)[i]? := by rw [e]
  rw [List.getElem?_map, List.getElem?_map, h] at e2
  have hx := T.xb
  unfold J.xb at hx
  exact PrD.facts (Option.some.inj e2) (List.all_eq_true.mp (Bool.and_eq_true_iff.mp hx).1 d (List.mem_of_getElem? h))
/-- e.f, a property of the keeper -/
theorem ee_prop {X : Cx} {o : Expr} {σ : L2.St} {H : Hp} {pos : Pos} {a p g C dx : Addr} {fs : List (Str × V)} {f : Str} {k : Nat} {sp : Sp} {Pv : V → Hp → Prop} (hp : PropOf X.K C f p g) (c : Cls X.K C) (O : OkF X.prog X.w X.K X.mg X.base (L2.CX X.prog X.w) k g ["self"] sp) (hr : Room (k + 1) X.A) (ho : VE X o σ H (.ref a)) (ha : H a = some (.ins C dx fs))
    (h : ∀ H2 Q, Same H H2 → (∀ v H3, Same H2 H3 → Pv v H3 → Q v H3) → sp [.ref a] H2 Q E0) (hab : attributeBase o f X.env (eval o X.env) = eval o X.env := by rfl) : EE X (.Attribute o f pos) σ H Pv := fun H1 s => by
  obtain ⟨fd, F, b, kp⟩ := O
  exact we_of (pe_prop pe_we c hp F hr b .nil (passL (X := X.nox)) hab) (ho.go s fun x H2 s2 e => by
    subst e
    exact ⟨a, dx, fs, rfl, (s.trans s2) _ _ ha, h H2 _ (s.trans s2) fun v H3 s3 z => ⟨s2.trans s3, z⟩⟩)
def catPS (K : PySem.W.Frag) : Sp := fun vs H Q _ => ∃ (ka : Addr) (M : List Addr) (st : KSt), vs = [.ref ka] ∧ KAt K H ka M st ∧ ∀ v H', Same H H' → Rep H' (eCat st.cat) v → Q v H'
def namesPS (K : PySem.W.Frag) : Sp := fun vs H Q _ => ∃ (ka : Addr) (M : List Addr) (st : KSt), vs = [.ref ka] ∧ KAt K H ka M st ∧ ∀ v H', Same H H' → Rep H' (eStrs (srtS (kNames st))) v → Q v H'
theorem ok_catP (T : Tx K mg) : OkF P w K mg base (L2.CX P w) 1 (gAd K "Keeper" "catalogue") ["self"] (catPS K) := by
  obtain ⟨_, fd, F⟩ := T.prop 0 (d := ⟨"Keeper", "catalogue", "Keeper.catalogue", defArgs s_Keeper_catalogue, defBody s_Keeper_catalogue, defScope s_Keeper_catalogue⟩) rfl
  refine ⟨fd, F.ok sc_Keeper_catalogue (fun vs H Q E ⟨_, _, _, e, _⟩ => by subst e; rfl) fun cdv A outer s H vs Q E hr ⟨ka, M, st, e, hK, q⟩ => ⟨_, pss_we, ?_⟩, F.bindsN (fun _ _ _ _ _ _ us hl => match us, hl with | [_], _ => rfl), F.kp⟩
  subst e
  obtain ⟨dx, dp, dc, ds, ll, cd, vt, pk, ck, sk, ws, kin, eM⟩ := id hK
  exact wss_one (rt_de (Same.refl H) (ve_de (ve_fld (ve_var 0) kin.ins T.clKeeper T.no_Keeper_tables rfl) kin.tab) q)
theorem ok_namesP (T : Tx K mg) : OkF P w K mg base (L2.CX P w) 1 (gAd K "Keeper" "names") ["self"] (namesPS K) := by
  obtain ⟨_, fd, F⟩ := T.prop 1 (d := ⟨"Keeper", "names", "Keeper.names", defArgs s_Keeper_names, defBody s_Keeper_names, defScope s_Keeper_names⟩) rfl
  refine ⟨fd, F.ok sc_Keeper_names (fun vs H Q E ⟨_, _, _, e, _⟩ => by subst e; rfl) fun cdv A outer s H vs Q E hr ⟨ka, M, st, e, hK, q⟩ => ⟨_, pss_we, ?_⟩, F.bindsN (fun _ _ _ _ _ _ us hl => match us, hl with | [_], _ => rfl), F.kp⟩
  subst e
  obtain ⟨dx, dp, dc, ds, ll, cd, vt, pk, ck, sk, ws, kin, eM⟩ := id hK
  exact wss_one (rt_de (Same.refl H) (de_tuple T.b_tuple (LE.lv (le_srtK rfl T.b_sorted (ve_fld (ve_var 0) kin.ins T.clKeeper T.no_Keeper_patterns rfl) kin.hp (ks := kNames st) (by rw [kin.kp]; unfold kNames; rw [List.map_map]; rfl) (by have := kin.few; unfold kNames; rw [List.length_map]; omega)))) q)
end
end J
/-! The law's changes; its record against the keeper. -/
namespace J
open PySem PySem.Spec PyProof.Rows L2
/-- the law's dict of what stands -/
structure StandAt (H : Hp) (sd : Addr) (pats : List (Str × Pat)) : Prop where
  ex : ∃ kvs, H sd = some (.dK kvs) ∧ NamedBy pats kvs ∧ ∀ x p, look pats x = some p → ∃ v, valV kvs (.inr x) = some v ∧ Rep H (ePat p) v
  few : pats.length ≤ 3
  nd : (pats.map (·.1)).Nodup
theorem StandAt.mono {H H' : Hp} {sd : Addr} {pats : List (Str × Pat)} (h : StandAt H sd pats) (s : Same H H') : StandAt H' sd pats :=
  let ⟨kvs, h1, h2, h3⟩ := h.ex
  ⟨⟨kvs, s _ _ h1, h2, fun x p e => let ⟨v, z1, z2⟩ := h3 x p e; ⟨v, z1, z2.mono (.of s)⟩⟩, h.few, h.nd⟩
theorem StandAt.off {H H' : Hp} {sd : Addr} {pats : List (Str × Pat)} {M : List Addr} (h : StandAt H sd pats) (b : SameB M H H') (k : Kp H H') (n : sd ∉ M) : StandAt H' sd pats :=
  let ⟨kvs, h1, h2, h3⟩ := h.ex
  ⟨⟨kvs, b _ _ h1 n, h2, fun x p e => let ⟨v, z1, z2⟩ := h3 x p e; ⟨v, z1, z2.mono k⟩⟩, h.few, h.nd⟩
theorem StandAt.names {H : Hp} {sd : Addr} {pats : List (Str × Pat)} (h : StandAt H sd pats) : (srtS (pats.map (·.1))).length ≤ 3 := by
  rw [(srtS_perm _).length_eq, List.length_map]
  exact h.few
section
variable {P : Program} {w : World} {K : PySem.W.Frag} {mg : Str → Option Value} {base : Heap}
/-- sorted(standing) -/
theorem le_names {X : Cx} {e : Expr} {σ : L2.St} {H : Hp} {p pos : Pos} {sd : Addr} {pats : List (Str × Pat)} (hc : X.calm = true) (hm : X.mg "sorted" = none) (ha : VE X e σ H (.ref sd)) (h : StandAt H sd pats) (hg : Gl X "sorted" := by rfl) (hs : starEach [e] X.env = (false, eval e X.env) :: starEach [] X.env := by rfl)
    (hpl : (backTo pos (starEach [] X.env)).any (·.1) = false := by rfl) : LE X (.Call (.Name "sorted" p) [e] [] pos) σ H ((srtS (pats.map (·.1))).map .str) := by
  obtain ⟨kvs, h1, h2, _⟩ := h.ex
  exact le_srtK hc hm ha h1 (ks := pats.map (·.1)) (by rw [h2, List.map_map]; rfl) (by rw [List.length_map]; have := h.few; omega) hg hs
/-- standing[name] -/
theorem de_stand {X : Cx} {o i : Expr} {σ : L2.St} {H : Hp} {pos : Pos} {sd : Addr} {pats : List (Str × Pat)} {x : Str} {p : Pat} (hu : X.A.units + 1 < cLine) (ho : VE X o σ H (.ref sd)) (h : StandAt H sd pats) (hi : DE X i σ H (.str x)) (hp : look pats x = some p) (hs : NoSl i := by intro _ _; rfl) : DE X (.Subscript o i pos) σ H (ePat p) := by
  obtain ⟨kvs, h1, h2, h3⟩ := h.ex
  obtain ⟨v, z1, z2⟩ := h3 x p hp
  exact ve_de (ve_dgetK hu ho (.inl h1) (ve_str hi) z1 hs) z2
def changesL : Sp := fun vs H Q _ => ∃ (vc vf : V) (sd : Addr) (m : Nat) (c c1 : Cat) (pats : List (Str × Pat)), vs = [vc, vf, .ref sd] ∧ Rep H (eCat c) vc ∧ Rep H (eCat c1) vf ∧ GCat m c ∧ GCat m c1 ∧ m ≤ 60 ∧ StandAt H sd pats ∧ (∀ y p, look pats y = some p → GPat c p ∧ GPat c1 p) ∧ ∀ v H', Same H H' → Rep H' (.tuple (chgD c c1 pats)) v → Q v H'
theorem ok_l_changes (T : Tx K mg) : OkF P w K mg base (L2.CX P w) 6 (He.fAd K ("_law_changes", none)) ["_law_catalogue_here", "_law_fresh", "_law_standing"] changesL := by
  refine mk_l_changes T (fun vs H Q E ⟨_, _, _, _, _, _, _, e, _⟩ => by subst e; rfl) (fun cdv A outer s H vs Q E hr ⟨vc, vf, sd, m, c, c1, pats, e, rc, rf, hg, hg1, hm, hst, hp, q⟩ => ?_)
  subst e
  have hu := hu_of hr
  have hN3 := hst.names
  refine wss_cons (ws_set 3 sc_l_changes.nd (LE.go (le_lst aa_nil (by decide)) (Same.refl H) fun lf ys H1 s1 hnf hlf rl1 => ?_))
  obtain rfl : ys = [] := rl1
  refine wss_cons (ws_forN (ds := (srtS (pats.map (·.1))).map .str) (passes_of rfl) rfl (le_names rfl T.b_sorted (ve_var 2) (hst.mono s1)) (pg_name (i := 4) sc_l_changes.nd rfl (.inl rfl))
    (fun H2 i σ' H' => ∃ (o4 o5 o6 o7 o8 : Option V) (acc : List V), σ' = [some vc, some vf, some (.ref sd), some (.ref lf), o4, o5, o6, o7, o8, none] ∧ Same H1 H2 ∧ SameB [lf] H2 H' ∧ H' lf = some (.lst acc) ∧ acc.length ≤ i ∧ RepL H' (tellAll ((srtS (pats.map (·.1))).take i) fun y => (gainL c c1 (patOf pats y), gainL c1 c (patOf pats y))) acc)
    (fun H2 s2 => ⟨none, none, none, none, none, [], rfl, s2, .refl _ _, s2 _ _ hlf, Nat.le_refl _, by rw [List.take_zero]; rfl⟩) (fun H2 i σ' H' ⟨_, _, _, _, _, acc, _, s2, b, _⟩ => ⟨kp1 b (s2 _ _ hlf) rfl, fun l xs h1 h2 => b l _ h2 fun hm => by rw [List.mem_singleton.mp hm, hlf] at h1; cases h1⟩) ?_ ?_)
  · rintro H2 i d v σ' H' s2 hd rd ⟨o4, o5, o6, o7, o8, acc, eσ, s12, b, h1, h2, h3⟩
    subst eσ
    obtain ⟨y, hyi, e⟩ := map_at hd
    subst e
    have hym := List.mem_of_getElem? hyi
    have hi : i < 3 := Nat.lt_of_lt_of_le (List.getElem?_eq_some_iff.mp hyi).1 hN3
    obtain ⟨p, hpl⟩ := look_some (pats := pats) ((srtS_perm _).mem_iff.mp hym)
    obtain ⟨gp, gp1⟩ := hp y p hpl
    have epo : patOf pats y = p := by unfold patOf; rw [hpl]; rfl
    have ok := patOk_of hg (by omega) gp
    have ok1 := patOk_of hg1 (by omega) gp1
    have hln : lf ∉ [sd] := fun hm => by
      obtain ⟨kvs, z, _⟩ := (hst.mono s1).ex
      rw [← List.mem_singleton.mp hm, hlf] at z
      cases z
    have kp : Kp H1 H' := (Kp.of s12).trans (kp1 b (s12 _ _ hlf) rfl)
    have hst' : StandAt H' sd pats := (hst.mono s1).off ((SameB.of s12).trans b) kp fun hm => hln (by rw [List.mem_singleton.mp hm]; exact List.mem_cons_self)
    have rc' := (rc.mono (.of s1)).mono kp
    have rf' := (rf.mono (.of s1)).mono kp
    have hal : ∀ (c : Cat), PatOk c p → (ansL c p).length ≤ 1000 := fun c ok => by
      have h1 : (ansL c p).Nodup := (ans_sasc c p).nodup
      have h2 := grow_len (n := p.head.length) (rs := ansL c p) (fun r hr => by
        obtain ⟨t, ht, e⟩ := List.mem_map.mp (cnt_pos.mp (mem_ans.mp hr))
        rw [← e]
        exact proj_grow ok (joined_dig t ht)) h1 ok.hlen
      omega
    refine wss_cons (ws_de (d := eRows (ansL c p)) 5 sc_l_changes.nd (de_call (ok_l_answers T) hr T.gl_answers passL (aa_cons (de_var 0 rc') (aa_cons (de_stand hu (ve_var 2) hst' (de_var 4 rd) hpl) aa_nil)) ⟨m, c, p, hg, hm, gp, rfl, rfl⟩) fun v5 H5 s5 r5 => ?_)
    refine wss_cons (ws_de (d := eRows (ansL c1 p)) 6 sc_l_changes.nd (de_call (ok_l_answers T) hr T.gl_answers passL (aa_cons (de_var 1 (rf'.mono (.of s5))) (aa_cons (de_stand hu (ve_var 2) (hst'.mono s5) (de_var 4 (rd.mono (.of s5))) hpl) aa_nil)) ⟨m, c1, p, hg1, hm, gp1, rfl, rfl⟩) fun v6 H6 s6 r6 => ?_)
    have r56 := r5.mono (.of s6)
    refine wss_cons (ws_de (d := eRows (gainL c c1 p)) 7 sc_l_changes.nd (de_tuple T.b_tuple (LE.lv (le_cU n_l_changes (defScope s_l_changes) 9 (ansL c1 p) eRow (fun a => !decide (a ∈ ansL c p)) eRow rfl sc_l_changes.nd (DE.ue (de_var 6 r6)) (by have := hal c1 ok1; omega) fun a u H7 ha s7 ru => ?_))) fun v7 H7 s7 r7 => ?_)
    · intro s8 H8 C cl fp
      exact ⟨bt_cmp (ce_ninR (hu65 hr) (de_var 9 ru) (DE.ue (de_var (d := eRows (ansL c p)) 5 (r56.mono (.of s7))))), fun _ => de_var 9 ru⟩
    have r57 := r56.mono (.of s7)
    have r67 := r6.mono (.of s7)
    refine wss_cons (ws_de (d := eRows (gainL c1 c p)) 8 sc_l_changes.nd (de_tuple T.b_tuple (LE.lv (le_cU n_l_changes (defScope s_l_changes) 9 (ansL c p) eRow (fun a => !decide (a ∈ ansL c1 p)) eRow rfl sc_l_changes.nd (DE.ue (de_var 5 r57)) (by have := hal c ok; omega) fun a u H8 ha s8 ru => ?_))) fun v8 H8 s8 r8 => ?_)
    · intro s9 H9 C cl fp
      exact ⟨bt_cmp (ce_ninR (hu65 hr) (de_var 9 ru) (DE.ue (de_var (d := eRows (ansL c1 p)) 6 (r67.mono (.of s8))))), fun _ => de_var 9 ru⟩
    have sA := ((s5.trans s6).trans s7).trans s8
    have r78 := r7.mono (.of s8)
    have rd8 := rd.mono (.of sA)
    have h18 := sA _ _ h1
    have h38 := h3.mono (.of sA)
    have etk : (srtS (pats.map (·.1))).take (i + 1) = (srtS (pats.map (·.1))).take i ++ [y] := by rw [List.take_add_one, hyi]; rfl
    refine wss_one (ws_if (BT.go (bt_cmp (ce_gt (de_add (de_len T.b_len (DE.qe (de_var 7 r78))) (de_len T.b_len (DE.qe (de_var 8 r8)))) de_int)) (Same.refl H8) fun H9 s9 => ?_))
    rw [List.length_map, List.length_map]
    by_cases hp0 : 0 < (gainL c c1 p).length + (gainL c1 c p).length
    · rw [decide_eq_true (by omega), if_pos rfl]
      refine wss_one (ws_app (ve_var 3) (s9 _ _ h18) (by omega) (DE.is (d2 := tellD y (gainL c c1 p, gainL c1 c p)) (de_tup (aa_cons (de_var (d := .str y) 4 rd) (aa_cons (de_var 7 (r78.mono (.of s9))) (aa_cons (de_var 8 (r8.mono (.of s9))) aa_nil))) rfl (by show 3 ≤ 100000; decide)) rfl) fun v10 H10 s10 r10 => ?_)
      have ku : Kp H10 (L2.upd H10 lf (.lst (acc ++ [v10]))) := .upd (s10 _ _ (s9 _ _ h18)) rfl
      refine ⟨_, _, _, _, _, acc ++ [v10], rfl, s12, (b.trans (.of (sA.trans (s9.trans s10)))).trans (.upd (by simp)), upd_same, by rw [List.length_append]; show _ + 1 ≤ _; omega, ?_⟩
      rw [etk, tell_snoc fun z _ => rfl, epo, if_pos hp0]
      exact (h38.mono ((Kp.of (s9.trans s10)).trans ku)).snoc (r10.mono ku)
    · rw [decide_eq_false (by omega), if_neg (by decide)]
      refine wss_nil ⟨_, _, _, _, _, acc, rfl, s12, b.trans (.of (sA.trans s9)), s9 _ _ h18, by omega, ?_⟩
      rw [etk, tell_snoc fun z _ => rfl, epo, if_neg hp0, List.append_nil]
      exact h38.mono (.of s9)
  · rintro H2 σ' H' s2 ⟨o4, o5, o6, o7, o8, acc, eσ, s12, b, h1, h2, h3⟩
    subst eσ
    rw [List.length_map, List.take_length] at h3
    have sE : Same H H' := same_out (s1.trans s12) b fun a ha => by rw [List.mem_singleton.mp ha]; exact hnf
    exact wss_one (rt_de sE (de_tuple T.b_tuple (ve_lv (ve_var 3) (SqL.of h1) h3)) q)
end
end J
/-! The law's record and the keeper: same. -/
namespace J
open PySem PySem.Spec PyProof.Rows L2
theorem okW_str : ∀ x ∈ okW, PyData.strOk x = true := by decide +kernel
theorem shp_cat {m : Nat} {c : Cat} (hg : GCat m c) : Shp 5 (eCat c) := shp_map fun t ht => shp_tup fun d hd => by
  simp only [List.mem_cons, List.not_mem_nil, or_false] at hd
  rcases hd with e | e | e <;> subst e
  · exact shp_str _ (okW_str _ (ok_tab (hg.nm t ht)))
  · exact shp_int _ _
  · exact (shp_rows 1 t.rows)
theorem shp_pats {ys : List Str} (h : ∀ y ∈ ys, y ∈ patNames) : Shp 5 (eStrs ys) := (shp_map (n := 4) fun y hy => shp_str _ (okW_str _ (ok_pat (h y hy))))
/-- the law's record -/
structure RecAt (H : Hp) (sa sd ll : Addr) (c : Cat) (pats : List (Str × Pat)) (n : Nat) : Prop where
  ex : ∃ kvs vc ws, H sa = some (.dK kvs) ∧ valV kvs (.inr "standing") = some (.ref sd) ∧ valV kvs (.inr "catalogue") = some vc ∧ valV kvs (.inr "lines") = some (.ref ll) ∧ kvs.length ≤ 10 ∧ H ll = some (.lst ws) ∧ ws.length ≤ n ∧ Rep H (eCat c) vc
  st : StandAt H sd pats
  ne : sa ≠ sd
theorem RecAt.mono {H H' : Hp} {sa sd ll : Addr} {c : Cat} {pats : List (Str × Pat)} {n : Nat} (h : RecAt H sa sd ll c pats n) (s : Same H H') : RecAt H' sa sd ll c pats n :=
  let ⟨kvs, vc, ws, h1, h2, h3, h4, h5, h6, h7, h8⟩ := h.ex
  ⟨⟨kvs, vc, ws, s _ _ h1, h2, h3, h4, h5, s _ _ h6, h7, h8.mono (.of s)⟩, h.st.mono s, h.ne⟩
theorem RecAt.off {H H' : Hp} {sa sd ll : Addr} {c : Cat} {pats : List (Str × Pat)} {n : Nat} {M : List Addr} (h : RecAt H sa sd ll c pats n) (b : SameB M H H') (k : Kp H H') (n1 : sa ∉ M) (n2 : sd ∉ M) (n3 : ll ∉ M) : RecAt H' sa sd ll c pats n :=
  let ⟨kvs, vc, ws, h1, h2, h3, h4, h5, h6, h7, h8⟩ := h.ex
  ⟨⟨kvs, vc, ws, b _ _ h1 n1, h2, h3, h4, h5, b _ _ h6 n3, h7, h8.mono k⟩, h.st.off b k n2, h.ne⟩
/-- what the law keeps of its patterns -/
structure PatsOk (c : Cat) (pats : List (Str × Pat)) : Prop where
  gp : ∀ y p, look pats y = some p → GPat c p
  pn : ∀ q ∈ pats, q.1 ∈ patNames
section
variable {P : Program} {w : World} {K : PySem.W.Frag} {mg : Str → Option Value} {base : Heap}
def sameS (K : PySem.W.Frag) : Sp := fun vs H Q _ => ∃ (ka sa sd ll : Addr) (M : List Addr) (st : KSt) (c : Cat) (pats : List (Str × Pat)) (n m k : Nat), vs = [.ref ka, .ref sa] ∧ KAt K H ka M st ∧ KLaw c pats n st ∧ RecAt H sa sd ll c pats k ∧ GCat m c ∧ m ≤ 60 ∧ PatsOk c pats ∧ ∀ H', Same H H' → Q (.bl true) H'
theorem ok_l_same (T : Tx K mg) : OkF P w K mg base (L2.CX P w) 12 (He.fAd K ("_law_same", none)) ["_law_keeper", "_law_state"] (sameS K) := by
  refine mk_l_same T (fun vs H Q E ⟨_, _, _, _, _, _, _, _, _, _, _, e, _⟩ => by subst e; rfl) (fun cdv A outer s H vs Q E hr ⟨ka, sa, sd, ll, M, st, c, pats, n, m, k, e, hK, kl, hrec, hg, hm, hp, q⟩ => ?_)
  subst e
  have hu := hu_of hr
  obtain ⟨kvs, vc, wl, r1, r2, r3, r4, r5, r6, r7, r8⟩ := hrec.ex
  have hst := hrec.st
  have hN3 := hst.names
  have hpn : ∀ y ∈ srtS (pats.map (·.1)), y ∈ patNames := fun y hy => by
    obtain ⟨q0, h1, h2⟩ := List.mem_map.mp ((srtS_perm _).mem_iff.mp hy)
    rw [← h2]; exact hp.pn q0 h1
  obtain ⟨dx, vt, dp, dc, ds, lk, hins⟩ := hK.ins
  refine wss_cons (ws_set 2 sc_l_same.nd (EE.go (ve_dgetK (k := .inr "standing") hu (ve_var 1) (.inl r1) (ve_str de_str) r2) (Same.refl H) fun v1 H1 s1 e1 => ?_))
  subst e1
  refine wss_cons (ws_de (d := eCat c) 3 sc_l_same.nd (ve_de (ve_dgetK (k := .inr "catalogue") hu (ve_var 1) (.inl (s1 _ _ r1)) (ve_str de_str) r3) (r8.mono (.of s1))) fun v2 H2 s2 rc2 => ?_)
  have s12 := s1.trans s2
  have hK2 := hK.mono s12
  have hst2 := hst.mono s12
  refine wss_cons (ws_if (BT.go (bt_or (bt_cmp (ce_ned (d1 := eCat c) (d2 := eCat c) (hu64 hr) (ee_prop (T.prop 0 (d := ⟨"Keeper", "catalogue", "Keeper.catalogue", defArgs s_Keeper_catalogue, defBody s_Keeper_catalogue, defScope s_Keeper_catalogue⟩) rfl).1 T.clKeeper (ok_catP T |>.mono (by decide)) hr (ve_var 0) (s12 _ _ hins) fun H3 Q3 s3 hq => ⟨ka, M, st, rfl, hK2.mono s3, fun v H4 s4 r4 => hq v H4 s4 (by rw [kl.cat] at r4; exact r4)⟩) (de_var 3 rc2) (shp_cat hg).shaped (shp_cat hg).shaped))
    fun _ => bt_cmp (ce_ned (d1 := eStrs (srtS (pats.map (·.1)))) (d2 := eStrs (srtS (pats.map (·.1)))) (hu64 hr) (ee_prop (T.prop 1 (d := ⟨"Keeper", "names", "Keeper.names", defArgs s_Keeper_names, defBody s_Keeper_names, defScope s_Keeper_names⟩) rfl).1 T.clKeeper (ok_namesP T |>.mono (by decide)) hr (ve_var 0) (s12 _ _ hins) fun H3 Q3 s3 hq => ⟨ka, M, st, rfl, hK2.mono s3, fun v H4 s4 r4 => hq v H4 s4 (by unfold kNames at r4; rw [kl.pt] at r4; exact r4)⟩) (de_tuple T.b_tuple (LE.lv (le_names rfl T.b_sorted (ve_var 2) hst2))) (shp_pats hpn).shaped (shp_pats hpn).shaped)) (Same.refl H2) fun H3 s3 => ?_))
  rw [eqv_refl' (shp_cat hg), eqv_refl' (shp_pats hpn), if_neg (by decide)]
  have hK3 := hK2.mono s3
  have hst3 := hst2.mono s3
  have rc3 := rc2.mono (.of s3)
  refine wss_nil (wss_cons (ws_forN (ds := (srtS (pats.map (·.1))).map .str) (passes_of rfl) rfl (le_names rfl T.b_sorted (ve_var 2) hst3) (pg_name (i := 4) sc_l_same.nd rfl (.inl rfl))
    (fun H4 i σ' H' => ∃ (o4 : Option V), σ' = [some (.ref ka), some (.ref sa), some (.ref sd), some v2, o4] ∧ Same H3 H4 ∧ Same H4 H')
    (fun H4 s4 => ⟨none, rfl, s4, .refl _⟩) (fun H4 i σ' H' ⟨_, _, s4, s5⟩ => ⟨.of s5, fun l xs _ h2 => s5 _ _ h2⟩) ?_ ?_))
  · rintro H4 i d v σ' H' _ hd rd ⟨o4, eσ, s4, s5⟩
    subst eσ
    obtain ⟨y, hyi, e⟩ := map_at hd
    subst e
    have hym := List.mem_of_getElem? hyi
    obtain ⟨p, hpl⟩ := look_some (pats := pats) ((srtS_perm _).mem_iff.mp hym)
    have gp := hp.gp y p hpl
    have s45 := s4.trans s5
    have hK' := hK3.mono s45
    have hst' := hst3.mono s45
    have rc' := rc3.mono (.of s45)
    obtain ⟨dx, vt, dp, dc, ds, lk, hins'⟩ := hK'.ins
    have hpl2 : look st.pats y = some p := by rw [kl.pt]; exact hpl
    refine wss_one (ws_if (BT.go (bt_cmp (ce_ned (d1 := eRows (ansL c p)) (d2 := eRows (ansL c p)) (hu64 hr) (ee_call (ok_l_do T) hr T.gl_do passL (aav_cons (P := fun u _ => u = V.ref ka) mono_eq (ve_var 0) (aav_cons (P := fun u _ => u = V.str "answers") mono_eq de_str (aav_cons mono_rep (de_var 4 rd) (aa_one (de_tup aa_nil rfl (by decide)))))) fun vs H5 Q5 s5 ⟨w1, q1, e1, e2, w2, q2, e3, e4, w3, q3, e5, z3, w4, e6, z4⟩ hQ => ?_) (de_call (ok_l_answers T |>.mono (by decide)) hr T.gl_answers passL (aa_cons (de_var 3 rc') (aa_cons (de_stand hu (ve_var 2) hst' (de_var 4 rd) hpl) aa_nil)) ⟨m, c, p, hg, hm, gp, rfl, rfl⟩) (shp_rows 0 _).shaped (shp_rows 0 _).shaped)) (Same.refl H') fun H5 s5b => ?_))
    · subst e1 e2 e3 e4 e5 e6
      refine ⟨ka, w3, w4, "answers", rfl, ⟨dx, vt, dp, dc, ds, lk, s5 _ _ hins'⟩, .inr (.inr (.inr (.inr (.inl ⟨rfl, fun H6 Q6 E6 s6 hq6 he6 => ⟨ka, w3, M, st, y, rfl, (hK'.mono s5).mono s6, fun x p hx => (hp.gp x p (by rw [← kl.pt]; exact hx)).hlen, z3.mono (.of s6), ?_⟩⟩))))⟩
      rw [hpl2]
      refine fun v7 H7 rs s7 h1 h2 r7 => hq6 v7 H7 fun H8 s8 => hQ v7 H8 ((s6.trans s7).trans s8) ?_
      have : rs = ansL c p := sasc_uniq h1 (ans_sasc c p) fun r => by rw [h2, mem_ans, (kl.cnt y p hpl).1]
      rw [← this]
      exact r7.mono (.of s8)
    · rw [eqv_refl' (shp_rows 0 _), if_neg (by decide)]
      exact wss_nil ⟨_, rfl, s4, s5.trans s5b⟩
  · rintro H4 σ' H' _ ⟨o4, eσ, s4, s5⟩
    subst eσ
    refine wss_one (rt_de (Same.refl H') (de_bl (k := true)) fun v' H6 s6 r6 => ?_)
    cases (show v' = _ from r6)
    exact q H6 (((s12.trans s3).trans (s4.trans s5)).trans s6)
end
end J
/-! A step of the law: what holds before and after. -/
namespace J
open PySem PySem.Spec PyProof.Rows L2
structure LawAt (K : PySem.W.Frag) (H : Hp) (d l ka sa sd ll : Addr) (M : List Addr) (st : KSt) (c : Cat) (pats : List (Str × Pat)) (n m : Nat) : Prop where
  dg : DAt H d l
  kp : KAt K H ka M st
  kl : KLaw c pats n st
  rc : RecAt H sa sd ll c pats n
  gc : GCat m c
  pk : PatsOk c pats
  offM : ∀ x ∈ [d, l, sa, sd, ll], x ∉ M
  dll : d ≠ ll
  lll : l ≠ ll
theorem RecAt.kinds {H : Hp} {sa sd ll : Addr} {c : Cat} {pats : List (Str × Pat)} {n : Nat} (h : RecAt H sa sd ll c pats n) : (∃ kvs, H sa = some (.dK kvs)) ∧ (∃ kvs, H sd = some (.dK kvs)) ∧ ∃ ws, H ll = some (.lst ws) := by
  obtain ⟨kvs, vc, ws, h1, h2, h3, h4, h5, h6, _⟩ := h.ex
  obtain ⟨k2, z1, _⟩ := h.st.ex
  exact ⟨⟨_, h1⟩, ⟨_, z1⟩, _, h6⟩
theorem LawAt.mono {K : PySem.W.Frag} {H H' : Hp} {d l ka sa sd ll : Addr} {M : List Addr} {st : KSt} {c : Cat} {pats : List (Str × Pat)} {n m : Nat} (h : LawAt K H d l ka sa sd ll M st c pats n m) (s : Same H H') : LawAt K H' d l ka sa sd ll M st c pats n m :=
  ⟨h.dg.mono s, h.kp.mono s, h.kl, h.rc.mono s, h.gc, h.pk, h.offM, h.dll, h.lll⟩
/-- after a draw -/
theorem LawAt.drawn {K : PySem.W.Frag} {H H' : Hp} {d l ka sa sd ll : Addr} {M : List Addr} {st : KSt} {c : Cat} {pats : List (Str × Pat)} {n m : Nat} (h : LawAt K H d l ka sa sd ll M st c pats n m) (b : SameB [d] H H') (hd : DAt H' d l) : LawAt K H' d l ka sa sd ll M st c pats n m := by
  have k := h.dg.kp b
  obtain ⟨⟨k1, z1⟩, ⟨k2, z2⟩, _⟩ := h.rc.kinds
  obtain ⟨_, _, _, _, zd, _⟩ := id h.dg
  have nm : ∀ {x : Addr}, x ≠ d → x ∉ [d] := fun e hm => e (List.mem_singleton.mp hm)
  refine ⟨hd, h.kp.keep k fun y hy o ho => b y o ho (nm fun e => h.offM d (by simp) (by rw [← e]; exact hy)), h.kl, h.rc.off b k (nm fun e => ?_) (nm fun e => ?_) (nm (Ne.symm h.dll)), h.gc, h.pk, h.offM, h.dll, h.lll⟩
  · rw [e, zd] at z1; cases z1
  · rw [e, zd] at z2; cases z2
/-- after a deed of the keeper -/
theorem LawAt.deed {K : PySem.W.Frag} {H H' : Hp} {d l ka sa sd ll : Addr} {M M' : List Addr} {st : KSt} {c : Cat} {pats : List (Str × Pat)} {n m : Nat} (h : LawAt K H d l ka sa sd ll M st c pats n m) (b : SameB M H H') (hM : ∀ x ∈ M', x ∈ M ∨ H x = none) :
    DAt H' d l ∧ RecAt H' sa sd ll c pats n ∧ Kp H H' ∧ ∀ x ∈ [d, l, sa, sd, ll], x ∉ M' := by
  have k : Kp H H' := b.kp fun x hx => h.kp.loose x hx
  have o := h.offM
  refine ⟨h.dg.off b (o d (by simp)) (o l (by simp)), h.rc.off b k (o sa (by simp)) (o sd (by simp)) (o ll (by simp)), k, fun x hx hm => (hM x hm).elim (o x hx) fun z => ?_⟩
  obtain ⟨⟨k1, z1⟩, ⟨k2, z2⟩, ws, z3⟩ := h.rc.kinds
  obtain ⟨_, _, _, _, z4, z5, _⟩ := id h.dg
  simp only [List.mem_cons, List.not_mem_nil, or_false] at hx
  rcases hx with e | e | e | e | e <;> rw [e] at z
  · rw [z4] at z; cases z
  · rw [z5] at z; cases z
  · rw [z1] at z; cases z
  · rw [z2] at z; cases z
  · rw [z3] at z; cases z
/-- a line more -/
theorem law_line {K : PySem.W.Frag} {H : Hp} {d l ka sa sd ll : Addr} {M : List Addr} {st : KSt} {c : Cat} {pats : List (Str × Pat)} {n : Nat} {wl : List V} (v : V) (dg : DAt H d l) (kat : KAt K H ka M st) (rc : RecAt H sa sd ll c pats n) (off : ∀ x ∈ [d, l, sa, sd, ll], x ∉ M) (dll : d ≠ ll) (lll : l ≠ ll) (hl : H ll = some (.lst wl)) (hw : wl.length ≤ n) :
    DAt (upd H ll (.lst (wl ++ [v]))) d l ∧ KAt K (upd H ll (.lst (wl ++ [v]))) ka M st ∧ RecAt (upd H ll (.lst (wl ++ [v]))) sa sd ll c pats (n + 1) := by
  have k : Kp H (upd H ll (.lst (wl ++ [v]))) := .upd hl rfl
  refine ⟨dg.put ⟨Ne.symm dll, Ne.symm lll⟩, kat.keep k fun m hm o ho => ?_, ?_⟩
  · rw [upd_ne fun e => off ll (by simp) (by rw [← e]; exact hm)]
    exact ho
  · obtain ⟨kvs, vc, ws, h1, h2, h3, h4, h5, h6, h7, h8⟩ := rc.ex
    have e1 : sa ≠ ll := fun e => by rw [e, hl] at h1; cases h1
    obtain ⟨k2, z1, z2, z3⟩ := rc.st.ex
    have e2 : sd ≠ ll := fun e => by rw [e, hl] at z1; cases z1
    exact ⟨⟨kvs, vc, wl ++ [v], by rw [upd_ne e1]; exact h1, h2, h3, h4, h5, upd_same, by rw [List.length_append]; show _ + 1 ≤ _; omega, h8.mono k⟩, ⟨⟨k2, by rw [upd_ne e2]; exact z1, z2, fun x p e => let ⟨u, y1, y2⟩ := z3 x p e; ⟨u, y1, y2.mono k⟩⟩, rc.st.few, rc.st.nd⟩, rc.ne⟩
/-- a pattern more stands -/
theorem stand_put {H : Hp} {sd : Addr} {pats : List (Str × Pat)} {kvs : List (Key × V)} {x : Str} {p : Pat} {v : V} (h : StandAt H sd pats) (hk : H sd = some (.dK kvs)) (hl : look pats x = none) (hx : x ∈ patNames) (hpn : ∀ q ∈ pats, q.1 ∈ patNames) (hv : Rep H (ePat p) v) : StandAt (upd H sd (.dK (putK kvs (.inr x) v))) sd (pats ++ [(x, p)]) := by
  obtain ⟨k2, h1, h2, h3⟩ := h.ex
  rw [hk] at h1
  cases h1
  have k : Kp H (upd H sd (.dK (putK kvs (.inr x) v))) := .upd hk rfl
  have hnd : ((pats ++ [(x, p)]).map (·.1)).Nodup := by
    rw [List.map_append]
    exact List.nodup_append.mpr ⟨h.nd, List.nodup_cons.mpr ⟨nofun, List.nodup_nil⟩, fun a ha b hb e => look_none hl (by
      have hb : b = x := List.mem_singleton.mp hb
      rw [← hb, ← e]; exact ha)⟩
  refine ⟨⟨_, upd_same, named_put h2 hl, fun y q e => ?_⟩, ?_, hnd⟩
  · rw [look_snoc hl] at e
    by_cases ey : y = x
    · rw [if_pos ey] at e
      cases e
      exact ⟨v, by rw [valV_put, if_pos (by rw [ey])], hv.mono k⟩
    · rw [if_neg ey] at e
      obtain ⟨u, z1, z2⟩ := h3 y q e
      exact ⟨u, by rw [valV_put, if_neg fun e2 => ey (Sum.inr.inj e2)]; exact z1, z2.mono k⟩
  · have := List.Nodup.length_le_of_subset (l₂ := patNames) hnd fun y hy => by
      obtain ⟨q, hq, e⟩ := List.mem_map.mp hy
      rcases List.mem_append.mp hq with h | h
      · rw [← e]; exact hpn q h
      · rw [← e, List.mem_singleton.mp h]; exact hx
    rw [List.length_map] at this
    exact this
def ifBody : Stmt → List Stmt
  | .If _ b _ _ => b
  | _ => []
theorem pq_at : ∀ n, n < 3 → atI ("pqr" : Str).cps.toList ((n : Nat) : Int) = some (112 + n) ∧ (⟨#[112 + n]⟩ : Str) ∈ patNames := by decide +kernel
/-- "pqr"[a draw] -/
theorem we_name {X : Cx} {b : Expr} {pos p1 : Pos} {k : Nat} {σ : L2.St} {H : Hp} {Q : VK} (q : WE X b σ H fun v H1 => ∃ n : Nat, n < 3 ∧ v = .int (n : Int) ∧ ∀ x ∈ patNames, x.length = 1 → Q (.str x) H1) (hs : PlainIx b := by intro _ _; rfl) : WE X (.Subscript (.Constant (.str "pqr") k p1) b pos) σ H Q :=
  we_of (pe_ix ix_str pe_we pe_we hs) (we_of pe_str (q.mono fun v H1 ⟨n, hn, e, hq⟩ => ⟨"pqr", (n : Int), 112 + n, rfl, e, szl (by decide), (pq_at n hn).1, hq _ (pq_at n hn).2 rfl⟩))
end J
/-! A step: stand. -/
namespace J
open PySem PySem.Spec PyProof.Rows L2
section
variable {P : Program} {w : World} {K : PySem.W.Frag} {mg : Str → Option Value} {base : Heap}
abbrev XS (P : Program) (w : World) (K : PySem.W.Frag) (mg : Str → Option Value) (base : Heap) (cdv : Value) (A : Around) (outer : List Env) (s : Shared) (H0 : Hp) (E : XK) : Cx := cxOf (L2.CX P w) P w K mg base n_l_step "_law_step" (defScope s_l_step) (He.fAd K ("_law_step", none)) cdv A outer s H0 E
def stepAt (i : Nat) : Stmt := (defBody s_l_step).getD i (.Pass ⟨0, 0, 0, 0⟩)
/-- what a step leaves -/
def Left (K : PySem.W.Frag) (d l ka sa ll : Addr) (n m : Nat) (R : Hp → Prop) : Prop := ∀ H' M' st' c' pats' sd' n' m', n' ≤ n + 1 → m' ≤ m + 1 → LawAt K H' d l ka sa sd' ll M' st' c' pats' n' m' → R H'
theorem step_stand (T : Tx K mg) {cdv : Value} {A : Around} {outer : List Env} {s : Shared} {H0 H : Hp} {E : XK} {D : Ends} {d l ka sa sd ll : Addr} {M : List Addr} {st : KSt} {c : Cat} {pats : List (Str × Pat)} {n m : Nat} {vc vm : V}
    (hr : Room 12 (A.deeper (envOfC "_law_step" (defScope s_l_step) s.heap.objs.size (He.fAd K ("_law_step", none)) cdv))) (h : LawAt K H d l ka sa sd ll M st c pats n m) (hn : n ≤ 800) (hm : m ≤ 40) (rc : Rep H (eCat c) vc) (hq : Left K d l ka sa ll n m fun H' => D.rt (.bl true) H') :
    WSs (XS P w K mg base cdv A outer s H0 E) (ifBody (stepAt 4)) D [some (.ref d), some (.ref ka), some (.ref sa), some (.ref sd), some vc, some (.ref ll), some vm, none, none, none, none, none, none, none, none, none, none, none, none, none] H := by
  have hu := hu_of hr
  refine wss_cons (ws_set 7 sc_l_step.nd (we_name (we_take (ok_l_take T |>.mono (by decide)) hr T.gl_take passL (ve_var 0) (DE.is (d2 := .int ((3 : Nat) : Int)) de_int rfl) h.dg (by decide) (by decide) fun n1 H1 b1 hD1 hn1 => ⟨n1, hn1, rfl, fun x hx hx1 => ?_⟩)))
  have h1 := h.drawn b1 hD1
  have rc1 := rc.mono (h.dg.kp b1)
  refine wss_cons (ws_set 8 sc_l_step.nd (we_call (ok_l_pattern T |>.mono (by decide)) hr T.gl_pattern passL ((aav_cons (P := fun u _ => u = V.ref d) mono_eq (ve_var 0) (aav_cons mono_rep (de_var 4 rc1) (aav_cons (P := fun u _ => u = V.int 3) mono_eq (de_int (i := 3)) (aa_one (P := fun u _ => u = V.int 3) (de_int (i := 3)))))).go (Same.refl H1) fun vs H2 s2 ⟨w1, q1, e1, e2, w2, q2, e3, z3, w3, q3, e4, e5, w4, e6, e7⟩ => ?_)))
  subst e1 e2 e3 e4 e5 e6 e7
  refine ⟨d, l, w2, m, c, rfl, (h1.mono s2).dg, z3, h.gc, fun vp H3 p b3 hD3 gp rp => ?_⟩
  have h3 := (h1.mono s2).drawn b3 hD3
  have hpt := h.kl.pt
  obtain ⟨dx, vt, dp, dc, ds, lk, hins⟩ := h3.kp.ins
  have hxl : x.length ≤ 20 := by omega
  have hmem : ∀ y ∈ pats.map (·.1), y ∈ patNames := fun y hy => by
    obtain ⟨q0, h1, h2⟩ := List.mem_map.mp hy
    rw [← h2]; exact h.pk.pn q0 h1
  refine wss_cons (ws_set 9 sc_l_step.nd (we_call (ok_l_do T |>.mono (by decide)) hr T.gl_do passL ((aav_cons (P := fun u _ => u = V.ref ka) mono_eq (ve_var 1) (aav_cons (P := fun u _ => u = V.str "stand") mono_eq de_str (aav_cons mono_rep (de_var (d := .str x) 7 rfl) (aa_one (de_var 8 rp))))).go (Same.refl H3) fun vs H4 s4 ⟨w1, q1, e1, e2, w2, q2, e3, e4, w3, q3, e5, z3, w4, e6, z4⟩ => ?_)))
  subst e1 e2 e3 e4 e5 e6
  have h4 := h3.mono s4
  refine ⟨ka, w3, w4, "stand", rfl, ⟨dx, vt, dp, dc, ds, lk, s4 _ _ hins⟩, .inl ⟨rfl, fun H5 Q5 E5 s5 hq5 he5 => ⟨ka, w3, w4, M, st, x, p, m, rfl, h4.kp.mono s5, z3.mono (.of s5), z4.mono (.of s5), hx, by rw [h.kl.cat]; exact h.gc, by omega, by rw [h.kl.cat]; exact gp, by rw [h.kl.num]; omega, by rw [hpt]; exact h.pk.pn, ?_⟩⟩⟩
  rw [hpt]
  have h5 := h4.mono s5
  cases hl : look pats x with
  | some p0 =>
    refine fun H6 s6 => he5 "StandingError" (by decide +kernel) H6 fun H7 s7 => ?_
    rw [told_s]
    have h7 := (h5.mono s6).mono s7
    obtain ⟨kvs, k1, k2, k3⟩ := h7.rc.st.ex
    refine wss_cons (ws_if (BT.go (bt_cmp (ce_dinK (k := .inr x) hu (ve_str (de_var (d := .str x) 7 rfl)) (ve_var 3) (.inl k1))) (Same.refl H7) fun H8 s8 => ?_))
    rw [valV_named k2, hl, Option.isSome_some, if_pos rfl]
    refine wss_one (rt_de (Same.refl H8) (de_cmp (ce_eqs (de_var (d := .str "standing") 9 rfl) de_str)) fun v' H9 s9 r9 => ?_)
    cases (show v' = _ from r9)
    exact hq H9 M st c pats sd n m (by omega) (by omega) ((h7.mono s8).mono s9)
  | none =>
    refine fun H6 M' b6 hM' kat => hq5 _ H6 fun H7 s7 => ?_
    obtain ⟨dg6, rc6, kp6, off6⟩ := h5.deed b6 hM'
    have dg7 := dg6.mono s7
    have rc7 := rc6.mono s7
    have kat7 := kat.mono s7
    have rp7 : Rep H7 (ePat p) vp := (((rp.mono (.of s4)).mono (.of s5)).mono kp6).mono (.of s7)
    obtain ⟨kvs, k1, k2, k3⟩ := rc7.st.ex
    have hkl := named_len k2
    have hfew := rc7.st.few
    refine wss_cons (ws_if (BT.go (bt_cmp (ce_dinK (k := .inr x) hu (ve_str (de_var (d := .str x) 7 rfl)) (ve_var 3) (.inl k1))) (Same.refl H7) fun H8 s8 => ?_))
    rw [valV_named k2, hl, if_neg (by decide)]
    refine wss_nil (wss_cons (ws_dputK (k := .inr x) hu mono_rep (de_var 8 (rp7.mono (.of s8))) (ve_var 3) (s8 _ _ k1) (ve_str (de_var (d := .str x) 7 rfl)) (by omega) fun v9 H9 s9 r9 => ?_))
    have s79 := s8.trans s9
    have k19 := s79 _ _ k1
    obtain ⟨_, _, wl, _, _, _, _, _, hll, hwl, _⟩ := (rc7.mono s79).ex
    have hsd : sd ≠ d ∧ sd ≠ l := by
      obtain ⟨_, _, _, _, y1, y2, _⟩ := dg7.mono s79
      exact ⟨fun e => (by rw [e, y1] at k19; cases k19), fun e => by rw [e, y2] at k19; cases k19⟩
    have hsl : sd ≠ ll := fun e => by rw [e, hll] at k19; cases k19
    have ku : Kp H9 (L2.upd H9 sd (.dK (putK kvs (.inr x) v9))) := .upd k19 rfl
    have dg10 : DAt (L2.upd H9 sd (.dK (putK kvs (.inr x) v9))) d l := (dg7.mono s79).put hsd
    have kat10 : KAt K (L2.upd H9 sd (.dK (putK kvs (.inr x) v9))) ka M' _ := (kat7.mono s79).keep ku fun y hy o ho => by
      rw [upd_ne fun e => off6 sd (by simp) (by rw [← e]; exact hy)]
      exact ho
    have rc10 : RecAt (L2.upd H9 sd (.dK (putK kvs (.inr x) v9))) sa sd ll c (pats ++ [(x, p)]) n := by
      obtain ⟨kv2, vc2, w2, y1, y2, y3, y4, y5, y6, y7, y8⟩ := (rc7.mono s79).ex
      exact ⟨⟨kv2, vc2, w2, by rw [upd_ne rc7.ne]; exact y1, y2, y3, y4, y5, by rw [upd_ne (Ne.symm hsl)]; exact y6, y7, y8.mono ku⟩, stand_put (rc7.mono s79).st k19 hl hx h.pk.pn r9, rc7.ne⟩
    have hll10 : (L2.upd H9 sd (.dK (putK kvs (.inr x) v9))) ll = some (.lst wl) := by rw [upd_ne (Ne.symm hsl)]; exact hll
    have rp10 : Rep (L2.upd H9 sd (.dK (putK kvs (.inr x) v9))) (ePat p) vp := (rp7.mono (.of s79)).mono ku
    generalize L2.upd H9 sd (.dK (putK kvs (.inr x) v9)) = H10 at *
    refine wss_cons (ws_app (ve_var 5) hll10 (by omega) (se_add (se_add (se_add (n := 10) (m := 20) (se_de (x := "stand ") de_str (by decide)) (se_de (de_var (d := .str x) 7 rfl) hxl) (by decide)) (se_de (x := " ") (n := 10) de_str (by decide)) (by decide)) (se_call (n := 2000) (ok_write_pattern T |>.mono (by decide)) hr T.gwrite_pattern (aa_cons (de_var 8 rp10) aa_nil) ⟨c, p, gp, rfl⟩) (by decide)) fun v11 H11 s11 _ => ?_)
    obtain ⟨dg12, kat12, rc12⟩ := law_line v11 (dg10.mono s11) (kat10.mono s11) (rc10.mono s11) off6 h.dll h.lll (s11 _ _ hll10) hwl
    generalize L2.upd H11 ll (.lst (wl ++ [v11])) = H12 at *
    refine wss_one (rt_de (Same.refl H12) (de_cmp (ce_isN (ve_var 9) fun v H2 e => by rw [e])) fun v' H13 s13 r13 => ?_)
    cases (show v' = _ from r13)
    refine hq H13 M' _ c (pats ++ [(x, p)]) sd (n + 1) m (by omega) (by omega) ⟨dg12.mono s13, kat12.mono s13, ?_, rc12.mono s13, h.gc, ?_, off6, h.dll, h.lll⟩
    · refine ⟨h.kl.cat, by show (st.pats ++ [(x, p)]) = _; rw [hpt], by show st.n + 1 = _; rw [h.kl.num], fun y q e => ?_⟩
      rw [look_snoc hl] at e
      by_cases ey : y = x
      · rw [if_pos ey] at e
        cases e
        refine ⟨?_, ?_⟩
        · show (if y = x then _ else _) = _
          rw [if_pos ey, h.kl.cat]
        · show (if y = x then _ else _) = _
          rw [if_pos ey, h.kl.cat]
      · rw [if_neg ey] at e
        refine ⟨?_, ?_⟩
        · show (if y = x then _ else _) = _
          rw [if_neg ey]; exact (h.kl.cnt y q e).1
        · show (if y = x then _ else _) = _
          rw [if_neg ey]; exact (h.kl.cnt y q e).2
    · refine ⟨fun y q e => ?_, fun q hq2 => ?_⟩
      · rw [look_snoc hl] at e
        by_cases ey : y = x
        · rw [if_pos ey] at e; cases e; exact gp
        · rw [if_neg ey] at e; exact h.pk.gp y q e
      · rcases List.mem_append.mp hq2 with z | z
        · exact h.pk.pn q z
        · rw [List.mem_singleton.mp z]; exact hx
end
end J
/-! A step: fall. -/
namespace J
open PySem PySem.Spec PyProof.Rows L2
theorem look_of {pats : List (Str × Pat)} (hn : (pats.map (·.1)).Nodup) {q : Str × Pat} (h : q ∈ pats) : look pats q.1 = some q.2 := by
  obtain ⟨p, hp⟩ := look_some (List.mem_map.mpr ⟨q, h, rfl⟩)
  have hm := look_mem hp
  have : ∀ {l : List (Str × Pat)}, (l.map (·.1)).Nodup → ∀ a ∈ l, ∀ b ∈ l, a.1 = b.1 → a = b := fun {l} => by
    induction l with
    | nil => exact fun _ a ha => nomatch ha
    | cons t l ih =>
      intro hn a ha b hb e
      have h2 := List.nodup_cons.mp hn
      rcases List.mem_cons.mp ha with e1 | h1 <;> rcases List.mem_cons.mp hb with e2 | h3
      · rw [e1, e2]
      · rw [e1] at e; exact absurd (List.mem_map.mpr ⟨b, h3, e.symm⟩) h2.1
      · rw [e2] at e; exact absurd (List.mem_map.mpr ⟨a, h1, e⟩) h2.1
      · exact ih h2.2 a h1 b h3 e
  have := this hn (q.1, p) hm q h rfl
  rw [hp]
  exact congrArg some (congrArg Prod.snd this)
def without (pats : List (Str × Pat)) (x : Str) : List (Str × Pat) := pats.filter fun q => decide (q.1 ≠ x)
theorem without_snoc {pats : List (Str × Pat)} {i : Nat} {q : Str × Pat} (h : pats[i]? = some q) (x : Str) : without (pats.take (i + 1)) x = without (pats.take i) x ++ if q.1 = x then [] else [q] := by
  unfold without
  rw [List.take_add_one, h, Option.toList_some, List.filter_append, List.filter_cons]
  by_cases e : q.1 = x
  · rw [if_pos e, if_neg (by rw [decide_eq_false fun z => z e]; decide)]; rfl
  · rw [if_neg e, if_pos (decide_eq_true e)]; rfl
/-- a dict of patterns in a heap -/
def PatKv (H : Hp) (pats : List (Str × Pat)) (kvs : List (Key × V)) : Prop := NamedBy pats kvs ∧ ∀ x p, look pats x = some p → ∃ v, valV kvs (.inr x) = some v ∧ Rep H (ePat p) v
theorem PatKv.put {H : Hp} {pats : List (Str × Pat)} {kvs : List (Key × V)} {x : Str} {p : Pat} {v : V} (h : PatKv H pats kvs) (hl : look pats x = none) (hv : Rep H (ePat p) v) : PatKv H (pats ++ [(x, p)]) (putK kvs (.inr x) v) := by
  refine ⟨named_put h.1 hl, fun y q e => ?_⟩
  rw [look_snoc hl] at e
  by_cases ey : y = x
  · rw [if_pos ey] at e
    cases e
    exact ⟨v, by rw [valV_put, if_pos (by rw [ey])], hv⟩
  · rw [if_neg ey] at e
    obtain ⟨u, z1, z2⟩ := h.2 y q e
    exact ⟨u, by rw [valV_put, if_neg fun e2 => ey (Sum.inr.inj e2)]; exact z1, z2⟩
theorem PatKv.kp {H H' : Hp} {pats : List (Str × Pat)} {kvs : List (Key × V)} (h : PatKv H pats kvs) (k : Kp H H') : PatKv H' pats kvs := ⟨h.1, fun x p e => let ⟨v, z1, z2⟩ := h.2 x p e; ⟨v, z1, z2.mono k⟩⟩
section
variable {P : Program} {w : World} {K : PySem.W.Frag} {mg : Str → Option Value} {base : Heap}
theorem step_fall (T : Tx K mg) {cdv : Value} {A : Around} {outer : List Env} {s : Shared} {H0 H : Hp} {E : XK} {D : Ends} {d l ka sa sd ll : Addr} {M : List Addr} {st : KSt} {c : Cat} {pats : List (Str × Pat)} {n m : Nat} {vc vm : V}
    (hr : Room 12 (A.deeper (envOfC "_law_step" (defScope s_l_step) s.heap.objs.size (He.fAd K ("_law_step", none)) cdv))) (h : LawAt K H d l ka sa sd ll M st c pats n m) (hn : n ≤ 800) (hm : m ≤ 40) (rc : Rep H (eCat c) vc) (hq : Left K d l ka sa ll n m fun H' => D.rt (.bl true) H') :
    WSs (XS P w K mg base cdv A outer s H0 E) (ifBody (stepAt 5)) D [some (.ref d), some (.ref ka), some (.ref sa), some (.ref sd), some vc, some (.ref ll), some vm, none, none, none, none, none, none, none, none, none, none, none, none, none] H := by
  have hu := hu_of hr
  have hpt := h.kl.pt
  refine wss_cons (ws_set 7 sc_l_step.nd (we_name (we_take (ok_l_take T |>.mono (by decide)) hr T.gl_take passL (ve_var 0) (DE.is (d2 := .int ((3 : Nat) : Int)) de_int rfl) h.dg (by decide) (by decide) fun n1 H1 b1 hD1 hn1 => ⟨n1, hn1, rfl, fun x hx hx1 => ?_⟩)))
  have h3 := h.drawn b1 hD1
  have hxl : x.length ≤ 20 := by omega
  obtain ⟨dx, vt, dp, dc, ds, lk, hins⟩ := h3.kp.ins
  refine wss_cons (ws_set 9 sc_l_step.nd (we_call (ok_l_do T |>.mono (by decide)) hr T.gl_do passL ((aav_cons (P := fun u _ => u = V.ref ka) mono_eq (ve_var 1) (aav_cons (P := fun u _ => u = V.str "fall") mono_eq de_str (aav_cons mono_rep (de_var (d := .str x) 7 rfl) (aa_one (de_tup aa_nil rfl (by decide)))))).go (Same.refl H1) fun vs H4 s4 ⟨w1, q1, e1, e2, w2, q2, e3, e4, w3, q3, e5, z3, w4, e6, z4⟩ => ?_)))
  subst e1 e2 e3 e4 e5 e6
  have h4 := h3.mono s4
  refine ⟨ka, w3, w4, "fall", rfl, ⟨dx, vt, dp, dc, ds, lk, s4 _ _ hins⟩, .inr (.inl ⟨rfl, fun H5 Q5 E5 s5 hq5 he5 => ⟨ka, w3, M, st, x, rfl, h4.kp.mono s5, z3.mono (.of s5), hx, by rw [h.kl.num]; omega, ?_⟩⟩)⟩
  rw [hpt]
  have h5 := h4.mono s5
  cases hl : look pats x with
  | none =>
    refine fun H6 s6 => he5 "StandingError" (by decide +kernel) H6 fun H7 s7 => ?_
    rw [told_s]
    have h7 := (h5.mono s6).mono s7
    obtain ⟨kvs, k1, k2, k3⟩ := h7.rc.st.ex
    refine wss_cons (ws_if (BT.go (bt_cmp (ce_dninK (k := .inr x) hu (ve_str (de_var (d := .str x) 7 rfl)) (ve_var 3) (.inl k1))) (Same.refl H7) fun H8 s8 => ?_))
    rw [valV_named k2, hl, Option.isSome_none, if_pos (by decide)]
    refine wss_one (rt_de (Same.refl H8) (de_cmp (ce_eqs (de_var (d := .str "standing") 9 rfl) de_str)) fun v' H9 s9 r9 => ?_)
    cases (show v' = _ from r9)
    exact hq H9 M st c pats sd n m (by omega) (by omega) ((h7.mono s8).mono s9)
  | some p0 =>
    refine fun H6 M' b6 hM' kat => hq5 _ H6 fun H7 s7 => ?_
    obtain ⟨dg6, rc6, kp6, off6⟩ := h5.deed b6 hM'
    have dg7 := dg6.mono s7
    have rc7 := rc6.mono s7
    have kat7 := kat.mono s7
    obtain ⟨kvs, k1, k2, k3⟩ := rc7.st.ex
    have hkl := named_len k2
    have hfew := rc7.st.few
    have hnd := rc7.st.nd
    refine wss_cons (ws_if (BT.go (bt_cmp (ce_dninK (k := .inr x) hu (ve_str (de_var (d := .str x) 7 rfl)) (ve_var 3) (.inl k1))) (Same.refl H7) fun H8 s8 => ?_))
    rw [valV_named k2, hl, Option.isSome_some, if_neg (by decide)]
    refine wss_nil (wss_cons (ws_set 10 sc_l_step.nd (we_newK fun lf hlf => ?_)))
    have s9 : Same H8 (L2.upd H8 lf (.dK [])) := .new hlf
    have hl9 : (L2.upd H8 lf (.dK [])) lf = some (.dK []) := upd_same
    have s79 := s8.trans s9
    have k19 := s79 _ _ k1
    have hlsd : lf ≠ sd := fun e => by rw [e, s8 _ _ k1] at hlf; cases hlf
    generalize L2.upd H8 lf (.dK []) = H9 at *
    have pk9 : PatKv H9 pats kvs := ⟨k2, fun x p e => let ⟨v, z1, z2⟩ := k3 x p e; ⟨v, z1, z2.mono (.of s79)⟩⟩
    refine wss_cons (ws_forKK (q := sd) (kvs := kvs) (passes_of rfl) (fun od => ve_var 3) k19 (pg_name (i := 11) sc_l_step.nd rfl (.inl rfl)) (fun od i σ' H' => ∃ (o11 : Option V) (lkv : List (Key × V)), σ' = [some (.ref d), some (.ref ka), some (.ref sa), some (.ref sd), some vc, some (.ref ll), some vm, some (.str x), none, some .non, some (.ref lf), o11, none, none, none, none, none, none, none, none] ∧ SameB [lf] (L2.upd H9 sd (.frz od (.dK kvs))) H' ∧ H' lf = some (.dK lkv) ∧ lkv.length ≤ i ∧ PatKv H' (without (pats.take i) x) lkv) rfl
      (fun od H10 s10 => ⟨none, [], rfl, .of s10, s10 _ _ (by rw [upd_ne hlsd]; exact hl9), Nat.le_refl _, by rw [List.take_zero]; exact ⟨rfl, fun y p e => nomatch e⟩⟩)
      (fun od i σ' H' ⟨_, _, _, b, _⟩ => b _ _ upd_same fun hm => hlsd (List.mem_singleton.mp hm).symm) ?_ ?_)
    · rintro od i key v σ' H' hkv ⟨o11, lkv, eσ, b, h1, h1l, h2⟩
      subst eσ
      have hik : (kvs.map (·.1))[i]? = some key := by rw [List.getElem?_map, hkv]; rfl
      rw [show kvs.map (·.1) = pats.map fun q => Sum.inr q.1 from k2] at hik
      obtain ⟨q0, hq0, ek⟩ := map_at hik
      subst ek
      have hi : i < pats.length := (List.getElem?_eq_some_iff.mp hq0).1
      have hqm := List.mem_of_getElem? hq0
      obtain ⟨v0, hv0, rv0⟩ := pk9.2 q0.1 q0.2 (look_of hnd hqm)
      have kF : Kp H9 (L2.upd H9 sd (.frz od (.dK kvs))) := .upd k19 rfl
      have hF : (L2.upd H9 sd (.frz od (.dK kvs))) lf = some (.dK []) := by rw [upd_ne hlsd]; exact hl9
      have kp' : Kp H9 H' := kF.trans (kp1 b hF rfl)
      have hsd' : H' sd = some (.frz od (.dK kvs)) := b _ _ upd_same fun hm => hlsd (List.mem_singleton.mp hm).symm
      refine wss_one (ws_if (BT.go (bt_cmp (ce_nes (de_var (d := .str q0.1) 11 rfl) (de_var (d := .str x) 7 rfl))) (Same.refl H') fun H10 s10 => ?_))
      by_cases e : q0.1 = x
      · rw [decide_eq_true e, if_neg (by decide)]
        refine wss_nil ⟨_, lkv, rfl, b.trans (.of s10), s10 _ _ h1, by omega, ?_⟩
        rw [without_snoc hq0, if_pos e, List.append_nil]
        exact h2.kp (.of s10)
      · rw [decide_eq_false e, if_pos (by decide)]
        refine wss_one (ws_dputK (k := .inr q0.1) hu mono_rep (ve_de (d := ePat q0.2) (ve_dgetK (k := .inr q0.1) hu (ve_var 3) (.inr ⟨od, s10 _ _ hsd'⟩) (ve_str (de_var (d := .str q0.1) 11 rfl)) hv0) ((rv0.mono kp').mono (.of s10))) (ve_var 10) (s10 _ _ h1) (ve_str (de_var (d := .str q0.1) 11 rfl)) (by omega) fun v11 H11 s11 r11 => ?_)
        have ku : Kp H11 (L2.upd H11 lf (.dK (putK lkv (.inr q0.1) v11))) := .upd (s11 _ _ (s10 _ _ h1)) rfl
        refine ⟨_, _, rfl, (b.trans (.of (s10.trans s11))).trans (.upd (by simp)), upd_same, ?_, ?_⟩
        · have := putK_few lkv (Sum.inr q0.1) v11
          omega
        · rw [without_snoc hq0, if_neg e]
          refine ((h2.kp (.of (s10.trans s11))).put ?_ r11).kp ku
          cases hlk : look (without (pats.take i) x) q0.1 with
          | none => rfl
          | some p1 =>
            exfalso
            have hm2 := look_mem hlk
            have hm3 := (List.mem_filter.mp hm2).1
            obtain ⟨j, hj, ej⟩ := List.getElem_of_mem hm3
            rw [List.length_take] at hj
            rw [List.getElem_take] at ej
            have hn1 : (pats.map (·.1))[j]'(by rw [List.length_map]; omega) = (pats.map (·.1))[i]'(by rw [List.length_map]; omega) := by
              rw [List.getElem_map, List.getElem_map, ej, (List.getElem?_eq_some_iff.mp hq0).2]
            exact absurd ((List.getElem_inj hnd).mp hn1) (by omega)
    · rintro od σ' H' ⟨o11, lkv, eσ, b, h1, h1l, h2⟩
      subst eσ
      rw [hkl, List.take_length] at h2
      have hF : (L2.upd H9 sd (.frz od (.dK kvs))) lf = some (.dK []) := by rw [upd_ne hlsd]; exact hl9
      have sU : Same H8 (L2.upd H' sd (.dK kvs)) := fun a o ho => by
        by_cases ea : a = sd
        · subst ea
          rw [s8 _ _ k1] at ho
          cases ho
          exact upd_same
        · have hne : a ≠ lf := fun e => by rw [e, hlf] at ho; cases ho
          rw [upd_ne ea]
          exact b a o (by rw [upd_ne ea]; exact s9 a o ho) fun hm => hne (List.mem_singleton.mp hm)
      have hsd' : H' sd = some (.frz od (.dK kvs)) := b _ _ upd_same fun hm => hlsd (List.mem_singleton.mp hm).symm
      have hlU : (L2.upd H' sd (.dK kvs)) lf = some (.dK lkv) := by rw [upd_ne hlsd]; exact h1
      have kU : Kp H' (L2.upd H' sd (.dK kvs)) := .ofT hsd' (frz_K od kvs)
      have pkU := h2.kp kU
      have s7U := s8.trans sU
      generalize L2.upd H' sd (.dK kvs) = HU at *
      have dgU := dg7.mono s7U
      have rcU := rc7.mono s7U
      have katU := kat7.mono s7U
      obtain ⟨kva, vc2, wl, a1, a2, a3, a4, a5, a6, a7, a8⟩ := rcU.ex
      have hlfa : sa ≠ lf := fun e => by
        obtain ⟨kz, z⟩ := (rc7.mono s8).kinds.1
        rw [e, hlf] at z; cases z
      have hlfM : lf ∉ M' := fun hm => by
        obtain ⟨u, z, _⟩ := (kat7.mono s8).loose lf hm
        rw [hlf] at z; cases z
      refine wss_cons (ws_dputK (k := .inr "standing") (P := fun u _ => u = V.ref lf) hu mono_eq (ve_var 10) (ve_var 2) a1 (ve_str de_str) (by omega) fun v12 H12 s12 e12 => ?_)
      subst e12
      have a12 := s12 _ _ a1
      have ku : Kp H12 (L2.upd H12 sa (.dK (putK kva (.inr "standing") (.ref lf)))) := .upd a12 rfl
      have hsl : sa ≠ ll := fun e => by rw [← e, a1] at a6; cases a6
      have rc13 : RecAt (L2.upd H12 sa (.dK (putK kva (.inr "standing") (.ref lf)))) sa lf ll c (without pats x) n := by
        refine ⟨⟨_, vc2, wl, upd_same, by rw [valV_put, if_pos rfl], by rw [valV_put, if_neg (by decide)]; exact a3, by rw [valV_put, if_neg (by decide)]; exact a4, ?_, by rw [upd_ne (Ne.symm hsl)]; exact s12 _ _ a6, a7, (a8.mono (.of s12)).mono ku⟩, ⟨⟨lkv, by rw [upd_ne (Ne.symm hlfa)]; exact s12 _ _ hlU, ((pkU.kp (.of s12)).kp ku).1, ((pkU.kp (.of s12)).kp ku).2⟩, Nat.le_trans (List.length_filter_le _ _) hfew, hnd.sublist ((List.filter_sublist).map _)⟩, hlfa⟩
        have := congrArg List.length (put_keys (v := .ref lf) a2)
        rw [List.length_map, List.length_map] at this
        omega
      have dg13 : DAt (L2.upd H12 sa (.dK (putK kva (.inr "standing") (.ref lf)))) d l := by
        refine (dgU.mono s12).put ⟨fun e => ?_, fun e => ?_⟩
        · obtain ⟨_, _, _, _, y1, _⟩ := dgU.mono s12
          rw [← e, a12] at y1; cases y1
        · obtain ⟨_, _, _, _, _, y2, _⟩ := dgU.mono s12
          rw [← e, a12] at y2; cases y2
      have kat13 : KAt K (L2.upd H12 sa (.dK (putK kva (.inr "standing") (.ref lf)))) ka M' _ := (katU.mono s12).keep ku fun y hy o ho => by
        rw [upd_ne fun e => off6 sa (by simp) (by rw [← e]; exact hy)]
        exact ho
      have hll13 : (L2.upd H12 sa (.dK (putK kva (.inr "standing") (.ref lf)))) ll = some (.lst wl) := by rw [upd_ne (Ne.symm hsl)]; exact s12 _ _ a6
      generalize L2.upd H12 sa (.dK (putK kva (.inr "standing") (.ref lf))) = H13 at *
      have off13 : ∀ y ∈ [d, l, sa, lf, ll], y ∉ M' := fun y hy => by
        simp only [List.mem_cons, List.not_mem_nil, or_false] at hy
        rcases hy with e | e | e | e | e <;> rw [e]
        · exact off6 d (by simp)
        · exact off6 l (by simp)
        · exact off6 sa (by simp)
        · exact hlfM
        · exact off6 ll (by simp)
      refine wss_cons (ws_app (ve_var 5) hll13 (by omega) (se_add (n := 10) (m := 20) (se_de (x := "fall ") de_str (by decide)) (se_de (de_var (d := .str x) 7 rfl) hxl) (by decide)) fun v14 H14 s14 _ => ?_)
      obtain ⟨dg15, kat15, rc15⟩ := law_line v14 (dg13.mono s14) (kat13.mono s14) (rc13.mono s14) off13 h.dll h.lll (s14 _ _ hll13) a7
      generalize L2.upd H14 ll (.lst (wl ++ [v14])) = H15 at *
      refine wss_one (rt_de (Same.refl H15) (de_cmp (ce_isN (ve_var 9) fun v H2 e => by rw [e])) fun v' H16 s16 r16 => ?_)
      cases (show v' = _ from r16)
      refine hq H16 M' _ c (without pats x) lf (n + 1) m (by omega) (by omega) ⟨dg15.mono s16, kat15.mono s16, ?_, rc15.mono s16, h.gc, ?_, off13, h.dll, h.lll⟩
      · refine ⟨h.kl.cat, by show st.pats.filter _ = _; rw [hpt]; rfl, by show st.n + 1 = _; rw [h.kl.num], fun y q e => ?_⟩
        have e : look (pats.filter fun q => decide (q.1 ≠ x)) y = some q := e
        rw [look_del] at e
        by_cases ey : y = x
        · rw [if_pos ey] at e; cases e
        · rw [if_neg ey] at e; exact h.kl.cnt y q e
      · refine ⟨fun y q e => ?_, fun q hq2 => h.pk.pn q (List.mem_filter.mp hq2).1⟩
        have e : look (pats.filter fun q => decide (q.1 ≠ x)) y = some q := e
        rw [look_del] at e
        by_cases ey : y = x
        · rw [if_pos ey] at e; cases e
        · rw [if_neg ey] at e; exact h.pk.gp y q e
end
end J
/-! A step: rows come and go. -/
namespace J
open PySem PySem.Spec PyProof.Rows L2
theorem find_in {m : Nat} {c : Cat} (hg : GCat m c) {t : Tab} (ht : t ∈ c) : findT c t.name = some t := by
  cases e : findT c t.name with
  | none => exact absurd (decide_eq_true rfl) (List.find?_eq_none.mp e t ht)
  | some u => rw [nodup_name (names_slt hg.asc) u (findT_mem e).1 t ht (findT_mem e).2]
theorem none_tab : ("none" : Str) ∉ tabNames := by decide +kernel
theorem find_none {m : Nat} {c : Cat} (hg : GCat m c) : findT c "none" = none := by
  cases e : findT c "none" with
  | none => rfl
  | some t => exact absurd (by rw [← (findT_mem e).2]; exact hg.nm t (findT_mem e).1) none_tab
theorem shp_chg {b n : Cat} {pats : List (Str × Pat)} (hp : ∀ q ∈ pats, q.1 ∈ patNames) : Shp 6 (.tuple (chgD b n pats)) := shp_tup fun d hd => by
  unfold chgD tellAll at hd
  obtain ⟨y, hy, e⟩ := List.mem_map.mp hd
  have hy := (srtS_perm _).mem_iff.mp (List.mem_filter.mp hy).1
  obtain ⟨q, hq, ey⟩ := List.mem_map.mp hy
  rw [← e]
  unfold tellD
  refine shp_tup fun d hd => ?_
  simp only [List.mem_cons, List.not_mem_nil, or_false] at hd
  rcases hd with e | e | e <;> subst e
  · exact shp_str _ (okW_str _ (ok_pat (by rw [← ey]; exact hp q hq)))
  · exact shp_rows 2 _
  · exact shp_rows 2 _
theorem GCat.up {m n : Nat} {c : Cat} (h : GCat m c) (hmn : m ≤ n) : GCat n c := ⟨fun t ht => let g := h.tab t ht; ⟨g.lo, g.hi, g.row, g.asc, Nat.le_trans g.few hmn⟩, h.nm, h.few, h.one, h.asc⟩
/-- a refused deed on a row -/
theorem de_doErr {X : Cx} {k ew ex er : Expr} {σ : L2.St} {H : Hp} {q pos : Pos} {d l ka sa sd ll : Addr} {M : List Addr} {st : KSt} {c : Cat} {pats : List (Str × Pat)} {n m : Nat} {wd x err : Str} {r : Row} (T : Tx X.K X.mg) (hr : Room 12 X.A) (hk : VE X k σ H (.ref ka)) (hw : DE X ew σ H (.str wd)) (hx : DE X ex σ H (.str x)) (hrw : DE X er σ H (eRow r))
    (h : LawAt X.K H d l ka sa sd ll M st c pats n m) (hn : n ≤ 900) (hm : m < 60) (hxl : x.length ≤ 20) (hgr : ∀ t, findT c x = some t → GRow t.cols r) (hwd : wd = "add" ∨ wd = "drop") (he : match findT c x with | none => err = "UnknownTable" | some t => err = "RowError" ∧ (wd = "add" → r ∈ t.rows) ∧ (wd = "drop" → r ∉ t.rows))
    (hg : Gl X "_law_do" := by rfl) (e1 : starEach [k, ew, ex, er] X.env = (false, eval k X.env) :: starEach [ew, ex, er] X.env := by rfl) (e2 : starEach [ew, ex, er] X.env = (false, eval ew X.env) :: starEach [ex, er] X.env := by rfl) (e3 : starEach [ex, er] X.env = (false, eval ex X.env) :: starEach [er] X.env := by rfl) (e4 : starEach [er] X.env = (false, eval er X.env) :: starEach [] X.env := by rfl)
    (hpl : (backTo pos (starEach [ew, ex, er] X.env)).any (·.1) = false := by rfl) : DE X (.Call (.Name "_law_do" q) [k, ew, ex, er] [] pos) σ H (.str (toldOf err)) := by
  refine ee_call (ok_l_do T |>.mono (show 11 ≤ 12 by decide)) hr T.gl_do passL (aav_cons (P := fun u _ => u = V.ref ka) mono_eq hk (aav_cons (P := fun u _ => u = V.str wd) mono_eq hw (aav_cons mono_rep hx (aa_one hrw e4) e3) e2) e1) (fun vs H2 Q s2 ⟨w1, q1, f1, f2, w2, q2, f3, f4, w3, q3, f5, z3, w4, f6, z4⟩ hQ => ?_) hg (by decide) e1 hpl
  subst f1 f2 f3 f4 f5 f6
  have h2 := h.mono s2
  obtain ⟨dx, vt, dp, dc, ds, lk, hins⟩ := h2.kp.ins
  have key : ∀ y ∈ exs, y = err → ∀ (H5 : Hp) (E5 : XK), Same H2 H5 → (∀ x ∈ exs, ∀ H', (∀ H'', Same H' H'' → Q (.str (toldOf x)) H'') → E5 (.ref (He.ga X.K x)) none H') → ∀ H', Same H5 H' → E5 (.ref (He.ga X.K y)) none H' := fun y hy ey H5 E5 s5 he5 H' s' => he5 y hy H' fun H'' s'' => by
    rw [ey]
    exact hQ _ H'' ((s5.trans s').trans s'') rfl
  refine ⟨ka, w3, w4, wd, rfl, ⟨dx, vt, dp, dc, ds, lk, hins⟩, ?_⟩
  rcases hwd with ew | ew
  · refine .inr (.inr (.inl ⟨ew, fun H5 Q5 E5 s5 hq5 he5 => ⟨ka, w3, w4, M, st, m, n, c, pats, x, r, rfl, h2.kp.mono s5, h.kl, z3.mono (.of s5), z4.mono (.of s5), h.gc, hm, hn, hxl, hgr, h.pk.gp, ?_⟩⟩))
    cases hf : findT c x with
    | none =>
      rw [hf] at he
      exact key "UnknownTable" (by decide +kernel) he.symm H5 E5 s5 he5
    | some t =>
      rw [hf] at he
      simp only [if_pos (he.2.1 ew)]
      exact key "RowError" (by decide +kernel) he.1.symm H5 E5 s5 he5
  · refine .inr (.inr (.inr (.inl ⟨ew, fun H5 Q5 E5 s5 hq5 he5 => ⟨ka, w3, w4, M, st, m, n, c, pats, x, r, rfl, h2.kp.mono s5, h.kl, z3.mono (.of s5), z4.mono (.of s5), h.gc, hm, hn, hxl, hgr, h.pk.gp, ?_⟩⟩)))
    cases hf : findT c x with
    | none =>
      rw [hf] at he
      exact key "UnknownTable" (by decide +kernel) he.symm H5 E5 s5 he5
    | some t =>
      rw [hf] at he
      simp only [if_neg (he.2.2 ew)]
      exact key "RowError" (by decide +kernel) he.1.symm H5 E5 s5 he5
/-- a deed on a row that is done -/
theorem we_doRow {X : Cx} {k ew ex er : Expr} {σ : L2.St} {H : Hp} {q pos : Pos} {d l ka sa sd ll : Addr} {M : List Addr} {st : KSt} {c c1 : Cat} {pats : List (Str × Pat)} {n m : Nat} {wd x : Str} {r : Row} {t : Tab} {Q : VK} (T : Tx X.K X.mg) (hr : Room 12 X.A) (hk : VE X k σ H (.ref ka)) (hw : DE X ew σ H (.str wd)) (hx : DE X ex σ H (.str x)) (hrw : DE X er σ H (eRow r))
    (h : LawAt X.K H d l ka sa sd ll M st c pats n m) (hn : n ≤ 900) (hm : m < 60) (hxl : x.length ≤ 20) (hf : findT c x = some t) (gr : GRow t.cols r) (hwd : (wd = "add" ∧ r ∉ t.rows ∧ c1 = withRows c x (addRows t r)) ∨ (wd = "drop" ∧ r ∈ t.rows ∧ c1 = withRows c x (othersOf t r)))
    (hq : ∀ v H' st', SameB M H H' → KAt X.K H' ka M st' → KLaw c1 pats (n + 1) st' → Rep H' (.tuple (chgD c c1 pats)) v → Q v H')
    (hg : Gl X "_law_do" := by rfl) (e1 : starEach [k, ew, ex, er] X.env = (false, eval k X.env) :: starEach [ew, ex, er] X.env := by rfl) (e2 : starEach [ew, ex, er] X.env = (false, eval ew X.env) :: starEach [ex, er] X.env := by rfl) (e3 : starEach [ex, er] X.env = (false, eval ex X.env) :: starEach [er] X.env := by rfl) (e4 : starEach [er] X.env = (false, eval er X.env) :: starEach [] X.env := by rfl)
    (hpl : (backTo pos (starEach [ew, ex, er] X.env)).any (·.1) = false := by rfl) : WE X (.Call (.Name "_law_do" q) [k, ew, ex, er] [] pos) σ H Q := by
  refine we_call (ok_l_do T |>.mono (show 11 ≤ 12 by decide)) hr T.gl_do passL ((aav_cons (P := fun u _ => u = V.ref ka) mono_eq hk (aav_cons (P := fun u _ => u = V.str wd) mono_eq hw (aav_cons mono_rep hx (aa_one hrw e4) e3) e2) e1).go (Same.refl H) fun vs H2 s2 ⟨w1, q1, f1, f2, w2, q2, f3, f4, w3, q3, f5, z3, w4, f6, z4⟩ => ?_) hg (by decide) e1 hpl
  subst f1 f2 f3 f4 f5 f6
  have h2 := h.mono s2
  obtain ⟨dx, vt, dp, dc, ds, lk, hins⟩ := h2.kp.ins
  have hgr : ∀ t, findT c x = some t → GRow t.cols r := fun u hu => by rw [hf] at hu; cases hu; exact gr
  refine ⟨ka, w3, w4, wd, rfl, ⟨dx, vt, dp, dc, ds, lk, hins⟩, ?_⟩
  rcases hwd with ⟨ew, hin, ec⟩ | ⟨ew, hin, ec⟩
  · subst ec
    refine .inr (.inr (.inl ⟨ew, fun H5 Q5 E5 s5 hq5 he5 => ⟨ka, w3, w4, M, st, m, n, c, pats, x, r, rfl, h2.kp.mono s5, h.kl, z3.mono (.of s5), z4.mono (.of s5), h.gc, hm, hn, hxl, hgr, h.pk.gp, ?_⟩⟩))
    rw [hf]
    simp only [if_neg hin]
    exact fun v H' st' b kat kl rv => hq5 v H' fun H'' s'' => hq v H'' st' (((SameB.of (s2.trans s5)).trans b).trans (.of s'')) (kat.mono s'') kl (rv.mono (.of s''))
  · subst ec
    refine .inr (.inr (.inr (.inl ⟨ew, fun H5 Q5 E5 s5 hq5 he5 => ⟨ka, w3, w4, M, st, m, n, c, pats, x, r, rfl, h2.kp.mono s5, h.kl, z3.mono (.of s5), z4.mono (.of s5), h.gc, hm, hn, hxl, hgr, h.pk.gp, ?_⟩⟩)))
    rw [hf]
    simp only [if_pos hin]
    exact fun v H' st' b kat kl rv => hq5 v H' fun H'' s'' => hq v H'' st' (((SameB.of (s2.trans s5)).trans b).trans (.of s'')) (kat.mono s'') kl (rv.mono (.of s''))
section
variable {P : Program} {w : World} {K : PySem.W.Frag} {mg : Str → Option Value} {base : Heap}
theorem step_row (T : Tx K mg) {cdv : Value} {A : Around} {outer : List Env} {s : Shared} {H0 H : Hp} {E : XK} {D : Ends} {d l ka sa sd ll : Addr} {M : List Addr} {st : KSt} {c : Cat} {pats : List (Str × Pat)} {n m : Nat} {vc vm : V}
    (hr : Room 12 (A.deeper (envOfC "_law_step" (defScope s_l_step) s.heap.objs.size (He.fAd K ("_law_step", none)) cdv))) (h : LawAt K H d l ka sa sd ll M st c pats n m) (hn : n ≤ 800) (hm : m ≤ 40) (rc : Rep H (eCat c) vc) (hq : Left K d l ka sa ll n m fun H' => D.rt (.bl true) H') :
    WSs (XS P w K mg base cdv A outer s H0 E) ((defBody s_l_step).drop 6) D [some (.ref d), some (.ref ka), some (.ref sa), some (.ref sd), some vc, some (.ref ll), some vm, none, none, none, none, none, none, none, none, none, none, none, none, none] H := by
  have hu := hu_of hr
  have hpt := h.kl.pt
  have hfew := h.gc.few
  have hone := h.gc.one
  -- the table
  refine wss_cons (ws_asg (Names3 7 12 13 rfl sc_l_step.nd rfl rfl rfl ⟨.inl rfl, .inl rfl⟩ ⟨.inl rfl, .inl rfl⟩ ⟨.inl rfl, .inl rfl⟩) (we_ixW ((de_var 4 rc).go (Same.refl H) fun v1 H1 s1 r1 => we_take (ok_l_take T |>.mono (by decide)) hr T.gl_take passL (ve_var 0) (DE.is (d2 := .int (c.length : Int)) (de_len T.b_len (DE.qe (de_var 4 (rc.mono (.of s1))))) (by rw [List.length_map])) (h.dg.mono s1) hone (by omega) fun n2 H2 b2 hD2 hn2 => ?_)))
  obtain ⟨pt, ys, ept, hpt2, rpt⟩ := (r1.mono ((h.dg.mono s1).kp b2)).seq (K := K)
  have hc2 : c[n2]? = some c[n2] := List.getElem?_eq_getElem hn2
  obtain ⟨vt, hvt, rvt⟩ := rpt.at (show (c.map eTab)[n2]? = some (eTab c[n2]) by rw [List.getElem?_map, hc2]; rfl)
  refine ⟨pt, ys, (n2 : Int), vt, ept, rfl, hpt2, atI_n hvt, ?_⟩
  have htm : c[n2] ∈ c := List.getElem_mem hn2
  have hgt := h.gc.tab _ htm
  have hnmt := h.gc.nm _ htm
  have hft := find_in h.gc htm
  generalize c[n2] = t at *
  have b02 : SameB [d] H H2 := (SameB.of s1).trans b2
  have h2 := h.drawn b02 hD2
  have rc2 := rc.mono (h.dg.kp b02)
  refine takes_tup3 (R := fun σ2 => WSs _ _ _ σ2 H2) rvt (fun vx vcol vrows rx rcol rrows => ?_) _ fun _ z => z
  cases (show vx = V.str t.name from rx)
  cases (show vcol = V.int (t.cols : Int) from rcol)
  have hcl := hgt.lo
  have hch := hgt.hi
  have hrf := hgt.few
  have hxl := okW_len _ (ok_tab hnmt)
  -- the row
  refine wss_cons (ws_set 14 sc_l_step.nd (we_tuple T.b_tuple ((we_lcD n_l_step (defScope s_l_step) 17 t.cols (fun dd => ∃ i : Nat, i < 3 ∧ dd = .int (i : Int)) rfl sc_l_step.nd T.b_range h2.dg (de_var (d := .int (t.cols : Int)) 12 rfl) (by omega) fun i3 H3 hi3 b3 hD3 => ?_).mono ?_)))
  · intro s0 H0 C cl fp
    exact we_take (ok_l_take T |>.mono (by decide)) hr T.gl_take passL (ve_var 0) (DE.is (d2 := .int ((3 : Nat) : Int)) de_int rfl) hD3 (by decide) (by decide) fun n4 H4 b4 hD4 hn4 => ⟨b4, hD4, _, ⟨n4, hn4, rfl⟩, rfl⟩
  rintro v3 H3 ⟨b3, hD3, Dl, xs, ds, ev, hn3, hl3, hr3, hlen, hall⟩
  subst ev
  obtain ⟨r0, er0, gr0⟩ := rows_of hlen hall
  refine ⟨Dl, xs, ds, rfl, SqL.of hl3, hr3, fun v4 H4 s4 r4 => ?_⟩
  rw [er0] at r4
  have r4 : Rep H4 (eRow r0) v4 := r4
  have h4 := (h2.drawn b3 hD3).mono s4
  have k24 : Kp H2 H4 := (h2.dg.kp b3).trans (.of s4)
  have rc4 := rc2.mono k24
  have rr4 := rrows.mono k24
  refine wss_cons (ws_nx (fun σ' H' => ∃ (r : Row) (v14 : V), σ' = [some (.ref d), some (.ref ka), some (.ref sa), some (.ref sd), some vc, some (.ref ll), some vm, some (.str t.name), none, none, none, none, some (.int (t.cols : Int)), some vrows, some v14, none, none, none, none, none] ∧ GRow t.cols r ∧ Rep H' (eRow r) v14 ∧ SameB [d] H4 H' ∧ DAt H' d l) (ws_if (wt_and (wt_cmp op_eq (we_take (ok_l_take T |>.mono (by decide)) hr T.gl_take passL (ve_var 0) (DE.is (d2 := .int ((3 : Nat) : Int)) de_int rfl) h4.dg (by decide) (by decide) fun n5 H5 b5 hD5 hn5 => (de_int (i := 1)).go (Same.refl H5) fun v6 H6 s6 e6 => ?_)))) ?_)
  · cases (show v6 = _ from e6)
    refine ⟨rfl, _, rfl, ?_⟩
    have b46 : SameB [d] H4 H6 := b5.trans (.of s6)
    have hD6 := hD5.mono s6
    have k46 := h4.dg.kp b46
    rw [dec_vint]
    by_cases h1 : (n5 : Int) = 1
    · rw [decide_eq_true h1, if_pos rfl]
      refine BT.go (bt_cmp (ce_gt (DE.is (d2 := .int (t.rows.length : Int)) (de_len T.b_len (DE.qe (de_var 13 (rr4.mono k46)))) (by rw [List.length_map])) de_int)) (Same.refl H6) fun H7 s7 => ?_
      by_cases h0 : 0 < t.rows.length
      · rw [decide_eq_true (by omega), if_pos rfl]
        have rr7 := (rr4.mono k46).mono (.of s7)
        refine wss_one (ws_set 14 sc_l_step.nd (we_ixW ((de_var 13 rr7).go (Same.refl H7) fun v8 H8 s8 r8 => we_take (ok_l_take T |>.mono (by decide)) hr T.gl_take passL (ve_var 0) (DE.is (d2 := .int (t.rows.length : Int)) (de_len T.b_len (DE.qe (de_var 13 (rr7.mono (.of s8))))) (by rw [List.length_map])) ((hD6.mono s7).mono s8) h0 (by omega) fun n9 H9 b9 hD9 hn9 => ?_)))
        obtain ⟨p9, y9, e9, hp9, rp9⟩ := (r8.mono (((hD6.mono s7).mono s8).kp b9)).seq (K := K)
        obtain ⟨v10, hv10, rv10⟩ := rp9.at (show (t.rows.map eRow)[n9]? = some (eRow t.rows[n9]) by rw [List.getElem?_map, List.getElem?_eq_getElem hn9]; rfl)
        exact ⟨p9, y9, (n9 : Int), v10, e9, rfl, hp9, atI_n hv10, t.rows[n9], v10, rfl, hgt.row _ (List.getElem_mem hn9), rv10, (b46.trans (.of (s7.trans s8))).trans b9, hD9⟩
      · rw [decide_eq_false (by omega), if_neg (by decide)]
        exact wss_nil ⟨r0, v4, rfl, gr0, (r4.mono k46).mono (.of s7), b46.trans (.of s7), hD6.mono s7⟩
    · rw [decide_eq_false h1, if_neg (by decide), if_neg (by decide)]
      exact wss_nil ⟨r0, v4, rfl, gr0, r4.mono k46, b46, hD6⟩
  rintro σ5 H5 ⟨r, v14, eσ, gr, r5, b45, hD5⟩
  subst eσ
  have h5 := h4.drawn b45 hD5
  have k45 := h4.dg.kp b45
  have rc5 := rc4.mono k45
  have rr5 := rr4.mono k45
  -- the word
  obtain ⟨wd, oth, fr, ewd, eoth, efr⟩ : ∃ (wd oth : Str) (fr : List Row), wd = (if r ∈ t.rows then "drop" else "add") ∧ oth = (if r ∈ t.rows then "add" else "drop") ∧ fr = if r ∈ t.rows then othersOf t r else addRows t r := ⟨_, _, _, rfl, rfl, rfl⟩
  refine wss_cons (ws_de (d := .str wd) 15 sc_l_step.nd (ee_ifExp (bt_cmp (ce_inR (hu65 hr) (de_var 14 r5) (DE.ue (de_var 13 rr5)))) (fun hk => by rw [ewd, if_pos (of_decide_eq_true hk)]; exact de_str) fun hk => by rw [ewd, if_neg (of_decide_eq_false hk)]; exact de_str) fun v6 H6 s6 e6 => ?_)
  cases (show v6 = _ from e6)
  have h6 := h5.mono s6
  have rc6 := rc5.mono (.of s6)
  have rr6 := rr5.mono (.of s6)
  have r6 := r5.mono (.of s6)
  have hgr : ∀ u, findT c t.name = some u → GRow u.cols r := fun u hu => by rw [hft] at hu; cases hu; exact gr
  refine wss_cons (ws_if (wt_cmp op_eq (we_take (ok_l_take T |>.mono (by decide)) hr T.gl_take passL (ve_var 0) (DE.is (d2 := .int ((6 : Nat) : Int)) de_int rfl) h6.dg (by decide) (by decide) fun n7 H7 b7 hD7 hn7 => (de_int (i := 1)).go (Same.refl H7) fun v8 H8 s8 e8 => ?_)))
  cases (show v8 = _ from e8)
  refine ⟨rfl, _, rfl, ?_⟩
  have b68 : SameB [d] H6 H8 := b7.trans (.of s8)
  have h8 := h6.drawn b68 (hD7.mono s8)
  have k68 := h6.dg.kp b68
  have rc8 := rc6.mono k68
  have rr8 := rr6.mono k68
  have r8 := r6.mono k68
  rw [dec_vint]
  by_cases h1 : (n7 : Int) = 1
  · rw [decide_eq_true h1, if_pos rfl]
    refine wss_cons (ws_de (d := .str oth) 11 sc_l_step.nd (ee_ifExp (k := decide (r ∈ t.rows)) (BT.is (bt_cmp (ce_eqs (de_var (d := .str wd) 15 rfl) de_str)) ?_) (fun hk => by rw [eoth, if_pos (of_decide_eq_true hk)]; exact de_str) fun hk => by rw [eoth, if_neg (of_decide_eq_false hk)]; exact de_str) fun v9 H9 s9 e9 => ?_)
    · rw [ewd]
      by_cases hin : r ∈ t.rows
      · rw [if_pos hin, decide_eq_true hin]; decide +kernel
      · rw [if_neg hin, decide_eq_false hin]; decide +kernel
    cases (show v9 = _ from e9)
    have h9 := h8.mono s9
    have r9 := r8.mono (.of s9)
    have hoth : oth = "add" ∨ oth = "drop" := by
      rw [eoth]
      split
      · exact .inl rfl
      · exact .inr rfl
    refine wss_one (rt_de (Same.refl H9) (de_and (de_cmp (ce_eqs (de_doErr (err := "RowError") (wd := oth) (x := t.name) (r := r) T hr (ve_var 1) (de_var 11 rfl) (de_var 7 rfl) (de_var 14 r9) h9 (by omega) (by omega) hxl hgr hoth ?_) de_str)) fun _ => de_cmp (ce_eqs (de_doErr (err := "UnknownTable") (wd := oth) (x := "none") (r := r) T hr (ve_var 1) (de_var 11 rfl) de_str (de_var 14 r9) h9 (by omega) (by omega) (by decide) (fun u hu => by rw [find_none h.gc] at hu; cases hu) hoth ?_) de_str)) fun v' H10 s10 r10 => ?_)
    · rw [hft]
      refine ⟨rfl, fun e => ?_, fun e => ?_⟩
      · rw [eoth] at e
        by_cases hin : r ∈ t.rows
        · exact hin
        · rw [if_neg hin] at e; exact absurd e (by decide +kernel)
      · rw [eoth] at e
        intro hin
        rw [if_pos hin] at e; exact absurd e (by decide +kernel)
    · rw [find_none h.gc]
    rw [told_r, told_t] at r10
    cases (show v' = _ from r10)
    exact hq H10 M st c pats sd n m (by omega) (by omega) (h9.mono s10)
  · rw [decide_eq_false h1, if_neg (by decide)]
    refine wss_nil (wss_cons (ws_de (d := eRows fr) 16 sc_l_step.nd (ee_ifExp (k := decide (r ∉ t.rows)) (BT.is (bt_cmp (ce_eqs (de_var (d := .str wd) 15 rfl) de_str)) ?_) (fun hk => ?_) fun hk => ?_) fun v9 H9 s9 r9f => ?_))
    · rw [ewd]
      by_cases hin : r ∈ t.rows
      · rw [if_pos hin]
        exact (show decide (("drop" : Str) = "add") = false by decide +kernel).trans (decide_eq_false fun z => z hin).symm
      · rw [if_neg hin]
        exact (show decide (("add" : Str) = "add") = true by decide +kernel).trans (decide_eq_true hin).symm
    · have hin : r ∉ t.rows := of_decide_eq_true hk
      rw [efr, if_neg hin]
      refine de_tuple T.b_tuple (LE.lv (le_srt (rs := t.rows ++ [r]) (d := t.cols) (B := 3) T.b_sorted (DE.qe (DE.is (de_addt (de_var 13 rr8) (de_tup (aa_cons (de_var 14 r8) aa_nil) rfl (by show 1 ≤ 100000; decide)) (szl (by rw [List.length_map]; show _ + 1 ≤ _; omega)) fun _ _ => ?_) ?_)) (by rw [List.length_append]; show _ + 1 < _; omega) (fun _ => hcl) fun z hz => ?_))
      · rw [show t.rows.map eRow ++ [eRow r] = (t.rows ++ [r]).map eRow by rw [List.map_append]; rfl]; exact vst_row
      · rw [show t.rows.map eRow ++ [eRow r] = (t.rows ++ [r]).map eRow by rw [List.map_append]; rfl]
      · have g : GRow t.cols z := by
          rcases List.mem_append.mp hz with h | h
          · exact hgt.row z h
          · rw [List.mem_singleton.mp h]; exact gr
        exact ⟨g.len, bd3 g⟩
    · have hin : r ∈ t.rows := Decidable.not_not.mp (of_decide_eq_false hk)
      rw [efr, if_pos hin]
      refine de_tuple T.b_tuple (LE.lv (le_cU n_l_step (defScope s_l_step) 18 t.rows eRow (fun o => !decide (o = r)) eRow rfl sc_l_step.nd (DE.ue (de_var 13 rr8)) (by omega) fun y2 v2 H10 hy s10 r10 => ?_))
      intro s5 H5 C cl fp
      exact ⟨BT.is (bt_cmp (ce_ned (hu64 hr) (de_var 18 r10) (de_var 14 (r8.mono (.of s10))) (shp_row 0 y2).shaped (shp_row 0 r).shaped)) (by rw [eqv_row]), fun _ => de_var 18 r10⟩
    have rc9 := rc8.mono (.of s9)
    refine wss_cons (ws_de (d := eCat (withRows c t.name fr)) 16 sc_l_step.nd (de_call (ok_l_with T |>.mono (by decide)) hr T.gl_with passL (aa_cons (de_var 4 rc9) (aa_cons (de_var 7 (d := .str t.name) rfl) (aa_cons (de_var 16 r9f) aa_nil))) ⟨c, t.name, fr, by omega, rfl, rfl⟩) fun v10 H10 s10 r10 => ?_)
    generalize ec1 : withRows c t.name fr = c1 at *
    have s8A := s9.trans s10
    have h10 := h8.mono s8A
    have rr10 := rr8.mono (.of s8A)
    have ro10 := r8.mono (.of s8A)
    have rc10 := rc8.mono (.of s8A)
    have hcase : (wd = "add" ∧ r ∉ t.rows ∧ c1 = withRows c t.name (addRows t r)) ∨ (wd = "drop" ∧ r ∈ t.rows ∧ c1 = withRows c t.name (othersOf t r)) := by
      by_cases hin : r ∈ t.rows
      · exact .inr ⟨by rw [ewd, if_pos hin], hin, by rw [← ec1, efr, if_pos hin]⟩
      · exact .inl ⟨by rw [ewd, if_neg hin], hin, by rw [← ec1, efr, if_neg hin]⟩
    have gc1 : GCat (m + 1) c1 := by
      rcases hcase with ⟨_, hin, e⟩ | ⟨_, hin, e⟩ <;> rw [e]
      · exact gcat_add h.gc hft hin gr
      · exact (gcat_drop h.gc hft).up (by omega)
    have gp1 : ∀ y p, look pats y = some p → GPat c1 p := fun y p e => by
      rw [← ec1]; exact gpat_with (h.pk.gp y p e)
    refine wss_cons (ws_set 9 sc_l_step.nd (we_doRow (wd := wd) (x := t.name) (r := r) (t := t) (c1 := c1) T hr (ve_var 1) (de_var 15 rfl) (de_var 7 rfl) (de_var 14 ro10) h10 (by omega) (by omega) hxl hft gr hcase fun v11 H11 st' b11 kat11 kl11 r11 => ?_))
    obtain ⟨dg11, rec11, kp11, _⟩ := h10.deed b11 fun y hy => .inl hy
    have r10' : Rep H11 (eCat c1) v10 := r10.mono kp11
    have rc11 := rc10.mono kp11
    have ro11 := ro10.mono kp11
    obtain ⟨kva, vc2, wl, a1, a2, a3, a4, a5, a6, a7, a8⟩ := rec11.ex
    refine wss_cons (ws_dputK (k := .inr "catalogue") hu mono_rep (de_var 16 r10') (ve_var 2) a1 (ve_str de_str) (by omega) fun v12 H12 s12 r12 => ?_)
    have a12 := s12 _ _ a1
    have ku : Kp H12 (L2.upd H12 sa (.dK (putK kva (.inr "catalogue") v12))) := .upd a12 rfl
    have hsl : sa ≠ ll := fun e => by rw [← e, a1] at a6; cases a6
    have hst11 := rec11.st
    have hnes := rec11.ne
    have off := h.offM
    have rc13 : RecAt (L2.upd H12 sa (.dK (putK kva (.inr "catalogue") v12))) sa sd ll c1 pats n := by
      obtain ⟨k2, z1, z2, z3⟩ := (hst11.mono s12).ex
      refine ⟨⟨_, v12, wl, upd_same, by rw [valV_put, if_neg (by decide)]; exact a2, by rw [valV_put, if_pos rfl], by rw [valV_put, if_neg (by decide)]; exact a4, ?_, by rw [upd_ne (Ne.symm hsl)]; exact s12 _ _ a6, a7, r12.mono ku⟩, ⟨⟨k2, by rw [upd_ne (Ne.symm hnes)]; exact z1, z2, fun x p e => let ⟨u, y1, y2⟩ := z3 x p e; ⟨u, y1, y2.mono ku⟩⟩, hst11.few, hst11.nd⟩, hnes⟩
      have := congrArg List.length (put_keys (v := v12) a3)
      rw [List.length_map, List.length_map] at this
      omega
    have dg13 : DAt (L2.upd H12 sa (.dK (putK kva (.inr "catalogue") v12))) d l := by
      refine (dg11.mono s12).put ⟨fun e => ?_, fun e => ?_⟩
      · obtain ⟨_, _, _, _, y1, _⟩ := dg11.mono s12
        rw [← e, a12] at y1; cases y1
      · obtain ⟨_, _, _, _, _, y2, _⟩ := dg11.mono s12
        rw [← e, a12] at y2; cases y2
    have kat13 : KAt K (L2.upd H12 sa (.dK (putK kva (.inr "catalogue") v12))) ka M st' := (kat11.mono s12).keep ku fun y hy o ho => by
      rw [upd_ne fun e => off sa (by simp) (by rw [← e]; exact hy)]
      exact ho
    have hll13 : (L2.upd H12 sa (.dK (putK kva (.inr "catalogue") v12))) ll = some (.lst wl) := by rw [upd_ne (Ne.symm hsl)]; exact s12 _ _ a6
    have k11 : Kp H11 (L2.upd H12 sa (.dK (putK kva (.inr "catalogue") v12))) := (Kp.of s12).trans ku
    have ro13 := ro11.mono k11
    have rc13' := rc11.mono k11
    have r13f := r10'.mono k11
    have r13t := r11.mono k11
    generalize L2.upd H12 sa (.dK (putK kva (.inr "catalogue") v12)) = H13 at *
    have hwl : wd.length ≤ 4 := by
      rw [ewd]
      split
      · decide
      · decide
    refine wss_cons (ws_app (ve_var 5) hll13 (by omega) (se_add (n := 26) (m := 16) (se_add (n := 25) (m := 1) (se_add (n := 5) (m := 20) (se_add (n := 4) (m := 1) (se_de (de_var (d := .str wd) 15 rfl) hwl) (se_de (x := " ") de_str (by decide)) (by decide)) (se_de (de_var (d := .str t.name) 7 rfl) hxl) (by decide)) (se_de (x := " ") de_str (by decide)) (by decide)) (se_join (x := " ") (lx := 1) (k := 4) (n := 3) (m := 16) de_str (sl_le (ys := r.map ts) (LE.qe (le_digits n_l_step (defScope s_l_step) 19 rfl sc_l_step.nd gr hch (DE.ue (de_var 14 ro13)) fun y u H14 hy s14 ru => ?_)) (by rw [List.length_map, gr.len]; exact hch) fun y hy => ?_) rfl (by decide) (by decide)) (by decide)) fun v14 H14 s14 _ => ?_)
    · intro s15 H15 C cl fp
      exact de_strI T.b_str (de_var 19 ru) (log3 (gr.val y hy))
    · obtain ⟨z, hz, e⟩ := List.mem_map.mp hy
      rw [← e]
      exact ts_len (gr.val z hz)
    obtain ⟨dg15, kat15, rc15⟩ := law_line v14 (dg13.mono s14) (kat13.mono s14) (rc13.mono s14) off h.dll h.lll (s14 _ _ hll13) a7
    have k15 : Kp H13 (L2.upd H14 ll (.lst (wl ++ [v14]))) := (Kp.of s14).trans (.upd (s14 _ _ hll13) rfl)
    have rcE := rc13'.mono k15
    have rfE := r13f.mono k15
    have rtE := r13t.mono k15
    generalize L2.upd H14 ll (.lst (wl ++ [v14])) = H15 at *
    refine wss_one (rt_de (Same.refl H15) (de_cmp (ce_eqd (d1 := .tuple (chgD c c1 pats)) (d2 := .tuple (chgD c c1 pats)) (hu64 hr) (de_var 9 rtE) (ee_call (ok_l_changes T |>.mono (by decide)) hr T.gl_changes passL (aav_cons mono_rep (de_var 4 rcE) (aav_cons mono_rep (de_var 16 rfE) (aa_one (P := fun u _ => u = V.ref sd) (ve_var 3)))) fun vs H16 Q s16 ⟨w1, q1, f1, z1, w2, q2, f2, z2, w3, f3, f4⟩ hQ => ?_) (shp_chg h.pk.pn).shaped (shp_chg h.pk.pn).shaped)) fun v' H16 s16 r16 => ?_)
    · subst f1 f2 f3 f4
      exact ⟨w1, w2, sd, m + 1, c, c1, pats, rfl, z1, z2, h.gc.up (by omega), gc1, by omega, rc15.st.mono s16, fun y p e => ⟨h.pk.gp y p e, gp1 y p e⟩, fun v H17 s17 r17 => hQ v H17 s17 r17⟩
    rw [eqv_refl' (shp_chg h.pk.pn)] at r16
    cases (show v' = _ from r16)
    exact hq H16 M st' c1 pats sd (n + 1) (m + 1) (by omega) (by omega) ⟨dg15.mono s16, kat15.mono s16, kl11, rc15.mono s16, gc1, ⟨gp1, h.pk.pn⟩, off, h.dll, h.lll⟩
end
end J
/-! A step. -/
namespace J
open PySem PySem.Spec PyProof.Rows L2
section
variable {P : Program} {w : World} {K : PySem.W.Frag} {mg : Str → Option Value} {base : Heap}
def stepS (K : PySem.W.Frag) : Sp := fun vs H Q _ => ∃ (d l ka sa sd ll : Addr) (M : List Addr) (st : KSt) (c : Cat) (pats : List (Str × Pat)) (n m : Nat), vs = [.ref d, .ref ka, .ref sa] ∧ LawAt K H d l ka sa sd ll M st c pats n m ∧ n ≤ 800 ∧ m ≤ 40 ∧ Left K d l ka sa ll n m fun H' => Q (.bl true) H'
theorem ok_l_step (T : Tx K mg) : OkF P w K mg base (L2.CX P w) 13 (He.fAd K ("_law_step", none)) ["_law_d", "_law_keeper", "_law_state"] (stepS K) := by
  refine mk_l_step T (fun vs H Q E ⟨_, _, _, _, _, _, _, _, _, _, _, _, e, _⟩ => by subst e; rfl) (fun cdv A outer s H vs Q E hr ⟨d, l, ka, sa, sd, ll, M, st, c, pats, n, m, e, h, hn, hm, q⟩ => ?_)
  subst e
  have hu := hu_of hr
  obtain ⟨kva, vc, wl, a1, a2, a3, a4, a5, a6, a7, a8⟩ := h.rc.ex
  refine wss_cons (ws_set 3 sc_l_step.nd (EE.go (ve_dgetK (k := .inr "standing") hu (ve_var 2) (.inl a1) (ve_str de_str) a2) (Same.refl H) fun v1 H1 s1 e1 => ?_))
  subst e1
  refine wss_cons (ws_set 4 sc_l_step.nd (EE.go (ve_dgetK (k := .inr "catalogue") hu (ve_var 2) (.inl (s1 _ _ a1)) (ve_str de_str) a3) (Same.refl H1) fun v2 H2 s2 e2 => ?_))
  subst e2
  have s12 := s1.trans s2
  refine wss_cons (ws_set 5 sc_l_step.nd (EE.go (ve_dgetK (k := .inr "lines") hu (ve_var 2) (.inl (s12 _ _ a1)) (ve_str de_str) a4) (Same.refl H2) fun v3 H3 s3 e3 => ?_))
  subst e3
  have h3 := h.mono (s12.trans s3)
  have rc3 := a8.mono (.of (s12.trans s3))
  refine wss_cons (ws_set 6 sc_l_step.nd (we_take (ok_l_take T |>.mono (by decide)) hr T.gl_take passL (ve_var 0) (DE.is (d2 := .int ((9 : Nat) : Int)) de_int rfl) h3.dg (by decide) (by decide) fun n4 H4 b4 hD4 hn4 => ?_))
  have h4 := h3.drawn b4 hD4
  have rc4 := rc3.mono (h3.dg.kp b4)
  obtain ⟨kvs, k1, k2, k3⟩ := h4.rc.st.ex
  refine wss_cons (ws_if (BT.go (bt_or (bt_cmp (ce_eq (de_var (d := .int (n4 : Int)) 6 rfl) de_int)) fun _ => bt_cmp (ce_eq (de_lenD T.b_len (ve_var 3) k1) de_int)) (Same.refl H4) fun H5 s5 => ?_))
  have h5 := h4.mono s5
  have rc5 := rc4.mono (.of s5)
  cases hb : (decide ((n4 : Int) = 0) || decide ((kvs.length : Int) = 0)) with
  | true =>
    rw [if_pos rfl]
    exact step_stand T hr h5 hn hm rc5 q
  | false =>
    rw [if_neg (by decide)]
    refine wss_nil (wss_cons (ws_if (BT.go (bt_cmp (ce_eq (de_var (d := .int (n4 : Int)) 6 rfl) de_int)) (Same.refl H5) fun H6 s6 => ?_)))
    have h6 := h5.mono s6
    have rc6 := rc5.mono (.of s6)
    by_cases h1 : (n4 : Int) = 1
    · rw [decide_eq_true h1, if_pos rfl]
      exact step_fall T hr h6 hn hm rc6 q
    · rw [decide_eq_false h1, if_neg (by decide)]
      exact wss_nil (step_row T hr h6 hn hm rc6 q)
end
end J
/-! The law: short rules. -/
namespace J
open PySem PySem.Spec PyProof.Rows L2
/-- keeper.ways, by the law -/
theorem de_doWays {X : Cx} {k ew ex er : Expr} {σ : L2.St} {H : Hp} {q pos : Pos} {d l ka sa sd ll : Addr} {M : List Addr} {st : KSt} {c : Cat} {pats : List (Str × Pat)} {n m : Nat} {x : Str} {p : Pat} {a : Row} (T : Tx X.K X.mg) (hr : Room 13 X.A) (hk : VE X k σ H (.ref ka)) (hw : DE X ew σ H (.str "ways")) (hx : DE X ex σ H (.str x)) (hrw : DE X er σ H (eRow a))
    (h : LawAt X.K H d l ka sa sd ll M st c pats n m) (hp : look pats x = some p)
    (hg : Gl X "_law_do" := by rfl) (e1 : starEach [k, ew, ex, er] X.env = (false, eval k X.env) :: starEach [ew, ex, er] X.env := by rfl) (e2 : starEach [ew, ex, er] X.env = (false, eval ew X.env) :: starEach [ex, er] X.env := by rfl) (e3 : starEach [ex, er] X.env = (false, eval ex X.env) :: starEach [er] X.env := by rfl) (e4 : starEach [er] X.env = (false, eval er X.env) :: starEach [] X.env := by rfl)
    (hpl : (backTo pos (starEach [ew, ex, er] X.env)).any (·.1) = false := by rfl) : DE X (.Call (.Name "_law_do" q) [k, ew, ex, er] [] pos) σ H (.int (cntOf p (joinedL c p) a : Int)) := by
  refine ee_call (ok_l_do T |>.mono (show 11 ≤ 13 by decide)) hr T.gl_do passL (aav_cons (P := fun u _ => u = V.ref ka) mono_eq hk (aav_cons (P := fun u _ => u = V.str "ways") mono_eq hw (aav_cons mono_rep hx (aa_one hrw e4) e3) e2) e1) (fun vs H2 Q s2 ⟨w1, q1, f1, f2, w2, q2, f3, f4, w3, q3, f5, z3, w4, f6, z4⟩ hQ => ?_) hg (by decide) e1 hpl
  subst f1 f2 f3 f4 f5 f6
  have h2 := h.mono s2
  obtain ⟨dx, vt, dp, dc, ds, lk, hins⟩ := h2.kp.ins
  refine ⟨ka, w3, w4, "ways", rfl, ⟨dx, vt, dp, dc, ds, lk, hins⟩, .inr (.inr (.inr (.inr (.inr ⟨rfl, fun H5 Q5 E5 s5 hq5 he5 => ⟨ka, w3, w4, M, st, x, a, rfl, h2.kp.mono s5, z3.mono (.of s5), z4.mono (.of s5), ?_⟩⟩))))⟩
  rw [h.kl.pt, hp]
  refine fun v H' s' ev => hq5 v H' fun H'' s'' => hQ v H'' ((s5.trans s').trans s'') ?_
  rw [ev, (h.kl.cnt x p hp).1]
  rfl
/-- under no name -/
theorem de_doNone {X : Cx} {k ew ex er : Expr} {σ : L2.St} {H : Hp} {q pos : Pos} {d l ka sa sd ll : Addr} {M : List Addr} {st : KSt} {c : Cat} {pats : List (Str × Pat)} {n m : Nat} {wd : Str} (T : Tx X.K X.mg) (hr : Room 13 X.A) (hk : VE X k σ H (.ref ka)) (hw : DE X ew σ H (.str wd)) (hx : DE X ex σ H (.str "none")) (hrw : DE X er σ H (eRow []))
    (h : LawAt X.K H d l ka sa sd ll M st c pats n m) (hwd : wd = "answers" ∨ wd = "ways")
    (hg : Gl X "_law_do" := by rfl) (e1 : starEach [k, ew, ex, er] X.env = (false, eval k X.env) :: starEach [ew, ex, er] X.env := by rfl) (e2 : starEach [ew, ex, er] X.env = (false, eval ew X.env) :: starEach [ex, er] X.env := by rfl) (e3 : starEach [ex, er] X.env = (false, eval ex X.env) :: starEach [er] X.env := by rfl) (e4 : starEach [er] X.env = (false, eval er X.env) :: starEach [] X.env := by rfl)
    (hpl : (backTo pos (starEach [ew, ex, er] X.env)).any (·.1) = false := by rfl) : DE X (.Call (.Name "_law_do" q) [k, ew, ex, er] [] pos) σ H (.str "standing") := by
  refine ee_call (ok_l_do T |>.mono (show 11 ≤ 13 by decide)) hr T.gl_do passL (aav_cons (P := fun u _ => u = V.ref ka) mono_eq hk (aav_cons (P := fun u _ => u = V.str wd) mono_eq hw (aav_cons mono_rep hx (aa_one hrw e4) e3) e2) e1) (fun vs H2 Q s2 ⟨w1, q1, f1, f2, w2, q2, f3, f4, w3, q3, f5, z3, w4, f6, z4⟩ hQ => ?_) hg (by decide) e1 hpl
  subst f1 f2 f3 f4 f5 f6
  have h2 := h.mono s2
  obtain ⟨dx, vt, dp, dc, ds, lk, hins⟩ := h2.kp.ins
  have hln : look pats "none" = none := by
    cases e : look pats "none" with
    | none => rfl
    | some p => exact absurd (show ("none" : Str) ∈ patNames from h.pk.pn _ (look_mem e)) (by decide +kernel)
  have key : ∀ (H5 : Hp) (E5 : XK), Same H2 H5 → (∀ x ∈ exs, ∀ H', (∀ H'', Same H' H'' → Q (.str (toldOf x)) H'') → E5 (.ref (He.ga X.K x)) none H') → ∀ H', Same H5 H' → E5 (.ref (He.ga X.K "StandingError")) none H' := fun H5 E5 s5 he5 H' s' => he5 "StandingError" (by decide +kernel) H' fun H'' s'' => by
    rw [told_s]
    exact hQ _ H'' ((s5.trans s').trans s'') rfl
  refine ⟨ka, w3, w4, wd, rfl, ⟨dx, vt, dp, dc, ds, lk, hins⟩, ?_⟩
  rcases hwd with ew | ew
  · refine .inr (.inr (.inr (.inr (.inl ⟨ew, fun H5 Q5 E5 s5 hq5 he5 => ⟨ka, w3, M, st, "none", rfl, h2.kp.mono s5, fun x p hx => (h.pk.gp x p (by rw [← h.kl.pt]; exact hx)).hlen, z3.mono (.of s5), ?_⟩⟩))))
    rw [h.kl.pt, hln]
    exact key H5 E5 s5 he5
  · refine .inr (.inr (.inr (.inr (.inr ⟨ew, fun H5 Q5 E5 s5 hq5 he5 => ⟨ka, w3, w4, M, st, "none", [], rfl, h2.kp.mono s5, z3.mono (.of s5), z4.mono (.of s5), ?_⟩⟩))))
    rw [h.kl.pt, hln]
    exact key H5 E5 s5 he5
/-- (9,) * k -/
theorem de_rep9 {X : Cx} {e : Expr} {σ : L2.St} {H : Hp} {pos p1 p2 : Pos} {kk nn : Nat} {k : Nat} (h1 : 1 ≤ k) (hk : k ≤ 1000) (h : DE X e σ H (.int (k : Int))) (hs : starEach [.Constant (.int 9) nn p2] X.env = (false, eval (.Constant (.int 9) nn p2) X.env) :: starEach [] X.env := by rfl) : DE X (.BinOp (.Tuple [.Constant (.int 9) nn p2] kk p1) .Mult e pos) σ H (eRow (List.replicate k 9)) := fun H1 s => by
  have ht : DE X (.Tuple [.Constant (.int 9) nn p2] kk p1) σ H (eRow [9]) := de_tup (ds := [.int 9]) (aa_cons de_int aa_nil hs) rfl (by show 1 ≤ 100000; decide)
  by_cases e1 : k = 1
  · subst e1
    refine we_op op_rep1 (ht.go s fun v H2 s2 r2 => h.go (s.trans s2) fun u H3 s3 r3 => ?_)
    obtain ⟨a, ea, ha⟩ := r2.tupI
    subst ea
    exact ⟨a, _, rfl, r3, SqT.of (s3 _ _ ha), s2.trans s3, .ofTupI (s3 _ _ ha)⟩
  · refine we_op op_repT (ht.go s fun v H2 s2 r2 => h.go (s.trans s2) fun u H3 s3 r3 => ?_)
    obtain ⟨a, ea, ha⟩ := r2.tupI
    subst ea
    refine ⟨a, (k : Int), _, rfl, r3, SqT.of (s3 _ _ ha), by simp, by omega, by omega, by show 1 ≤ 1000; decide, fun p hp => ⟨(s2.trans s3).trans (.new hp), .ofTupI ?_⟩⟩
    rw [upd_same]
    congr 2
    show (List.replicate k [V.int 9]).flatten = _
    rw [List.map_replicate]
    clear r3 e1 h1 hk h
    induction k with
    | zero => rfl
    | succ k ih => rw [List.replicate_succ, List.flatten_cons, ih, List.replicate_succ]; rfl
theorem cnt_nine {c : Cat} {p : Pat} (ok : PatOk c p) : cntOf p (joinedL c p) (List.replicate (p.head.length + 1) 9) = 0 := by
  by_cases e : cntOf p (joinedL c p) (List.replicate (p.head.length + 1) 9) = 0
  · exact e
  · obtain ⟨t, ht, et⟩ := List.mem_map.mp (cnt_pos.mp e)
    have := (proj_grow ok (joined_dig t ht)).len
    rw [et, List.length_replicate] at this
    omega
end J
/-! The law. -/
namespace J
open PySem PySem.Spec PyProof.Rows L2
section
variable {P : Program} {w : World} {K : PySem.W.Frag} {mg : Str → Option Value} {base : Heap}
def lawS (K : PySem.W.Frag) : Sp := fun vs H Q _ => ∃ (la : Addr) (ns : List Int), vs = [.ref la] ∧ SqL K H la (ns.map V.int) ∧ ns.length ≤ 63 ∧ ∀ H', Q (.bl true) H'
abbrev LawFn (K : PySem.W.Frag) (fd : FuncData) : Prop := FunD K "law" "law" (defArgs s_law) (defBody s_law) (defScope s_law) [] [] (He.fAd K ("law", none)) fd
theorem ok_law (T : Tx K mg) {fd : FuncData} (F : LawFn K fd) : FnOk P w K mg base (L2.CX P w) 14 (He.fAd K ("law", none)) fd ["_law_script"] (lawS K) := by
  refine F.ok sc_law (fun vs H Q E ⟨_, _, e, _⟩ => by subst e; rfl) (fun cdv A outer s H vs Q E hr ⟨la, ns, e, hl, hn, q⟩ => ⟨_, pss_we, ?_⟩)
  subst e
  have hu := hu_of hr
  refine wss_cons (ws_set 1 sc_law.nd (we_call (ok_l_begin T |>.mono (by decide)) hr T.gl_begin passL ((aa_one (P := fun u _ => u = V.ref la) (ve_var 0)).go (Same.refl H) fun vs H1 s1 ⟨w1, e1, e2⟩ => ?_)))
  subst e1 e2
  refine ⟨la, ns, rfl, s1.seq hl, hn, fun d l H2 s2 nd nl hD2 => ?_⟩
  refine wss_cons (ws_set 2 sc_law.nd (we_call (ok_l_catalogue T |>.mono (by decide)) hr T.gl_catalogue passL ((aav_cons (P := fun u _ => u = V.ref d) mono_eq (ve_var 1) (aav_cons (P := fun u _ => u = V.int 3) mono_eq (de_int (i := 3)) (aav_cons (P := fun u _ => u = V.int 5) mono_eq (de_int (i := 5)) (aa_one (P := fun u _ => u = V.int 3) (de_int (i := 3)))))).go (Same.refl H2) fun vs H3 s3 ⟨w1, q1, e1, e2, w2, q2, e3, e4, w3, q3, e5, e6, w4, e7, e8⟩ => ?_)))
  subst e1 e2 e3 e4 e5 e6 e7 e8
  refine ⟨d, l, rfl, hD2.mono s3, fun vc H4 c b4 hD4 hg rc => ?_⟩
  refine wss_cons (ws_set 3 sc_law.nd (we_make T.mkKeeper (ok_Keeper_init T |>.mono (by decide)) hr T.gKeeper passL (aa_one (de_var 2 rc)) fun vs H5 s5 ⟨w1, e1, r5⟩ ka dx n1 n2 n3 => ?_))
  subst e1
  have hD5 := hD4.mono s5
  refine ⟨ka, dx, w1, H5, c, 5, rfl, upd_same, (Same.new n2).trans (Same.new (by rw [upd_ne (Ne.symm n3)]; exact n1)), n1, r5, hg, by decide, fun H6 M s6 kat hM => ⟨rfl, ?_⟩⟩
  have hD6 := hD5.mono s6
  have rc6 : Rep H6 (eCat c) vc := rc.mono (.of (s5.trans s6))
  have hdM : d ∉ M := fun hm => by
    obtain ⟨_, _, _, _, z, _⟩ := hD5
    rw [hM d hm] at z; cases z
  have hlM : l ∉ M := fun hm => by
    obtain ⟨_, _, _, _, _, z, _⟩ := hD5
    rw [hM l hm] at z; cases z
  refine wss_cons (ws_set 4 sc_law.nd (we_of (pe_disp (pps_cons pe_we pe_we (pps_cons pe_we pe_we (pps_cons pe_we pe_we pps_nil))) rfl rfl (by simp) (by decide)) fun sa hsa => ?_))
  have s7 : Same H6 (L2.upd H6 sa (.dK [])) := .new hsa
  refine (de_str (x := "catalogue")).go (Same.refl _) fun k1 H7 t7 f1 => (de_var 2 (rc6.mono (.of (s7.trans t7)))).go (Same.refl H7) fun x1 H8 t8 f2 => (de_str (x := "standing")).go (Same.refl H8) fun k2 H9 t9 f3 => we_newK fun sd hsd => (de_str (x := "lines")).go (Same.refl _) fun k3 H11 t11 f5 => LE.go (le_lst aa_nil (by decide)) (Same.refl H11) fun ll ys H12 t12 nll hll rl => ?_
  obtain rfl : ys = [] := rl
  cases (show k1 = _ from f1)
  cases (show k2 = _ from f3)
  cases (show k3 = _ from f5)
  have sB : Same H6 H9 := ((s7.trans t7).trans t8).trans t9
  have sC : Same H9 H12 := ((Same.new (o := .dK []) hsd).trans t11).trans t12
  have hsa12 : H12 sa = some (.dK []) := sC _ _ (t9 _ _ (t8 _ _ (t7 _ _ upd_same)))
  have hsd12 : H12 sd = some (.dK []) := t12 _ _ (t11 _ _ upd_same)
  have hsasd : sa ≠ sd := fun e => by rw [← e, t9 _ _ (t8 _ _ (t7 _ _ upd_same))] at hsd; cases hsd
  have hsall : sa ≠ ll := fun e => by rw [e, hll] at hsa12; cases hsa12
  refine ⟨hsa12, [(.inr "catalogue", x1), (.inr "standing", .ref sd), (.inr "lines", .ref ll)], rfl, by show 3 ≤ 15; decide, ?_⟩
  have s612 : Same H6 H12 := sB.trans sC
  have ku : Kp H12 (L2.upd H12 sa (.dK (mergeK [] [(.inr "catalogue", x1), (.inr "standing", .ref sd), (.inr "lines", .ref ll)]))) := .upd hsa12 rfl
  have sS : Same H6 (L2.upd H12 sa (.dK (mergeK [] [(.inr "catalogue", x1), (.inr "standing", .ref sd), (.inr "lines", .ref ll)]))) := s612.mut hsa
  have hLaw : LawAt K (L2.upd H12 sa (.dK (mergeK [] [(.inr "catalogue", x1), (.inr "standing", .ref sd), (.inr "lines", .ref ll)]))) d l ka sa sd ll M (kst0 c) c [] 1 5 := by
    have hfree : ∀ y, H6 y = none → y ∉ M := fun y hy hm => by
      obtain ⟨u, z, _⟩ := kat.loose y hm
      rw [hy] at z; cases z
    have nsd : H6 sd = none := sB.free hsd
    have nll6 : H6 ll = none := (sB.trans ((Same.new (o := .dK []) hsd).trans t11)).free nll
    obtain ⟨_, _, _, _, z1, z2, _⟩ := id hD6
    refine ⟨hD6.mono sS, kat.mono sS, ⟨rfl, rfl, rfl, (fun y p e => by cases e)⟩, ⟨⟨_, x1, [], upd_same, ?_, ?_, ?_, ?_, by rw [upd_ne (Ne.symm hsall)]; exact hll, Nat.zero_le _, ((f2.mono (.of (t9.trans sC))).mono ku)⟩, ⟨⟨[], by rw [upd_ne (Ne.symm hsasd)]; exact hsd12, rfl, (fun y p e => by cases e)⟩, by show 0 ≤ 3; decide, List.nodup_nil⟩, hsasd⟩, hg, ⟨(fun y p e => by cases e), (fun y hy => by cases hy)⟩, ?_, fun e => ?_, fun e => ?_⟩
    · rfl
    · rfl
    · rfl
    · show 3 ≤ 10; decide
    · intro y hy
      simp only [List.mem_cons, List.not_mem_nil, or_false] at hy
      rcases hy with e | e | e | e | e <;> rw [e]
      · exact hdM
      · exact hlM
      · exact hfree sa hsa
      · exact hfree sd nsd
      · exact hfree ll nll6
    · rw [e, nll6] at z1; cases z1
    · rw [e, nll6] at z2; cases z2
  generalize L2.upd H12 sa (.dK (mergeK [] [(.inr "catalogue", x1), (.inr "standing", .ref sd), (.inr "lines", .ref ll)])) = HS at *
  refine wss_cons (ws_forX (passes_of rfl) rfl T.b_range ((de_int (i := 12)).go (Same.refl HS) fun v13 H13 s13 e13 => ⟨12, e13, by decide, fun i σ' H' => ∃ (o5 : Option V) (sd ll : Addr) (M : List Addr) (st : KSt) (c : Cat) (pats : List (Str × Pat)) (n m : Nat), σ' = [some (.ref la), some (.ref d), some vc, some (.ref ka), some (.ref sa), o5, none, none, none, none, none, none, none] ∧ LawAt K H' d l ka sa sd ll M st c pats n m ∧ n ≤ 1 + i ∧ m ≤ 5 + i, ?_, ?_, ?_⟩) (pg_name (i := 5) sc_law.nd rfl (.inl rfl)))
  · exact ⟨none, sd, ll, M, kst0 c, c, [], 1, 5, rfl, hLaw.mono s13, Nat.le_refl _, Nat.le_refl _⟩
  · rintro i σ' H' hi ⟨o5, sd, ll, M, st, c, pats, n, m, eσ, h, hn1, hm1⟩
    subst eσ
    refine wss_cons (ws_if (wt_of (pt_not pt_we) (wt_val (we_call (ok_l_step T) hr T.gl_step passL ((aav_cons (P := fun u _ => u = V.ref d) mono_eq (ve_var 1) (aav_cons (P := fun u _ => u = V.ref ka) mono_eq (ve_var 3) (aa_one (P := fun u _ => u = V.ref sa) (ve_var 4)))).go (Same.refl H') fun vs H14 s14 ⟨w1, q1, e1, e2, w2, q2, e3, e4, w3, e5, e6⟩ => ?_)))))
    subst e1 e2 e3 e4 e5 e6
    refine ⟨d, l, ka, sa, sd, ll, M, st, c, pats, n, m, rfl, h.mono s14, by omega, by omega, fun H15 M2 st2 c2 pats2 sd2 n2 m2 hn2 hm2 h15 => ⟨true, rfl, ?_⟩⟩
    refine iteF ?_
    refine wss_nil (wss_one (ws_if (BT.go (bt_and (bt_cmp (ce_eq (de_mod (de_var (d := .int (i : Int)) 5 rfl) de_int (by decide)) de_int)) fun _ => bt_not (bt_val (k := true) (ee_call (ok_l_same T |>.mono (by decide)) hr T.gl_same passL (aav_cons (P := fun u _ => u = V.ref ka) mono_eq (ve_var 3) (aa_one (P := fun u _ => u = V.ref sa) (ve_var 4))) fun vs H16 Q2 s16 ⟨w1, q1, e1, e2, w2, e3, e4⟩ hQ => ?_))) (Same.refl H15) fun H16 s16 => ?_)))
    · rw [Bool.not_true, Bool.and_false, if_neg (by decide)]
      exact wss_nil ⟨_, sd2, ll, M2, st2, c2, pats2, n2, m2, rfl, h15.mono s16, by omega, by omega⟩
    · subst e1 e2 e3 e4
      exact ⟨ka, sa, sd2, ll, M2, st2, c2, pats2, n2, m2, n2, rfl, h15.kp.mono s16, h15.kl, h15.rc.mono s16, h15.gc, by omega, h15.pk, fun H17 s17 => hQ _ H17 s17 rfl⟩
  · rintro σ' HL ⟨o5, sd, ll, M, st, c, pats, n, m, eσ, h, hn1, hm1⟩
    subst eσ
    obtain ⟨kva, vc2, wl, a1, a2, a3, a4, a5, a6, a7, a8⟩ := h.rc.ex
    have hN3 := h.rc.st.names
    refine wss_cons (ws_set 6 sc_law.nd (EE.go (ve_dgetK (k := .inr "standing") hu (ve_var 4) (.inl a1) (ve_str de_str) a2) (Same.refl HL) fun v14 H14 s14 e14 => ?_))
    subst e14
    have h14 := h.mono s14
    have retF : ∀ {σ : L2.St} {H5 : Hp} {pos : Pos} {n : Nat} {p2 : Pos} {D : Ends}, False → WSs (cxOf (L2.CX P w) P w K mg base n_law "law" (defScope s_law) (He.fAd K ("law", none)) cdv A outer s H E) [.Return (some (.Constant (.bool false) n p2)) pos] D σ H5 := fun {σ H5 pos n p2 D} z => z.elim
    refine wss_cons (ws_forN (ds := (srtS (pats.map (·.1))).map .str) (passes_of rfl) rfl (le_names rfl T.b_sorted (ve_var 6) h14.rc.st) (pg_name (i := 7) sc_law.nd rfl (.inl rfl))
      (fun H15 i σ' H' => ∃ (o7 o8 o9 o10 o11 : Option V), σ' = [some (.ref la), some (.ref d), some vc, some (.ref ka), some (.ref sa), o5, some (.ref sd), o7, o8, o9, o10, o11, none] ∧ Same H14 H15 ∧ Same H15 H')
      (fun H15 s15 => ⟨none, none, none, none, none, rfl, s15, .refl _⟩) (fun H15 i σ' H' ⟨_, _, _, _, _, _, _, s16⟩ => ⟨.of s16, fun l xs _ h2 => s16 _ _ h2⟩) ?_ ?_)
    · rintro H15 i dd v σ' H' _ hd rd ⟨o7, o8, o9, o10, o11, eσ, s15, s16⟩
      subst eσ
      obtain ⟨y, hyi, e⟩ := map_at hd
      subst e
      have hym := List.mem_of_getElem? hyi
      obtain ⟨p, hpl⟩ := look_some (pats := pats) ((srtS_perm _).mem_iff.mp hym)
      have gp := h.pk.gp y p hpl
      have ok := patOk_of h.gc (by omega) gp
      have hh := ok.hlen
      have hjl := joined_len ok
      have h16 := h14.mono (s15.trans s16)
      refine wss_cons (ws_set 8 sc_law.nd (we_newT fun cd hcd => ?_))
      have s17 : Same H' (L2.upd H' cd (.dT [])) := .new hcd
      have hc17 : (L2.upd H' cd (.dT [])) cd = some (.dT []) := upd_same
      generalize L2.upd H' cd (.dT []) = H17 at *
      have h17 := h16.mono s17
      refine wss_cons (ws_de (d := ePat p) 9 sc_law.nd (de_stand hu (ve_var 6) h17.rc.st (de_var 7 (rd.mono (.of s17))) hpl) fun vp H18 s18 rp => ?_)
      have h18 := h17.mono s18
      have a18 : H18 sa = some (.dK kva) := (s14.trans ((s15.trans s16).trans (s17.trans s18))) _ _ a1
      have rc18 : Rep H18 (eCat c) vc2 := a8.mono (.of (s14.trans ((s15.trans s16).trans (s17.trans s18))))
      have hc18 := s18 _ _ hc17
      refine wss_cons (ws_forP (PoN p) (fun a v H H' => PoN.mono a v H H') (joinedL c p) (passes_of rfl) rfl (ee_call (Pv := fun v H2 => ∃ l ws, v = V.ref l ∧ H18 l = none ∧ H2 l = some (.lst ws) ∧ AllP (PoN p) H2 (joinedL c p) ws) (ok_l_assignments T |>.mono (by decide)) hr T.gl_assignments passL (aav_cons mono_rep (ve_de (ve_dgetK (k := .inr "catalogue") hu (ve_var 4) (.inl a18) (ve_str de_str) a3) rc18) (aa_one (de_var 9 rp))) fun vs H19 Q2 s19 ⟨w1, q1, f1, z1, w2, f2, z2⟩ hQ => ?_) (pg_name (i := 10) sc_law.nd rfl (.inr rfl))
        (fun H19 j σ' H' => ∃ (o10 o11 : Option V) (kvs : List (List Key × V)), σ' = [some (.ref la), some (.ref d), some vc, some (.ref ka), some (.ref sa), o5, some (.ref sd), some v, some (.ref cd), some vp, o10, o11, none] ∧ Same H18 H19 ∧ SameB [cd] H19 H' ∧ H' cd = some (.dT kvs) ∧ CtD p.head.length kvs (cntOf p ((joinedL c p).take j)))
        (fun H19 s19 => ⟨_, _, [], rfl, s19, .refl _ _, s19 _ _ hc18, CtD.nil _⟩)
        (fun H19 j σ' H' ⟨_, _, _, _, s19, b, _⟩ l xs h1 h2 => b l _ h2 fun hm => by rw [List.mem_singleton.mp hm, hc18] at h1; cases h1)
        (fun H19 j σ' H' a v ⟨_, _, _, _, s19, b, _⟩ _ ⟨kd, kv, e1, e2, e3⟩ => ⟨kd, kv, e1, b _ _ e2 (fun hm => by rw [List.mem_singleton.mp hm, s19 _ _ hc18] at e2; cases e2), e3⟩) ?_ ?_)
      · subst f1 f2
        exact ⟨w1, w2, m, c, p, rfl, z1, z2, h.gc, by omega, gp, fun l ws H20 s20 n20 h20 a20 => hQ _ _ s20 ⟨l, ws, rfl, s19.free n20, h20, a20⟩⟩
      · rintro H19 j t u σ' H20 _ ht ⟨kd, kv, eu, hkd, hkn⟩ ⟨o10, o11, kvs, eσ, s19, b20, h20, ct20⟩
        subst eσ eu
        have gt := joined_dig t (List.mem_of_getElem? ht)
        have kp20 : Kp H18 H20 := (Kp.of s19).trans (b20.kp fun x hx => by rw [List.mem_singleton.mp hx]; exact ⟨_, s19 _ _ hc18, rfl⟩)
        have hpr : GRow p.head.length (proj p t) := proj_grow ok gt
        refine wss_cons (ws_de (d := eRow (proj p t)) 11 sc_law.nd (DE.is (de_tuple T.b_tuple (LE.lv (le_mU n_law (defScope s_law) 12 p.head .str (fun v => .int (t.getD (idx (pvars p) v) 0)) rfl sc_law.nd (DE.ue (de_ix (d := eStrs p.head) (DE.ue (de_var 9 (rp.mono kp20))) de_int rfl)) (by omega) fun y2 u2 H21 hy2 s21 ru2 => ?_))) (by rw [proj_at]; rfl)) fun va H21 s21 ra => ?_)
        · intro s22 H22 C cl fp
          refine de_n (ve_dgetK (k := .inr y2) hu (ve_var 10) (.inl (s21 _ _ hkd)) (ve_str (de_var 12 ru2)) ?_)
          rw [hkn, kn_all (ok.head y2 hy2)]
          rfl
        · have h21 := s21 _ _ h20
          refine wss_one (ws_dputT hu (r := proj p t) mono_rep (DE.is (d2 := .int ((cntOf p ((joinedL c p).take j) (proj p t) + 1 : Nat) : Int)) (de_add (de_n ((ve_dget2T hu (ve_var 8) (.inl h21) (de_var 11 ra) (ve_n de_int) ⟨rfl, rfl, rfl, rfl⟩).imp fun v5 H5 _ e5 => by rw [e5]; exact ct20.get _)) de_int) rfl) (ve_var 8) h21 (de_var 11 ra) (by have := ct20.len hh; omega) fun v7 H22 s22 e7 => ?_)
          cases (show v7 = _ from e7)
          exact ⟨_, _, _, rfl, s19, (b20.trans (.of (s21.trans s22))).trans (.upd (by simp)), upd_same, (ct20.set hpr (Nat.succ_pos _)).congr fun r => (cnt_take ht r).symm⟩
      · rintro H19 σ' H20 _ ⟨o10, o11, kvs, eσ, s19, b20, h20, ct20⟩
        subst eσ
        rw [List.take_length] at ct20
        obtain ⟨rs, k1, k2, k3, k4⟩ := ct20.keys
        have s1620 : Same H' H20 := same_out (s17.trans (s18.trans s19)) b20 fun x hx => by rw [List.mem_singleton.mp hx]; exact hcd
        have h20L := h16.mono s1620
        have rd20 := rd.mono (.of s1620)
        have kp20 : Kp H18 H20 := (Kp.of s19).trans (b20.kp fun x hx => by rw [List.mem_singleton.mp hx]; exact ⟨_, s19 _ _ hc18, rfl⟩)
        have rp20 := rp.mono kp20
        refine wss_cons (ws_forN (ds := (srt rs).map eRow) (passes_of rfl) rfl (le_srtD (rs := rs) (d := p.head.length) (B := 3) rfl T.b_sorted (ve_var 8) h20 k1 (by have := grow_len k3 k2 hh; omega) (fun h2 => grow_two k3 k2 h2) fun r hr2 => ⟨(k3 r hr2).len, bd3 (k3 r hr2)⟩) (pg_name (i := 11) sc_law.nd rfl (.inl rfl))
          (fun H21 j σ' H' => ∃ (o11 : Option V), σ' = [some (.ref la), some (.ref d), some vc, some (.ref ka), some (.ref sa), o5, some (.ref sd), some v, some (.ref cd), some vp, o10, o11, none] ∧ Same H20 H21 ∧ Same H21 H')
          (fun H21 s21 => ⟨_, rfl, s21, .refl _⟩) (fun H21 j σ' H' ⟨_, _, _, s22⟩ => ⟨.of s22, fun l xs _ h2 => s22 _ _ h2⟩) ?_ ?_)
        · rintro H21 j d3 u σ' H22 _ hd3 rd3 ⟨o11, eσ, s21, s22⟩
          subst eσ
          obtain ⟨a, ha, e⟩ := map_at hd3
          subst e
          have s2022 := s21.trans s22
          have hva : valV kvs (kI a) = some (.int (cntOf p (joinedL c p) a : Int)) := by rw [ct20.val, if_neg ((k4 a).mp (mem_srt.mp (List.mem_of_getElem? ha)))]
          refine wss_one (ws_if (BT.go (bt_cmp (ce_ne (de_doWays (x := y) (p := p) (a := a) T hr (ve_var 3) de_str (de_var 7 (rd20.mono (.of s2022))) (de_var 11 rd3) (h20L.mono s2022) hpl) (de_n (ve_dgetT hu (ve_var 8) (.inl (s2022 _ _ h20)) (de_var 11 rd3) hva)))) (Same.refl H22) fun H23 s23 => ?_))
          rw [decide_eq_true rfl, if_neg (by decide)]
          exact wss_nil ⟨_, rfl, s21, s22.trans s23⟩
        · rintro H21 σ' H22 _ ⟨o11, eσ, s21, s22⟩
          subst eσ
          have s2022 := s21.trans s22
          refine wss_one (ws_if (BT.go (bt_cmp (ce_ne (de_doWays (x := y) (p := p) (a := List.replicate (p.head.length + 1) 9) T hr (ve_var 3) de_str (de_var 7 (rd20.mono (.of s2022))) (de_rep9 (k := p.head.length + 1) (by omega) (by omega) (DE.is (d2 := .int ((p.head.length + 1 : Nat) : Int)) (de_add (de_len T.b_len (DE.qe (de_ix (d := eStrs p.head) (DE.ue (de_var 9 (rp20.mono (.of s2022)))) de_int rfl))) de_int) (by rw [List.length_map]; rfl))) (h20L.mono s2022) hpl) de_int)) (Same.refl H22) fun H23 s23 => ?_))
          rw [cnt_nine ok, if_neg (by decide)]
          exact wss_nil ⟨_, _, _, _, _, rfl, s15, s16.trans (s1620.trans (s2022.trans s23))⟩
    · rintro H15 σ' H' _ ⟨o7, o8, o9, o10, o11, eσ, s15, s16⟩
      subst eσ
      have h16 := h14.mono (s15.trans s16)
      refine wss_one (rt_de (Same.refl H') (de_and3 (k := true) (m := true) (l := true) (ee_call (ok_l_same T |>.mono (by decide)) hr T.gl_same passL (aav_cons (P := fun u _ => u = V.ref ka) mono_eq (ve_var 3) (aa_one (P := fun u _ => u = V.ref sa) (ve_var 4))) fun vs H17 Q2 s17 ⟨w1, q1, e1, e2, w2, e3, e4⟩ hQ => ?_) (fun _ => DE.is (de_cmp (ce_eqs (de_doNone T hr (ve_var 3) (de_str (x := "answers")) de_str (de_tup aa_nil rfl (by decide)) h16 (.inl rfl)) de_str)) rfl) fun _ _ => DE.is (de_cmp (ce_eqs (de_doNone T hr (ve_var 3) (de_str (x := "ways")) de_str (de_tup aa_nil rfl (by decide)) h16 (.inr rfl)) de_str)) rfl) fun v' H17 s17 r17 => ?_)
      · subst e1 e2 e3 e4
        exact ⟨ka, sa, sd, ll, M, st, c, pats, n, m, n, rfl, h16.kp.mono s17, h16.kl, h16.rc.mono s17, h16.gc, by omega, h16.pk, fun H18 s18 => hQ _ H18 s18 rfl⟩
      · cases (show v' = _ from r17)
        exact q H17
end
end J
/-! The end: the head's facts give the law's promise; the promise gives the claim. -/
namespace J
open PySem PySem.Spec PyProof.Rows L2
theorem tx_of {K : PySem.W.Frag} {h : Heap} {mg : Str → Option Value} (X : K.In h) (G : h.Ns mainGlobals mg) (c : SaysX K) : Tx K mg := by
  refine ⟨c, fun {x o} e => ?_⟩
  cases o with
  | some v => exact PySem.W.mg_of X G e
  | none => exact PySem.W.mg_none_of X G e
theorem law_fn {K : PySem.W.Frag} {mg : Str → Option Value} (T : Tx K mg) : ∃ fd : FuncData, LawFn K fd ∧ ∀ (s : Shared) (u : Value), BindsTo s fd ⟨[u], []⟩ [("_law_script", u)] := by
  obtain ⟨fd, F⟩ := T.cd.def_ 39 (d := ⟨("law", none), "law", "law", defArgs s_law, defBody s_law, defScope s_law, [], []⟩) rfl
  have b := FunD.bindsA (ps := ["_law_script"]) F fun _ _ _ _ _ _ us hl => match us, hl with
    | [_], _ => rfl
  exact ⟨fd, F, fun s u => b s [u] rfl⟩
theorem flies_not {P : Program} {w : World} {H : Hp} {s : Shared} {e : Value} {s' : Shared} : ¬ L2.CX P w [] H s (fun _ _ _ => False) e s' := by
  rintro ⟨_, _, _, _, _, _, _, _, _, _, _, _, z⟩
  exact z
end J
open PySem PySem.W PySem.Calls PyProof.Rows
theorem PySem.Challenge.cw_joinhall_k32_whole_standing_answers_are_holds : PySem.Challenge.rw_joinhall_k32_whole_standing_answers_are.Holds := by
  w_on; o_law
  refine HandSHeadRun.head_any (r := J.R) (q := view J.R.prog [72]) (H := J.hk) (ob := J.ob) (M := 6000) (loose := J.looseN) (d := HandSHeadRun.topDef J.R.prog 72) (kwd := []) J.ob_eq (by kernel_rfl) (fun s => by kernel_rfl) J.run (by kernel_rfl) (by kernel_rfl) (by kernel_rfl) (by rfl) (by first | assumption | decide +kernel) (by decide +kernel) ⟨rfl, rfl, rfl, rfl, rfl, by decide +kernel⟩ ?hw ?hc
  case hw => w_witness2
  case hc =>
    refine Att.attach_call (l := PySem.Challenge.rw_joinhall_k32_whole_standing_answers_are) (n := 63) rfl (by kernel_rfl) fun w s₀ s₁ mg mb fa o pm cd doc la vs ns G Y ho hd hcd hm hob hi hl hg => ?_
    obtain ⟨K, KX, c⟩ := Y
    have T := J.tx_of KX G.T.g c
    have e : (HandSHeadRun.topDef J.R.prog 72).name = ("law" : PySem.Str) := by kernel_rfl
    rw [e] at hm
    have ea := hm.symm.trans T.glaw
    cases ea
    obtain ⟨fd, F, hb⟩ := J.law_fn T
    exact L2.law_call KX G.T.g G.T.b G.T.builtins G.T.nolimit hg hob hi (Nat.le_trans hl (by decide)) ⟨rfl, by decide, by decide⟩ (fun base KB GB => J.ok_law (J.tx_of KB GB c) F) hb (fun H _ hS => ⟨la, ns, rfl, hS, hl, fun _ => rfl⟩) fun H e s' => J.flies_not
