import PyProof.Rows.All
import Wide.All
import OpenK.AllK
import Wide.FinOn
import PyProof.ExcBaseAll.Exception
import PySem.Challenge.RW_pf0126_01
open PySem PySem.W PyProof.Rows PySem.Calls PySem.Spec
set_option Elab.async false
set_option maxRecDepth 100000
namespace Mine

/-- two names that the head would lay for the program and the row: taken, so that it does without -/
theorem gen.tw8062805763228029184 : True := trivial
theorem gen.tw1334366806492695327 : True := trivial
noncomputable def same (n : Nat) : Nat := n
theorem same_if (_h : PySem.Challenge.rw_pf0126_01.Holds) : same 0 = 0 := rfl
set_option Elab.async true in
set_option maxHeartbeats 8000000 in
/-- only for the two constants that the head makes on its way: the written part and the view -/
theorem gen : same 0 = 0 ∨ True := by
  simp (disch := (w_on; o_law; k_head)) only [same_if, or_true]
theorem topOff : gen.heap_1_39 = gen.heap_1_39 ∧ gen.view_1_40 = gen.view_1_40 := by
  w_top off
  exact ⟨rfl, rfl⟩

/-- the tokens that the law builds -/
inductive Tk where
  | nK | nA | nC | lp | rp | plus | minus | star | pow | comma | colon | no
noncomputable def Tk.isName : Tk → Bool
  | .nK | .nA | .nC => true
  | _ => false
noncomputable def Tk.kind (t : Tk) : Str := if t.isName then Str.ofString "NAME" else Str.ofString "OP"
noncomputable def Tk.text : Tk → Str
  | .nK => Str.ofString "K"
  | .nA => Str.ofString "A"
  | .nC => Str.ofString "C"
  | .lp => Str.ofString "("
  | .rp => Str.ofString ")"
  | .plus => Str.ofString "+"
  | .minus => Str.ofString "-"
  | .star => Str.ofString "*"
  | .pow => Str.ofString "**"
  | .comma => Str.ofString ","
  | .colon => Str.ofString ":"
  | .no => Str.ofString ".NOT."

/-- the list of tokens lies at a -/
noncomputable def ToksAt (h : Heap) (a : Addr) (ts : List Tk) : Prop :=
  ts.length ≤ 2 ^ 20 ∧ ∃ vs : List Value, h.IsList a vs.toArray ∧ vs.length = ts.length ∧
    ∀ (i : Nat) (t : Tk), ts[i]? = some t → ∃ (b : Addr) (t1 t2 : Tok) (n : Int) (t3 : Tok), vs[i]? = some (Value.ref b) ∧ IsTup h b [Value.str t.kind t1, .str t.text t2, .int n t3].toArray
theorem ToksAt.keeps {h h' : Heap} {a : Addr} {ts : List Tk} (k : ∀ b o, h.get? b = some o → h'.get? b = some o) (x : ToksAt h a ts) : ToksAt h' a ts := by
  obtain ⟨hl, vs, ⟨o, ho, r⟩, hn, hi⟩ := x
  refine ⟨hl, vs, ⟨o, k _ _ ho, r⟩, hn, fun i t e => ?_⟩
  obtain ⟨b, t1, t2, n, t3, h1, h2⟩ := hi i t e
  exact ⟨b, t1, t2, n, t3, h1, h2.keeps k⟩

/-- the mark at a place -/
noncomputable def opAt (ts : List Tk) (i : Nat) (x : Str) : Bool := match ts[i]? with
  | some t => !t.isName && t.text == x
  | none => false

abbrev Ar (dp un : Nat) (gd : Option (List Code)) (fr : List Env) : Around := { handled := none, depth := dp, frames := some fr, guards := gd, units := un }
abbrev Keeps (h h' : Heap) : Prop := ∀ b o, h.get? b = some o → h'.get? b = some o

structure Cx (w : World) (A : Around) (base : Heap) (fr : List Env) (mean : ExcName → Option Value) (mg mb : Str → Option Value) (h : Heap) : Prop where
  B : Below A base fr h
  X : (gen.heap_1_39 w.params).In h
  T : Top gen.view_1_40 (looseW gen.view_1_40 [Str.ofString "PRIORITIES"]) mean mg mb h

/-- new objects of a call -/
noncomputable def NewIn (g h : Heap) (tl : List (Addr × Obj)) : Prop := ∀ p ∈ tl, h.get? p.1 = some p.2 ∧ g.get? p.1 = none
theorem NewIn.nil {g h : Heap} : NewIn g h [] := fun _ h => nomatch h

theorem NewIn.news {h₀ g h : Heap} {L : Addr} {m : Str → Option Value} {tl : List (Addr × Obj)} (n : NewIn g h tl) (F : Fr h₀ L g m) : News h₀ L h tl := fun q hq => by
  obtain ⟨h1, h2⟩ := n q hq
  refine ⟨h1, fun e => ?_, ?_⟩
  · obtain ⟨o, _, _, ho, _⟩ := F.ns
    rw [e, ho] at h2
    cases h2
  · cases q' : h₀.get? q.1 with
    | none => rfl
    | some o =>
      rw [F.keep _ _ q'] at h2
      cases h2
theorem NewIn.of {g h : Heap} {L : Addr} {tl : List (Addr × Obj)} (N : News g L h tl) : NewIn g h tl := fun q hq => ⟨(N q hq).1, (N q hq).2.2⟩

/-- a value without new objects -/
noncomputable def Just (val : Tok → Value) (v : Value) (tl : List (Addr × Obj)) : Prop := (∃ t, v = val t) ∧ tl = []

/-- SyntaxFault is on its way -/
noncomputable def Flies (base G : Heap) (l : List Env) (e : Addr) (h : Heap) : Prop := ∃ t vs, RaisedS base G l e (.ref 44) t vs [] h ∧ G.UpToSlots h

/-- what a call does: it gives a value and new objects as P says, or raises if X -/
noncomputable def CallSpec (prog : Program) (w : World) (A : Around) (fr : List Env) (base : Heap) (s : Shared) (f : Addr) (args : List Value) (P : Value → List (Addr × Obj) → Prop) (X : Prop) : Prop :=
  ∀ (Q E : Value → Shared → Prop),
    (∀ v tl h' tk', Keeps s.heap h' → NewIn s.heap h' tl → P v tl → Q v { s with heap := h', toks := tk' }) →
    (X → ∀ e h' tk', Flies base s.heap fr e h' → E (.ref e) { s with heap := h', toks := tk' }) →
    wpAny (model prog w) A (call (.ref f) args) Q E s

noncomputable def Back (s : Shared) (L : Addr) (P : Value → List (Addr × Obj) → Prop) (v : Value) (s' : Shared) : Prop :=
  ∃ h' tk' m tl, s' = { s with heap := h', toks := tk' } ∧ Fr s.heap L h' m ∧ NewIn s.heap h' tl ∧ P v tl

section
variable {prog : Program} {w : World} {dp un : Nat} {gd : Option (List Code)} {fr : List Env} {base : Heap} {s : Shared} {mean : ExcName → Option Value} {mg mb : Str → Option Value}
  {name qual : Str} {params : Arguments} {body : List Stmt} {scope : Scope} {dV kV doc pm cdv ct oc : Value} {an od : Option Addr} {osl : Array (Option Value)} {f : Addr} {args : List Value} {binds : List (Str × Value)}
  {P : Value → List (Addr × Obj) → Prop} {X : Prop}

theorem enter (C : Cx w (Ar dp un gd fr) base fr mean mg mb s.heap)
    (ho : (gen.heap_1_39 w.params).lookup f = some ⟨oc, od, .func (fnOf name qual params body scope dV kV doc pm an cdv ct), osl⟩) (hcd : codeIn (gen.heap_1_39 w.params) cdv qual = true) (hroom : dp < recursionLimit)
    (hbind : BindsTo s (fnOf name qual params body scope dV kV doc pm an cdv ct) ⟨args, []⟩ binds) (hloc : ∀ y ∈ binds, scope.names.lookup y.1 = some .local)
    (h : ∀ L h₁ (E : Value → Shared → Prop), (X → ∀ e h' tk', Flies base s.heap fr e h' → E (.ref e) { s with heap := h', toks := tk' }) →
      Fr s.heap L h₁ (fun y => binds.reverse.lookup y) → News s.heap L h₁ [] →
      wpAny (model prog w) ((Ar dp un gd fr).deeper (envOf qual scope L f cdv)) (execs body (envOf qual scope L f cdv))
        (fun fl s' => Back s L P (match fl with | .ret v => v | _ => .none) s')
        (fun e s' => wpAny (model prog w) ((Ar dp un gd fr).deeper (envOf qual scope L f cdv)) (leaving (envOf qual scope L f cdv) e) (fun _ s'' => E e s'') (fun e' s'' => E e' s'') s')
        { s with heap := h₁, toks := s.toks + binds.length })
    (hco : scope.isCoroutine = false) (hgen : scope.isGenerator = false) (hk : scope.kind = .function)
    (hcell : ∀ x ∈ scope.names, x.2 ≠ .cell) : CallSpec prog w (Ar dp un gd fr) fr base s f args P X := by
  intro Q E hret hexc
  refine wpAny_call (codeAny_call_def (fd := fnOf name qual params body scope dV kV doc pm an cdv ct) (body := body) (binds := binds) hroom (C.X _ _ ho) rfl C.T.nolimit (codeRec_of C.X hcd) rfl hbind hcell hloc (fun h₁ hns hk₁ => ?_) hco hgen hk)
  refine wpAny_mono (h s.heap.objs.size h₁ E hexc ⟨hns, hk₁, Nat.le_refl _⟩ News.nil) (fun fl s' hl => ?_) fun _ _ y => y
  obtain ⟨h', tk', m, tl, rfl, F, Nw, hp⟩ := hl
  exact hret _ tl h' tk' F.keep Nw hp

theorem CallSpec.use {L : Addr} {h₀ : Heap} {m : Str → Option Value} {news : List (Addr × Obj)} {A : Around} {Q E : Value → Shared → Prop} (C : CallSpec prog w A fr base s f args P X) (F : Fr h₀ L s.heap m) (N : News h₀ L s.heap news)
    (ret : ∀ v tl h' tk', Fr h₀ L h' m → News h₀ L h' (tl ++ news) → NewIn s.heap h' tl → P v tl → Q v { s with heap := h', toks := tk' })
    (exc : X → ∀ e h' tk', Flies base s.heap fr e h' → E (.ref e) { s with heap := h', toks := tk' }) :
    wpAny (model prog w) A (call (.ref f) args) Q E s := by
  refine C Q E (fun v tl h' tk' k nw p => ret v tl h' tk' (F.keeps k) (fun q hq => ?_) nw p) exc
  rcases List.mem_append.mp hq with hq | hq
  · exact nw.news F q hq
  · exact (N.grown k) q hq
theorem CallSpec.usePure {val : Tok → Value} {L : Addr} {h₀ : Heap} {m : Str → Option Value} {news : List (Addr × Obj)} {A : Around} {Q E : Value → Shared → Prop} (C : CallSpec prog w A fr base s f args (Just val) False) (F : Fr h₀ L s.heap m) (N : News h₀ L s.heap news)
    (ret : ∀ t h' tk', Fr h₀ L h' m → News h₀ L h' news → Q (val t) { s with heap := h', toks := tk' }) :
    wpAny (model prog w) A (call (.ref f) args) Q E s :=
  C.use F N (fun v tl h' tk' F' N' _ p => by
    obtain ⟨⟨t, rfl⟩, rfl⟩ := p
    exact ret t h' tk' F' N') fun x => x.elim

theorem Cx.inn {h₀ : Heap} {L a : Addr} {cd : Value} {cn : Str} {cs : Scope} {h : Heap} {m : Str → Option Value} (B : Below (Ar dp un gd fr) base fr h₀) (X : (gen.heap_1_39 w.params).In h₀)
    (T : Top gen.view_1_40 (looseW gen.view_1_40 [Str.ofString "PRIORITIES"]) mean mg mb h₀) (F : Fr h₀ L h m) (hk : cs.kind = .function) :
    Cx w (Ar (dp + 1) (un + 3) gd (envOf cn cs L a cd :: fr)) base (envOf cn cs L a cd :: fr) mean mg mb h :=
  ⟨B.push F hk, X.keeps F.keep, T.keeps F.keep⟩

theorem backJust {val : Tok → Value} {L : Addr} {m : Str → Option Value} {h' : Heap} {tk' : Nat} {v : Value} (F : Fr s.heap L h' m) (e : ∃ t, v = val t) : Back s L (Just val) v { s with heap := h', toks := tk' } :=
  ⟨h', tk', m, [], rfl, F, NewIn.nil, e, rfl⟩

theorem thru {L : Addr} {a : Addr} {cd : Value} {h h' : Heap} {m : Str → Option Value} {e : Addr} {tk' : Nat} {E E' : Value → Shared → Prop} (B : Below (Ar dp un gd fr) base fr s.heap) (F : Fr s.heap L h m)
    (R : Flies base h (envOf name scope L a cd :: fr) e h') (exc : ∀ e h' tk', Flies base s.heap fr e h' → E (.ref e) { s with heap := h', toks := tk' }) :
    wpAny (model prog w) ((Ar dp un gd fr).deeper (envOf name scope L a cd)) (leaving (envOf name scope L a cd) (.ref e)) (fun _ s'' => E (.ref e) s'') E' { s with heap := h', toks := tk' } := by
  obtain ⟨t, vs, R, U⟩ := R
  exact leave_onS (s' := { s with heap := h', toks := tk' }) B F R U fun h'' R' _ U' => exc e h'' tk' ⟨t, vs, R', U'⟩
end

/-- what a reader gives: a value, SyntaxFault, or nothing said -/
inductive Rs (α : Type) where
  | ok (a : α)
  | fault
  | out
noncomputable def Rs.bind {α β : Type} : Rs α → (α → Rs β) → Rs β
  | .ok a, f => f a
  | .fault, _ => .fault
  | .out, _ => .out

noncomputable def kindAt (ts : List Tk) (i : Nat) : Str := match ts[i]? with
  | some t => t.kind
  | none => Str.ofString ""
noncomputable def prio (ts : List Tk) (i : Nat) : Nat := match ts[i]? with
  | some .plus => 7
  | some .minus => 7
  | some .star => 8
  | some .pow => 9
  | _ => 0
noncomputable def textAt (ts : List Tk) (i : Nat) : Str := match ts[i]? with
  | some t => t.text
  | none => Str.ofString ""

/-- the place of the bracket that closes: from place p, at depth d, n places left -/
noncomputable def closeGo (ts : List Tk) : Nat → Nat → Int → Option Nat
  | 0, _, _ => none
  | n + 1, p, d => if opAt ts p (Str.ofString "(") then closeGo ts n (p + 1) (d + 1)
      else if opAt ts p (Str.ofString ")") then (if d - 1 = 0 then some p else closeGo ts n (p + 1) (d - 1))
      else closeGo ts n (p + 1) d
noncomputable def closeAt (ts : List Tk) (i : Nat) : Option Nat := closeGo ts (ts.length - i) i 0
noncomputable def markGo (ts : List Tk) (x : Str) : Nat → Nat → Int → Bool
  | 0, _, _ => false
  | n + 1, p, d => if opAt ts p (Str.ofString "(") then markGo ts x n (p + 1) (d + 1)
      else if opAt ts p (Str.ofString ")") then markGo ts x n (p + 1) (d - 1)
      else if d = 0 && opAt ts p x then true
      else markGo ts x n (p + 1) d
noncomputable def holdsMark (ts : List Tk) (i : Nat) (x : Str) : Option Bool := (closeAt ts i).map fun e => markGo ts x (e - (i + 1)) (i + 1) 0

abbrev Tr := Dat × Nat × Nat
abbrev Rb := Nat → Nat → Nat → Rs Tr

noncomputable def dName (x : Str) : Dat := .tuple [.str (Str.ofString "name"), .str x]
noncomputable def dUn (x : Str) (d : Dat) : Dat := .tuple [.str (Str.ofString "un"), .str x, d]
noncomputable def dBin (x : Str) (l r : Dat) : Dat := .tuple [.str (Str.ofString "bin"), .str x, l, r]
noncomputable def dRef (x : Str) (rows : List Dat) : Dat := .tuple [.str (Str.ofString "ref"), .str x, .list rows]
noncomputable def dSub (d lo hi : Dat) : Dat := .tuple [.str (Str.ofString "sub"), d, lo, hi]

noncomputable def rLow (ts : List Tk) (rb : Rb) (at' deep : Nat) : Rs Tr :=
  if opAt ts at' (Str.ofString ":") then .ok (Dat.none, at', 0) else rb at' 1 deep
noncomputable def rHigh (ts : List Tk) (rb : Rb) (at' deep : Nat) : Rs Tr :=
  if opAt ts at' (Str.ofString ")") then .ok (Dat.none, at', 0) else rb at' 1 deep
noncomputable def rEnds (ts : List Tk) (rb : Rb) (at' deep : Nat) : Rs (Dat × Dat × Nat × Nat) :=
  if opAt ts at' (Str.ofString "(") then
    (rLow ts rb (at' + 1) deep).bind fun (lo, a1, h1) =>
      if opAt ts a1 (Str.ofString ":") then
        (rHigh ts rb (a1 + 1) deep).bind fun (hi, a2, h2) =>
          if opAt ts a2 (Str.ofString ")") then .ok (lo, hi, a2 + 1, max h1 h2) else .out
      else .out
  else .out
noncomputable def rArgsLoop (ts : List Tk) (rb : Rb) (deep : Nat) : Nat → List Dat → Nat → Nat → Rs (List Dat × Nat × Nat)
  | 0, _, _, _ => .out
  | m + 1, rows, height, at' => (rb at' 1 deep).bind fun (d, a, h) =>
      if opAt ts a (Str.ofString ",") then rArgsLoop ts rb deep m (rows ++ [d]) (max height h) (a + 1)
      else if opAt ts a (Str.ofString ")") then .ok (rows ++ [d], a + 1, max height h) else .out
noncomputable def rArgs (ts : List Tk) (rb : Rb) (at' deep : Nat) : Rs (List Dat × Nat × Nat) :=
  if opAt ts at' (Str.ofString "(") then
    if opAt ts (at' + 1) (Str.ofString ")") then .out else rArgsLoop ts rb deep ts.length [] 0 (at' + 1)
  else .out
noncomputable def rRef (ts : List Tk) (rb : Rb) (name : Str) (a deep : Nat) : Rs Tr :=
  if 40 ≤ deep then .fault else (rArgs ts rb a (deep + 1)).bind fun (rows, a1, h1) => if 100 ≤ h1 then .fault else .ok (dRef name rows, a1, h1 + 1)
noncomputable def rSub (ts : List Tk) (rb : Rb) (deep : Nat) (d : Dat) (a h : Nat) : Rs Tr :=
  if opAt ts a (Str.ofString "(") then
    if 40 ≤ deep then .fault else (rEnds ts rb a (deep + 1)).bind fun (lo, hi, a2, h2) => if 100 ≤ max h h2 then .fault else .ok (dSub d lo hi, a2, max h h2 + 1)
  else .ok (d, a, h)
noncomputable def rNamed (ts : List Tk) (rb : Rb) (at' deep : Nat) : Rs Tr :=
  if kindAt ts at' = Str.ofString "NAME" then
    if opAt ts (at' + 1) (Str.ofString "(") then
      match holdsMark ts (at' + 1) (Str.ofString ":") with
      | none => .out
      | some false => (rRef ts rb (textAt ts at') (at' + 1) deep).bind fun (d, a, h) => rSub ts rb deep d a h
      | some true => rSub ts rb deep (dName (textAt ts at')) (at' + 1) 0
    else .ok (dName (textAt ts at'), at' + 1, 0)
  else .out
noncomputable def rPrimary (ts : List Tk) (rb : Rb) (at' deep : Nat) : Rs Tr :=
  if kindAt ts at' = Str.ofString "NAME" then rNamed ts rb at' deep
  else if opAt ts at' (Str.ofString "(") then
    if 40 ≤ deep then .fault else (rb (at' + 1) 1 (deep + 1)).bind fun (d, a, h) => if opAt ts a (Str.ofString ")") then .ok (d, a + 1, h) else .out
  else .out
noncomputable def rSigned (ts : List Tk) (rb : Rb) (at' inner deep : Nat) : Rs Tr :=
  (rb (at' + 1) inner deep).bind fun (d, a, h) => if 100 ≤ h then .fault else .ok (dUn (textAt ts at') d, a, h + 1)
noncomputable def rFirst (ts : List Tk) (rb : Rb) (at' least deep : Nat) : Rs Tr :=
  if opAt ts at' (Str.ofString ".NOT.") then (if 4 < least then .out else rSigned ts rb at' 5 deep)
  else if opAt ts at' (Str.ofString "+") then .out
  else if opAt ts at' (Str.ofString "-") then (if 7 < least then .out else rSigned ts rb at' 8 deep)
  else rPrimary ts rb at' deep
noncomputable def rRight (ts : List Tk) (rb : Rb) (at' deep : Nat) : Rs Tr :=
  if prio ts at' = 9 then (if 40 ≤ deep then .fault else rb (at' + 1) 9 (deep + 1)) else rb (at' + 1) (prio ts at' + 1) deep
noncomputable def rLoop (ts : List Tk) (rb : Rb) (least deep : Nat) : Nat → Dat → Nat → Nat → Rs Tr
  | 0, _, _, _ => .out
  | m + 1, d, at', height =>
    if least ≤ prio ts at' then (rRight ts rb at' deep).bind fun (r, a, o) => if 100 ≤ max height o then .fault else rLoop ts rb least deep m (dBin (textAt ts at') d r) a (max height o + 1)
    else .ok (d, at', height)
noncomputable def rBinary (ts : List Tk) : Nat → Rb
  | 0, _, _, _ => .out
  | n + 1, at', least, deep => (rFirst ts (rBinary ts n) at' least deep).bind fun (d, a, h) => rLoop ts (rBinary ts n) least deep (ts.length + 1) d a h
theorem fill : (fun (_ : OpenLaw) (_ : Params → Frag) => True) PySem.Challenge.rw_pf0126_01 gen.heap_1_39 := by
  k_fill
  trivial

section
variable {prog : Program} {w : World} {A : Around} {E : Value → Shared → Prop} {s : Shared} {h₀ : Heap} {L a : Addr} {m : Str → Option Value} {ts : List Tk}

theorem tok_len {Q : Value → Shared → Prop} (TK : ToksAt h₀ a ts) (F : Fr h₀ L s.heap m) (h : Q (.int ts.length (s.toks + 1)) { s with toks := s.toks + 1 + 1 }) :
    wpAny (model prog w) A (call (.builtin "len") [.ref a]) Q E s := by
  obtain ⟨hl, vs, hv, hn, _⟩ := TK.keeps F.keep
  have e : (vs.toArray.size : Int) = (ts.length : Int) := by simp [hn]
  refine len_list hv ?_ (by rw [e]; exact h)
  rw [e]
  omega
theorem tok_item {value slice : PySem.Expr} {i : Nat} {t : Tk} {u : Tok} {Q : Value → Shared → Prop} (TK : ToksAt h₀ a ts) (F : Fr h₀ L s.heap m) (hi : ts[i]? = some t)
    (h : ∀ b t1 t2 n t3, IsTup h₀ b [Value.str t.kind t1, .str t.text t2, .int n t3].toArray → Q (.ref b) s)
    (hs : subscripted slice false (.ref a) (.int i u) = operate [.ref a, .int i u] (getItem (.ref a) (.int i u)) := by with_unfolding_all rfl) :
    wpAny (model prog w) A (subscriptTail value slice (.ref a) (.int i u)) Q E s := by
  obtain ⟨hl, vs, hv, hn, hx⟩ := TK
  obtain ⟨b, t1, t2, n, t3, h1, h2⟩ := hx i t hi
  have hlt := (List.getElem?_eq_some_iff.mp hi).1
  have hv' : s.heap.IsList a vs.toArray := by
    obtain ⟨o, ho, r⟩ := hv
    exact ⟨o, F.keep _ _ ho, r⟩
  refine tail_any hv'.typeIs slot_list_getitem.lookup (wpAny_getItem_list hv' (Int.natCast_nonneg i) (by omega) (by simpa using h1) (h b t1 t2 n t3 h2)) hs
theorem tup_item {value slice : PySem.Expr} {b : Addr} {l : List Value} {k : Int} {u : Tok} {j : Nat} {x : Value} {Q : Value → Shared → Prop} (ht : IsTup h₀ b l.toArray) (F : Fr h₀ L s.heap m)
    (hlo : -(2 ^ 63) ≤ k) (hhi : k < 2 ^ 63) (hj : seqIndex? k l.length = some j) (hx : l[j]? = some x) (h : Q x s)
    (hs : subscripted slice false (.ref b) (.int k u) = operate [.ref b, .int k u] (getItem (.ref b) (.int k u)) := by with_unfolding_all rfl) :
    wpAny (model prog w) A (subscriptTail value slice (.ref b) (.int k u)) Q E s :=
  item_tupleT (ht.keeps F.keep) hlo hhi hj hx h hs
theorem add_nat1 {i : Nat} {t u : Tok} {Q : Value → Shared → Prop} (h : Q (.int ((i + 1 : Nat) : Int) s.toks) { s with toks := s.toks + 1 }) :
    wpAny (model prog w) A (binaryOp .Add (.int (i : Int) t) (.int 1 u)) Q E s := add_int h
theorem iadd_nat1 {i : Nat} {t u : Tok} {Q : Value → Shared → Prop} (h : Q (.int ((i + 1 : Nat) : Int) s.toks) { s with toks := s.toks + 1 }) :
    wpAny (model prog w) A (inplaceOp .Add (.int (i : Int) t) (.int 1 u)) Q E s := wpAny_iadd_int h
end
local macro_rules | `(tactic| walk_at "call builtin:len") => `(tactic| (k_here; (with_reducible show wpAny _ _ (call (Value.builtin "len") [Value.ref _]) _ _ _); (refine' tok_len ?TK ?F ?_; (case TK => with_reducible assumption); (case F => k_asm); k_whole)))
local macro_rules | `(tactic| walk_at "subscriptTail") => `(tactic| (k_here; (with_reducible show wpAny _ _ (subscriptTail _ _ (Value.ref _) (Value.int _ _)) _ _ _); (refine' tok_item ?TK ?F ?hi ?_ ?hs; (case TK => with_reducible assumption); (case F => k_asm); (case hi => with_reducible assumption); (case hs => with_unfolding_all rfl); k_whole; intro b' t1' t2' n' t3' TB'; (try dsimp only))))
local macro_rules | `(tactic| walk_at "subscriptTail") => `(tactic| (k_here; (with_reducible show wpAny _ _ (subscriptTail _ _ (Value.ref _) (Value.int _ _)) _ _ _); (refine' tup_item ?TB ?F ?h1 ?h2 ?hj ?hx ?_ ?hs; (case TB => with_reducible assumption); (case F => k_asm); (case h1 | h2 => decide); (case hj | hx => rfl); (case hs => with_unfolding_all rfl); k_whole)))
local macro_rules | `(tactic| walk_at "binaryOp Add int int") => `(tactic| ((with_reducible show wpAny _ _ (binaryOp _ (Value.int (Nat.cast _) _) (Value.int 1 _)) _ _ _); refine add_nat1 ?_))
local macro_rules | `(tactic| walk_at "inplaceOp Add int int") => `(tactic| ((with_reducible show wpAny _ _ (inplaceOp _ (Value.int (Nat.cast _) _) (Value.int 1 _)) _ _ _); refine iadd_nat1 ?_))
-- a call's frame is entered
theorem word1 : True := by
  k_with "=end" => (((try dsimp only); (try k_sweep); (try k_fold)))
  trivial
theorem word2 : True := by
  k_with "=enter" => ((
    (case k6 | k7 => k_is)
    (case k8 => ((try dsimp only [Ar, Around.deeper]); simp only [recursionLimit]; omega))
    (case k9 => exact BindsTo.of_eq rfl)
    (case kB => exact locs rfl)
    (case c2 | c3 | c4 => exact rfl)
    (case c5 => decide)))
  trivial
theorem word3 : True := by
  k_with "=go" => ((show wpAny _ _ _ _ _ _; k_fold; k_steps))
  trivial
section
theorem opAt_none {ts : List Tk} {i : Nat} {x : Str} (hi : ts[i]? = none) : opAt ts i x = false := by simp only [opAt, hi]
theorem opAt_some {ts : List Tk} {i : Nat} {x : Str} {t : Tk} (hi : ts[i]? = some t) : opAt ts i x = (!t.isName && t.text == x) := by simp only [opAt, hi]
theorem kind_op (t : Tk) : (t.kind == Str.ofString "OP") = !t.isName := by cases t <;> decide +kernel
theorem kind_name (t : Tk) : (t.kind == Str.ofString "NAME") = t.isName := by cases t <;> decide +kernel
theorem kindAt_none {ts : List Tk} {i : Nat} (hi : ts[i]? = none) : kindAt ts i = Str.ofString "" := by simp only [kindAt, hi]
theorem kindAt_some {ts : List Tk} {i : Nat} {t : Tk} (hi : ts[i]? = some t) : kindAt ts i = t.kind := by simp only [kindAt, hi]
theorem end_op0 {ts : List Tk} {i : Nat} {x : Str} (hi : ts[i]? = none) (hl : ¬ i < ts.length) : Value.bool (decide ((i : Int) < (ts.length : Int))) = Value.bool (opAt ts i x) := by
  rw [opAt_none hi, decide_eq_false (by omega)]
theorem end_op1 {ts : List Tk} {i : Nat} {x : Str} {t : Tk} (hi : ts[i]? = some t) (h : (t.kind == Str.ofString "OP") = true) : Value.bool (t.text == x) = Value.bool (opAt ts i x) := by
  rw [opAt_some hi, ← kind_op, h, Bool.true_and]
theorem end_op2 {ts : List Tk} {i : Nat} {x : Str} {t : Tk} (hi : ts[i]? = some t) (h : (t.kind == Str.ofString "OP") = false) : Value.bool (t.kind == Str.ofString "OP") = Value.bool (opAt ts i x) := by
  rw [opAt_some hi, ← kind_op, h, Bool.false_and]
variable {prog : Program} {w : World} {dp un : Nat} {gd : Option (List Code)} {fr : List Env} {base : Heap} {s : Shared} {mean : ExcName → Option Value} {mg mb : Str → Option Value}
set_option maxHeartbeats 8000000 in
theorem is_op_spec {a : Addr} {ts : List Tk} {i : Nat} {t u : Tok} {x : Str} (C : Cx w (Ar dp un gd fr) base fr mean mg mb s.heap) (TK : ToksAt s.heap a ts) (hdp : dp + 1 < 1000) (hun : un + 16 < 9900) :
    CallSpec prog w (Ar dp un gd fr) fr base s 60 [.ref a, .int i t, .str x u] (Just fun _ => .bool (opAt ts i x)) False := by
  refine' enter (binds := [(Str.ofString "tokens", .ref a), (Str.ofString "at", .int i t), (Str.ofString "text", .str x u)]) C ?k6 ?k7 ?k8 ?k9 ?kB ?_ ?c2 ?c3 ?c4 ?c5
  walk_at "=enter"
  intro L h₁ E hexc F N
  have X := C.X
  have T := C.T
  have B := C.B
  have hl : ts.length ≤ 2 ^ 20 := TK.1
  cases hi : ts[i]? with
  | none =>
    have hlen : ¬ i < ts.length := by simpa using hi
    walk_at "=go"
    all_goals (exact backJust (by assumption) ⟨0, end_op0 hi hlen⟩)
  | some tkn =>
    have hlen : i < ts.length := (List.getElem?_eq_some_iff.mp hi).1
    walk_at "=go"
    all_goals (first | exact backJust (by assumption) ⟨0, end_op1 hi (by assumption)⟩ | exact backJust (by assumption) ⟨0, end_op2 hi (by assumption)⟩)
set_option maxHeartbeats 8000000 in
theorem kind_at_spec {a : Addr} {ts : List Tk} {i : Nat} {t : Tok} (C : Cx w (Ar dp un gd fr) base fr mean mg mb s.heap) (TK : ToksAt s.heap a ts) (hdp : dp + 1 < 1000) (hun : un + 16 < 9900) :
    CallSpec prog w (Ar dp un gd fr) fr base s 53 [.ref a, .int i t] (Just fun t => .str (kindAt ts i) t) False := by
  refine' enter (binds := [(Str.ofString "tokens", .ref a), (Str.ofString "at", .int i t)]) C ?k6 ?k7 ?k8 ?k9 ?kB ?_ ?c2 ?c3 ?c4 ?c5
  walk_at "=enter"
  intro L h₁ E hexc F N
  have X := C.X
  have T := C.T
  have B := C.B
  have hl : ts.length ≤ 2 ^ 20 := TK.1
  cases hi : ts[i]? with
  | none =>
    have hlen : ¬ i < ts.length := by simpa using hi
    walk_at "=go"
    all_goals (exact backJust (by assumption) ⟨_, by rw [kindAt_none hi]⟩)
  | some tkn =>
    have hlen : i < ts.length := (List.getElem?_eq_some_iff.mp hi).1
    walk_at "=go"
    all_goals (exact backJust (by assumption) ⟨_, by rw [kindAt_some hi]⟩)

-- the leaves as steps
theorem is_op_use {h₀ : Heap} {L f a : Addr} {m : Str → Option Value} {news : List (Addr × Obj)} {cn : Str} {cs : Scope} {cd : Value} {ts : List Tk} {i : Nat} {t u : Tok} {x : Str} {Q E : Value → Shared → Prop}
    (B : Below (Ar dp un gd fr) base fr h₀) (X : (gen.heap_1_39 w.params).In h₀) (T : Top gen.view_1_40 (looseW gen.view_1_40 [Str.ofString "PRIORITIES"]) mean mg mb h₀) (F : Fr h₀ L s.heap m) (N : News h₀ L s.heap news) (TK : ToksAt h₀ a ts)
    (hdp : dp + 2 < 1000) (hun : un + 19 < 9900) (hk : cs.kind = .function)
    (ret : ∀ h' tk', Fr h₀ L h' m → News h₀ L h' news → Q (.bool (opAt ts i x)) { s with heap := h', toks := tk' }) :
    wpAny (model prog w) ((Ar dp un gd fr).deeper (envOf cn cs L f cd)) (call (.ref 60) [.ref a, .int i t, .str x u]) Q E s :=
  CallSpec.usePure (is_op_spec (Cx.inn (a := f) (cd := cd) B X T F hk) (TK.keeps F.keep) (by omega) (by omega)) F N fun _ h' tk' => ret h' tk'
theorem kind_at_use {h₀ : Heap} {L f a : Addr} {m : Str → Option Value} {news : List (Addr × Obj)} {cn : Str} {cs : Scope} {cd : Value} {ts : List Tk} {i : Nat} {t : Tok} {Q E : Value → Shared → Prop}
    (B : Below (Ar dp un gd fr) base fr h₀) (X : (gen.heap_1_39 w.params).In h₀) (T : Top gen.view_1_40 (looseW gen.view_1_40 [Str.ofString "PRIORITIES"]) mean mg mb h₀) (F : Fr h₀ L s.heap m) (N : News h₀ L s.heap news) (TK : ToksAt h₀ a ts)
    (hdp : dp + 2 < 1000) (hun : un + 19 < 9900) (hk : cs.kind = .function)
    (ret : ∀ t h' tk', Fr h₀ L h' m → News h₀ L h' news → Q (.str (kindAt ts i) t) { s with heap := h', toks := tk' }) :
    wpAny (model prog w) ((Ar dp un gd fr).deeper (envOf cn cs L f cd)) (call (.ref 53) [.ref a, .int i t]) Q E s :=
  CallSpec.usePure (kind_at_spec (Cx.inn (a := f) (cd := cd) B X T F hk) (TK.keeps F.keep) (by omega) (by omega)) F N ret
end
theorem word4 : True := by
  k_with "=asm" => ((
    (case B | X | F | N => k_asm)
    (case T | TK => with_reducible assumption)
    (case hdp | hun => omega)
    (case hk => exact rfl)
    k_whole))
  trivial
section
variable {prog : Program} {w : World} {dp un : Nat} {gd : Option (List Code)} {fr : List Env} {base : Heap} {s : Shared} {mean : ExcName → Option Value} {mg mb : Str → Option Value}
end
theorem word5 : True := by
  k_with "my call ref" => ((k_here; (with_reducible show wpAny _ _ (call (Value.ref 60) _) _ _ _); k_dflt (apply is_op_use; walk_at "=asm"); intro _ _ _ _; walk_at "=end"))
  trivial
local macro_rules | `(tactic| walk_at "call ref") => `(tactic| k_extra "my call ref")
section
variable {prog : Program} {w : World} {dp un : Nat} {gd : Option (List Code)} {fr : List Env} {base : Heap} {s : Shared} {mean : ExcName → Option Value} {mg mb : Str → Option Value}
end
theorem word6 : True := by
  k_with "my call ref" => ((k_here; (with_reducible show wpAny _ _ (call (Value.ref 53) _) _ _ _); k_dflt (apply kind_at_use; walk_at "=asm"); intro _ _ _ _ _; walk_at "=end"))
  trivial
section
variable {prog : Program} {w : World} {dp un : Nat} {gd : Option (List Code)} {fr : List Env} {base : Heap} {s : Shared} {mean : ExcName → Option Value} {mg mb : Str → Option Value}

end
section
variable {prog : Program} {w : World} {dp un : Nat} {gd : Option (List Code)} {fr : List Env} {base : Heap} {s : Shared} {mean : ExcName → Option Value} {mg mb : Str → Option Value}
theorem textAt_some {ts : List Tk} {i : Nat} {t : Tk} (hi : ts[i]? = some t) : textAt ts i = t.text := by simp only [textAt, hi]
theorem kind_not (ts : List Tk) (i : Nat) : (kindAt ts i == Str.ofString "INT") = false ∧ (kindAt ts i == Str.ofString "REAL") = false := by
  cases hi : ts[i]? with
  | none => rw [kindAt_none hi]; decide +kernel
  | some t => rw [kindAt_some hi]; cases t <;> decide +kernel
end
theorem word7 : True := by
  k_with "=ret" => (((try dsimp only); (try (k_unfold; dsimp only)); (show Back _ _ _ _ _)))
  trivial
section
variable {prog : Program} {w : World} {dp un : Nat} {gd : Option (List Code)} {fr : List Env} {base : Heap} {s : Shared} {mean : ExcName → Option Value} {mg mb : Str → Option Value}
set_option maxHeartbeats 8000000 in
theorem need_op_spec {a : Addr} {ts : List Tk} {i : Nat} {t u : Tok} {x : Str} (C : Cx w (Ar dp un gd fr) base fr mean mg mb s.heap) (TK : ToksAt s.heap a ts) (hdp : dp + 2 < 1000) (hun : un + 32 < 9900) (ho : opAt ts i x = true) :
    CallSpec prog w (Ar dp un gd fr) fr base s 67 [.ref a, .int i t, .str x u] (Just fun t => .int (i + 1 : Nat) t) False := by
  refine' enter (binds := [(Str.ofString "tokens", .ref a), (Str.ofString "at", .int i t), (Str.ofString "text", .str x u)]) C ?k6 ?k7 ?k8 ?k9 ?kB ?_ ?c2 ?c3 ?c4 ?c5
  walk_at "=enter"
  intro L h₁ E hexc F N
  have X := C.X
  have T := C.T
  have B := C.B
  walk_at "=go"
  all_goals (exact backJust (by assumption) ⟨_, rfl⟩)
set_option maxHeartbeats 8000000 in
theorem need_name_spec {a : Addr} {ts : List Tk} {i : Nat} {t : Tok} (C : Cx w (Ar dp un gd fr) base fr mean mg mb s.heap) (TK : ToksAt s.heap a ts) (hdp : dp + 2 < 1000) (hun : un + 32 < 9900) (ho : kindAt ts i = Str.ofString "NAME") :
    CallSpec prog w (Ar dp un gd fr) fr base s 74 [.ref a, .int i t] (fun v tl => ∃ r t1 t2, v = .ref r ∧ tl = [(r, { cls := .type "tuple", data := .seq [.str (textAt ts i) t1, .int (i + 1 : Nat) t2].toArray })]) False := by
  refine' enter (binds := [(Str.ofString "tokens", .ref a), (Str.ofString "at", .int i t)]) C ?k6 ?k7 ?k8 ?k9 ?kB ?_ ?c2 ?c3 ?c4 ?c5
  walk_at "=enter"
  intro L h₁ E hexc F N
  have X := C.X
  have T := C.T
  have B := C.B
  have hl : ts.length ≤ 2 ^ 20 := TK.1
  cases hi : ts[i]? with
  | none => 
    rw [kindAt_none hi] at ho
    exact absurd ho (by decide +kernel)
  | some tkn =>
    have hlen : i < ts.length := (List.getElem?_eq_some_iff.mp hi).1
    have ho2 : (kindAt ts i != Str.ofString "NAME") = false := by rw [ho]; decide +kernel
    walk_at "=go"
    walk_at "=ret"
    exact ⟨_, _, _, _, rfl, by assumption, NewIn.of (by assumption), _, _, _, rfl, by rw [textAt_some hi]⟩
theorem prio_case (h0 : Heap) {t : Tk} {ts : List Tk} {i : Nat} {v : Value} (hi : ts[i]? = some t) (hv : PyProof.V.Flat v ((Spec.lookup (PyData.str t.text) [(PyData.str (Str.ofString ".EQV."), PyData.int 1), (PyData.str (Str.ofString ".NEQV."), PyData.int 1), (PyData.str (Str.ofString ".OR."), PyData.int 2), (PyData.str (Str.ofString ".AND."), PyData.int 3), (PyData.str (Str.ofString ".EQ."), PyData.int 5),
      (PyData.str (Str.ofString ".NE."), PyData.int 5), (PyData.str (Str.ofString ".LT."), PyData.int 5), (PyData.str (Str.ofString ".LE."), PyData.int 5), (PyData.str (Str.ofString ".GT."), PyData.int 5), (PyData.str (Str.ofString ".GE."), PyData.int 5), (PyData.str (Str.ofString "//"), PyData.int 6), (PyData.str (Str.ofString "+"), PyData.int 7),
      (PyData.str (Str.ofString "-"), PyData.int 7), (PyData.str (Str.ofString "*"), PyData.int 8), (PyData.str (Str.ofString "/"), PyData.int 8), (PyData.str (Str.ofString "**"), PyData.int 9)]).getD (PyData.int 0))) : ∃ u, v = Value.int (prio ts i : Nat) u := by
  have go : ∀ n : Nat, PyProof.V.Flat v (PyData.int n) → ∃ u, v = Value.int (n : Nat) u := fun n h => by
    have h' := h h0
    cases h'
    exact ⟨_, rfl⟩
  unfold prio
  rw [hi]
  cases t <;> exact go _ hv
theorem prio_none {ts : List Tk} {i : Nat} (hi : ts[i]? = none) : prio ts i = 0 := by simp only [prio, hi]
theorem prio_name {ts : List Tk} {i : Nat} {t : Tk} (hi : ts[i]? = some t) (h : (kindAt ts i != Str.ofString "OP") = true) : prio ts i = 0 := by
  rw [kindAt_some hi] at h
  simp only [prio, hi]
  cases t <;> first | rfl | (exact absurd h (by decide +kernel))
set_option maxHeartbeats 8000000 in
theorem priority_at_spec {a : Addr} {ts : List Tk} {i : Nat} {t : Tok} (C : Cx w (Ar dp un gd fr) base fr mean mg mb s.heap) (TK : ToksAt s.heap a ts) (hdp : dp + 2 < 1000) (hun : un + 32 < 9900) :
    CallSpec prog w (Ar dp un gd fr) fr base s 96 [.ref a, .int i t] (Just fun t => .int (prio ts i : Nat) t) False := by
  refine' enter (binds := [(Str.ofString "tokens", .ref a), (Str.ofString "at", .int i t)]) C ?k6 ?k7 ?k8 ?k9 ?kB ?_ ?c2 ?c3 ?c4 ?c5
  walk_at "=enter"
  intro L h₁ E hexc F N
  have X := C.X
  have T := C.T
  have B := C.B
  have hl : ts.length ≤ 2 ^ 20 := TK.1
  cases hi : ts[i]? with
  | none =>
    have hka : (kindAt ts i != Str.ofString "OP") = true := by rw [kindAt_none hi]; decide +kernel
    walk_at "=go"
    all_goals walk_at "=ret"
    exact backJust (by assumption) ⟨_, by rw [prio_none hi]; rfl⟩
  | some tkn =>
    have hlen : i < ts.length := (List.getElem?_eq_some_iff.mp hi).1
    walk_at "=go"
    all_goals walk_at "=ret"
    · exact backJust (by assumption) ⟨_, by rw [prio_name hi (by assumption)]; rfl⟩
    · exact backJust (by assumption) (prio_case s.heap hi (by assumption))
set_option maxHeartbeats 8000000 in
theorem part_end_spec {a : Addr} {ts : List Tk} {i : Nat} {t : Tok} (C : Cx w (Ar dp un gd fr) base fr mean mg mb s.heap) (TK : ToksAt s.heap a ts) (hdp : dp + 2 < 1000) (hun : un + 32 < 9900) :
    CallSpec prog w (Ar dp un gd fr) fr base s 159 [.ref a, .int i t] (Just fun t => .int (-1) t) False := by
  refine' enter (binds := [(Str.ofString "tokens", .ref a), (Str.ofString "at", .int i t)]) C ?k6 ?k7 ?k8 ?k9 ?kB ?_ ?c2 ?c3 ?c4 ?c5
  walk_at "=enter"
  intro L h₁ E hexc F N
  have X := C.X
  have T := C.T
  have B := C.B
  have k1 := kind_not ts i
  have k2 := kind_not ts (i + 1)
  have k11 := k1.1
  have k12 := k1.2
  have k21 := k2.1
  have k22 := k2.2
  walk_at "=go"
  all_goals walk_at "=ret"
  all_goals (exact backJust (by assumption) ⟨_, rfl⟩)
theorem part_end_use {h₀ : Heap} {L f a : Addr} {m : Str → Option Value} {news : List (Addr × Obj)} {cn : Str} {cs : Scope} {cd : Value} {ts : List Tk} {i : Nat} {t : Tok} {Q E : Value → Shared → Prop}
    (B : Below (Ar dp un gd fr) base fr h₀) (X : (gen.heap_1_39 w.params).In h₀) (T : Top gen.view_1_40 (looseW gen.view_1_40 [Str.ofString "PRIORITIES"]) mean mg mb h₀) (F : Fr h₀ L s.heap m) (N : News h₀ L s.heap news) (TK : ToksAt h₀ a ts)
    (hdp : dp + 3 < 1000) (hun : un + 35 < 9900) (hk : cs.kind = .function)
    (ret : ∀ t h' tk', Fr h₀ L h' m → News h₀ L h' news → Q (.int (-1) t) { s with heap := h', toks := tk' }) :
    wpAny (model prog w) ((Ar dp un gd fr).deeper (envOf cn cs L f cd)) (call (.ref 159) [.ref a, .int i t]) Q E s :=
  CallSpec.usePure (part_end_spec (Cx.inn (a := f) (cd := cd) B X T F hk) (TK.keeps F.keep) (by omega) (by omega)) F N ret
theorem priority_at_use {h₀ : Heap} {L f a : Addr} {m : Str → Option Value} {news : List (Addr × Obj)} {cn : Str} {cs : Scope} {cd : Value} {ts : List Tk} {i : Nat} {t : Tok} {Q E : Value → Shared → Prop}
    (B : Below (Ar dp un gd fr) base fr h₀) (X : (gen.heap_1_39 w.params).In h₀) (T : Top gen.view_1_40 (looseW gen.view_1_40 [Str.ofString "PRIORITIES"]) mean mg mb h₀) (F : Fr h₀ L s.heap m) (N : News h₀ L s.heap news) (TK : ToksAt h₀ a ts)
    (hdp : dp + 3 < 1000) (hun : un + 35 < 9900) (hk : cs.kind = .function)
    (ret : ∀ t h' tk', Fr h₀ L h' m → News h₀ L h' news → Q (.int (prio ts i : Nat) t) { s with heap := h', toks := tk' }) :
    wpAny (model prog w) ((Ar dp un gd fr).deeper (envOf cn cs L f cd)) (call (.ref 96) [.ref a, .int i t]) Q E s :=
  CallSpec.usePure (priority_at_spec (Cx.inn (a := f) (cd := cd) B X T F hk) (TK.keeps F.keep) (by omega) (by omega)) F N ret
theorem need_op_use {h₀ : Heap} {L f a : Addr} {m : Str → Option Value} {news : List (Addr × Obj)} {cn : Str} {cs : Scope} {cd : Value} {ts : List Tk} {i : Nat} {t u : Tok} {x : Str} {Q E : Value → Shared → Prop}
    (B : Below (Ar dp un gd fr) base fr h₀) (X : (gen.heap_1_39 w.params).In h₀) (T : Top gen.view_1_40 (looseW gen.view_1_40 [Str.ofString "PRIORITIES"]) mean mg mb h₀) (F : Fr h₀ L s.heap m) (N : News h₀ L s.heap news) (TK : ToksAt h₀ a ts)
    (hdp : dp + 3 < 1000) (hun : un + 35 < 9900) (hk : cs.kind = .function) (ho : opAt ts i x = true)
    (ret : ∀ t h' tk', Fr h₀ L h' m → News h₀ L h' news → Q (.int (i + 1 : Nat) t) { s with heap := h', toks := tk' }) :
    wpAny (model prog w) ((Ar dp un gd fr).deeper (envOf cn cs L f cd)) (call (.ref 67) [.ref a, .int i t, .str x u]) Q E s :=
  CallSpec.usePure (need_op_spec (Cx.inn (a := f) (cd := cd) B X T F hk) (TK.keeps F.keep) (by omega) (by omega) ho) F N ret
theorem need_name_use {h₀ : Heap} {L f a : Addr} {m : Str → Option Value} {news : List (Addr × Obj)} {cn : Str} {cs : Scope} {cd : Value} {ts : List Tk} {i : Nat} {t : Tok} {Q E : Value → Shared → Prop}
    (B : Below (Ar dp un gd fr) base fr h₀) (X : (gen.heap_1_39 w.params).In h₀) (T : Top gen.view_1_40 (looseW gen.view_1_40 [Str.ofString "PRIORITIES"]) mean mg mb h₀) (F : Fr h₀ L s.heap m) (N : News h₀ L s.heap news) (TK : ToksAt h₀ a ts)
    (hdp : dp + 3 < 1000) (hun : un + 35 < 9900) (hk : cs.kind = .function) (ho : kindAt ts i = Str.ofString "NAME")
    (ret : ∀ r t1 t2 h' tk', Fr h₀ L h' m → News h₀ L h' ((r, { cls := .type "tuple", data := .seq [.str (textAt ts i) t1, .int (i + 1 : Nat) t2].toArray }) :: news) → Q (.ref r) { s with heap := h', toks := tk' }) :
    wpAny (model prog w) ((Ar dp un gd fr).deeper (envOf cn cs L f cd)) (call (.ref 74) [.ref a, .int i t]) Q E s :=
  CallSpec.use (need_name_spec (Cx.inn (a := f) (cd := cd) B X T F hk) (TK.keeps F.keep) (by omega) (by omega) ho) F N (fun v tl h' tk' F' N' _ p => by
    obtain ⟨r, t1, t2, rfl, rfl⟩ := p
    exact ret r t1 t2 h' tk' F' N') fun x => x.elim
end
theorem word8 : True := by
  k_with "my call ref" => ((k_here; (with_reducible show wpAny _ _ (call (Value.ref 159) _) _ _ _); k_dflt (apply part_end_use; walk_at "=asm"); intro _ _ _ _ _; walk_at "=end"))
  trivial
section
variable {prog : Program} {w : World} {dp un : Nat} {gd : Option (List Code)} {fr : List Env} {base : Heap} {s : Shared} {mean : ExcName → Option Value} {mg mb : Str → Option Value}
end
theorem word9 : True := by
  k_with "my call ref" => ((k_here; (with_reducible show wpAny _ _ (call (Value.ref 96) _) _ _ _); k_dflt (apply priority_at_use; walk_at "=asm"); intro _ _ _ _ _; walk_at "=end"))
  trivial
section
variable {prog : Program} {w : World} {dp un : Nat} {gd : Option (List Code)} {fr : List Env} {base : Heap} {s : Shared} {mean : ExcName → Option Value} {mg mb : Str → Option Value}
end
theorem word10 : True := by
  k_with "my call ref" => ((k_here; (with_reducible show wpAny _ _ (call (Value.ref 67) _) _ _ _); k_dflt (apply need_op_use; (case ho => with_reducible assumption); walk_at "=asm"); intro _ _ _ _ _; walk_at "=end"))
  trivial
section
variable {prog : Program} {w : World} {dp un : Nat} {gd : Option (List Code)} {fr : List Env} {base : Heap} {s : Shared} {mean : ExcName → Option Value} {mg mb : Str → Option Value}
end
theorem word11 : True := by
  k_with "my call ref" => ((k_here; (with_reducible show wpAny _ _ (call (Value.ref 74) _) _ _ _); k_dflt (apply need_name_use; (case ho => with_reducible assumption); walk_at "=asm"); intro _ _ _ _ _ _ _; walk_at "=end"))
  trivial
section
variable {prog : Program} {w : World} {dp un : Nat} {gd : Option (List Code)} {fr : List Env} {base : Heap} {s : Shared} {mean : ExcName → Option Value} {mg mb : Str → Option Value}
set_option maxHeartbeats 8000000 in
theorem is_complex_spec {a : Addr} {ts : List Tk} {i : Nat} {t : Tok} (C : Cx w (Ar dp un gd fr) base fr mean mg mb s.heap) (TK : ToksAt s.heap a ts) (hdp : dp + 3 < 1000) (hun : un + 40 < 9900) :
    CallSpec prog w (Ar dp un gd fr) fr base s 166 [.ref a, .int i t] (Just fun _ => .bool false) False := by
  refine' enter (binds := [(Str.ofString "tokens", .ref a), (Str.ofString "at", .int i t)]) C ?k6 ?k7 ?k8 ?k9 ?kB ?_ ?c2 ?c3 ?c4 ?c5
  walk_at "=enter"
  intro L h₁ E hexc F N
  have X := C.X
  have T := C.T
  have B := C.B
  walk_at "=go"
  all_goals walk_at "=ret"
  all_goals (exact backJust (by assumption) ⟨0, rfl⟩)
theorem is_complex_use {h₀ : Heap} {L f a : Addr} {m : Str → Option Value} {news : List (Addr × Obj)} {cn : Str} {cs : Scope} {cd : Value} {ts : List Tk} {i : Nat} {t : Tok} {Q E : Value → Shared → Prop}
    (B : Below (Ar dp un gd fr) base fr h₀) (X : (gen.heap_1_39 w.params).In h₀) (T : Top gen.view_1_40 (looseW gen.view_1_40 [Str.ofString "PRIORITIES"]) mean mg mb h₀) (F : Fr h₀ L s.heap m) (N : News h₀ L s.heap news) (TK : ToksAt h₀ a ts)
    (hdp : dp + 4 < 1000) (hun : un + 43 < 9900) (hk : cs.kind = .function)
    (ret : ∀ h' tk', Fr h₀ L h' m → News h₀ L h' news → Q (.bool false) { s with heap := h', toks := tk' }) :
    wpAny (model prog w) ((Ar dp un gd fr).deeper (envOf cn cs L f cd)) (call (.ref 166) [.ref a, .int i t]) Q E s :=
  CallSpec.usePure (is_complex_spec (Cx.inn (a := f) (cd := cd) B X T F hk) (TK.keeps F.keep) (by omega) (by omega)) F N fun _ => ret
end
theorem word12 : True := by
  k_with "my call ref" => ((k_here; (with_reducible show wpAny _ _ (call (Value.ref 166) _) _ _ _); k_dflt (apply is_complex_use; walk_at "=asm"); intro _ _ _ _; walk_at "=end"))
  trivial
section
variable {prog : Program} {w : World} {dp un : Nat} {gd : Option (List Code)} {fr : List Env} {base : Heap} {s : Shared} {mean : ExcName → Option Value} {mg mb : Str → Option Value}

end

/-- a SyntaxFault made -/
structure MadeX (h h' : Heap) (e : Addr) : Prop where
  keeps : Keeps h h'
  new : h.get? e = none
  there : ∃ t dx vs, h'.get? e = some { cls := .ref 44, dict := some dx, data := .fields #[.ref t, .none, .none, .none, .bool false, .none] } ∧ h.get? t = none ∧ h'.TupAt t vs

section
variable {prog : Program} {w : World} {dp un : Nat} {gd : Option (List Code)} {fr : List Env} {base : Heap} {s : Shared} {mean : ExcName → Option Value} {mg mb : Str → Option Value}

theorem thruNew {M : Model} {name : Str} {scope : Scope} {L : Addr} {a : Addr} {cd : Value} {h h' : Heap} {m : Str → Option Value} {e : Addr} {tk' : Nat} {E E' : Value → Shared → Prop} (B : Below (Ar dp un gd fr) base fr s.heap) (F : Fr s.heap L h m)
    (hk : scope.kind = .function) (hx : MadeX h h' e) (exc : ∀ e h' tk', Flies base s.heap fr e h' → E (.ref e) { s with heap := h', toks := tk' }) :
    wpAny M ((Ar dp un gd fr).deeper (envOf name scope L a cd)) (leaving (envOf name scope L a cd) (.ref e)) (fun _ s'' => E (.ref e) s'') E' { s with heap := h', toks := tk' } := by
  have K' := B.push (name := name) (a := a) (cd := cd) F hk
  have hin : ∀ env ∈ (envOf name scope L a cd :: fr), ∀ b, env.frame = some b → b ∈ (envOf name scope L a cd :: fr).filterMap (·.frame) := fun env he b hb => List.mem_filterMap.mpr ⟨env, he, hb⟩
  have st : base.StaysIn (hideAll h ((envOf name scope L a cd :: fr).filterMap (·.frame))) := fun b o q => hideAll_get _ (K'.stays b o q) fun hm => by
    rw [(K'.frames.mem hm).1] at q; cases q
  have sg : ∀ b o, s.heap.get? b = some o → b ∉ fr.filterMap (·.frame) → (hideAll h ((envOf name scope L a cd :: fr).filterMap (·.frame))).get? b = some o := fun b o q nm => hideAll_get _ (F.keep b o q) fun hm => by
    rcases kts_mem hm with z | z
    · rw [z, kts_self F] at q
      cases q
    · exact nm z
  have hkb : ∀ b o, (hideAll h ((envOf name scope L a cd :: fr).filterMap (·.frame))).get? b = some o → h.get? b = some o := fun b o q => of_hideAll _ q
  have hl := funFrames_hide K'.frames hin
  obtain ⟨t, dx, vs, he, htn, ht⟩ := hx.there
  have fresh : ∀ b, h.get? b = none → (hideAll h ((envOf name scope L a cd :: fr).filterMap (·.frame))).get? b = none := fun b hb => by
    cases hq : (hideAll h ((envOf name scope L a cd :: fr).filterMap (·.frame))).get? b with
    | none => rfl
    | some o' => have := hkb b o' hq; rw [hb] at this; cases this
  refine wpAny_leaving_firstW (s := { s with heap := h', toks := tk' }) (a0 := .ref t) K'.stack (hl.of_keeps fun b o hb _ => ⟨o, hx.keeps b o hb, rfl⟩) rfl he (fun b o hb => hx.keeps b o (hkb b o hb)) (fresh e hx.new) rfl rfl rfl fun h'' hL => ?_
  obtain ⟨k1, ⟨_, _, k2⟩, k3, k4⟩ := hL
  exact exc e h'' tk' ⟨t, vs, ⟨⟨_, st, sg, (fun _ hq => (nomatch hq)), ⟨k1, fresh e hx.new, k2, k3⟩, fresh t htn⟩, ht.of_slots k4⟩, ((Heap.UpToSlots.of_keeps F.keep).trans (Heap.UpToSlots.of_keeps hx.keeps)).trans k4⟩

/-- what the raise statement wants of the value -/
noncomputable def RaisableX (w : World) (E : Value → Shared → Prop) (v : Value) (s₁ : Shared) : Prop :=
  ∃ e dx t, v = .ref e ∧ (gen.heap_1_39 w.params).In s₁.heap ∧ s₁.heap.get? e = some { cls := .ref 44, dict := some dx, data := .fields #[.ref t, .none, .none, .none, .bool false, .none] } ∧ E (.ref e) s₁

theorem raise_any {A : Around} {env : Env} {x : PySem.Expr} {pos : Pos} {E : Value → Shared → Prop} {Q : Flow → Shared → Prop} (hh : A.handled = none)
    (h : wpAny (model prog w) A (eval x env) (RaisableX w E) E s) : wpAny (model prog w) A (exec (.Raise (some x) none pos) env) Q E s := by
  rw [arm_exec_Raise]
  simp only [evalOpt, Option.map]
  refine wpAny_bind (wpAny_standAt ?_)
  unfold raiseStmt
  refine wpAny_bind (wpAny_bind (wpAny_mono h (fun v s₁ h₁ => ?_) fun _ _ x => x))
  obtain ⟨e, dx, t, rfl, X, he, hE⟩ := h₁
  have L1 : Looks (model prog w) s₁.heap (typeOf (.ref e)) (.ref 44) := (Looks.ld he).andThen .now
  have L2 : Looks (model prog w) s₁.heap (isInstance (.ref e) (.type "BaseException")) true := L1.andThen (looks_mroIn X (by k_is))
  have L3 : Looks (model prog w) s₁.heap (isInstance (.ref e) (.type "type")) false := L1.andThen (looks_mroIn X (by k_is))
  have L4 : Looks (model prog w) s₁.heap (typeOf (.ref 44)) (.type "type") := looks_typeIn X (by k_is)
  refine wpAny_bind (wpAny_standAt (wpAny_pure ?_))
  unfold excFromValue isExcClass raisedInstance isType
  repeat lk
  exact wpAny_handled (by rw [hh]; exact wpAny_throw hE)

theorem cls44 (w : World) : ∃ dd cd sl, (gen.heap_1_39 w.params).lookup 44 = some (⟨.type "type", dd, .cls cd, sl⟩ : Obj) ∧ cd.mro = [.ref 44, .ref 31, .type "Exception", .type "BaseException", .type "object"] ∧ sl[4]? = some (some (.builtin "Exception.__new__")) ∧ cd.abstract = false ∧ cd.hasDel = false ∧ cd.hasDict = true :=
  ⟨_, _, _, by k_is, rfl, rfl, rfl, rfl, rfl⟩

theorem made44 {h : Heap} (X : (gen.heap_1_39 w.params).In h) : Looks (model prog w) h (Bind.madeBy (.ref 44)) (some "Exception.__new__") := by
  obtain ⟨dd, cd, sl, ho, hm, hs, _, _, _⟩ := cls44 w
  have hM : Looks (model prog w) h (mroOf (.ref 44)) cd.mro := (looks_clsIn X (by unfold clsIn; rw [ho])).andThen .now
  intro A Q E s k q
  unfold Bind.madeBy
  refine wpAny_bind (hM A _ E s k ?_)
  rw [hm, List.forIn_cons]
  refine wpAny_bind (wpAny_bind (wpAny_bind (wpAny_bind (wpAny_loadPart (k _ _ (X _ _ ho)) (wpAny_pure ?_)))))
  dsimp only
  rw [hs]
  exact wpAny_pure (wpAny_pure (wpAny_pure q))
theorem base44 {h : Heap} (X : (gen.heap_1_39 w.params).In h) : Looks (model prog w) h (Bind.staticBase (.ref 44)) (.ref 44) := by
  obtain ⟨dd, cd, sl, ho, hm, hs, _, _, _⟩ := cls44 w
  have hM : Looks (model prog w) h (mroOf (.ref 44)) cd.mro := (looks_clsIn X (by unfold clsIn; rw [ho])).andThen .now
  intro A Q E s k q
  unfold Bind.staticBase
  refine wpAny_bind (hM A _ E s k ?_)
  rw [hm, List.forIn_cons]
  exact wpAny_bind (wpAny_bind (wpAny_bind (made44 X A _ E s k (wpAny_pure (wpAny_pure (wpAny_pure q))))))

theorem new44 {A : Around} {R : Result → Shared → Prop} {h : Heap} {g : Array GenState} {d : Drawn} {t : Nat} {os : OsState} {rest : List Value} (X : (gen.heap_1_39 w.params).In h) (hrest : rest.length ≤ sizeLine)
    (hq : R (.ok (.ret (.ref (h.objs.size + 1)))) ⟨(h.push { cls := .type "tuple", data := .seq rest.toArray }).push
      { cls := .ref 44, data := .fields #[.ref h.objs.size, .none, .none, .none, .bool false, .none] }, g, d, t, os⟩) :
    codeAny (model prog w) A (.call (.builtin "Exception.__new__") ⟨.ref 44 :: rest, []⟩) R ⟨h, g, d, t, os⟩ := by
  have F := PySem.F.excBase_Exception
  obtain ⟨dd, cd, sl, ho, hm, hs, hab, hdl, hdct⟩ := cls44 w
  have s1 : Looks (model prog w) h (isSubtype (.ref 44) (.type "Exception")) true := looks_mroIn X (by k_is)
  have s2 : Looks (model prog w) h (isSubtype (.ref 44) (.type "AttributeError")) false := looks_mroIn X (by k_is)
  have s3 : Looks (model prog w) h (isSubtype (.ref 44) (.type "NameError")) false := looks_mroIn X (by k_is)
  have s4 := made44 (prog := prog) X
  have s5 := base44 (prog := prog) X
  have hends := F.ends
  have h44 := X _ _ ho
  refine codeAny_call_builtin_code (Code.quiet_builtin _ F.quiet) ?_
  simp only [checkBuiltinCall, F.newKind, F.newSplit, F.newRow]
  repeat (first | simp only [bne_self_eq_false, Bool.false_eq_true, if_false] | lk)
  refine codeAny_builtinAt F.entry ?_
  unfold Builtin.«BaseException.__new__»
  refine PySem.wpAt_bind ?_
  show PySem.wpAt _ _ _ (stack >>= _) _ _ _
  refine PySem.wpAt_bind (PySem.wpAt_stack fun p below => wpAt_of_wpAny ?_)
  wp_walk
  refine wpAt_of_wpAny ?_
  rw [F.owner]
  have here : Looks (model prog w) h (Bind.madeHere "BaseException.__new__" (.ref 44)) () := s5.andThen (s4.andThen (Looks.of_pure (by simp only [Option.map_some, F.canon, bne_self_eq_false, Bool.false_eq_true, if_false])))
  repeat lk
  rw [if_neg (by rw [List.size_toArray]; exact Nat.not_lt.mpr hrest)]
  have k1 := Heap.get?_push_of_some { cls := .type "tuple", data := .seq rest.toArray } h44
  have k2 := Heap.get?_push_of_some { cls := .ref 44, data := .fields #[.ref h.objs.size, .none, .none, .none, .bool false, .none] } k1
  repeat lk
  rw [hdl, if_neg Bool.false_ne_true, Heap.size_push]
  exact wpAny_pure (wpAny_pure hq)

abbrev excO (d : Option Addr) (t : Addr) : Obj := { cls := .ref 44, dict := d, data := .fields #[.ref t, .none, .none, .none, .bool false, .none] }
theorem enterG {name qual : Str} {params : Arguments} {body : List Stmt} {scope : Scope} {dV kV doc pm cdv ct oc : Value} {an od : Option Addr} {osl : Array (Option Value)} {f : Addr} {args : List Value} {binds : List (Str × Value)}
    {A : Around} {g : Heap} {news : List (Addr × Obj)} {R : Result → Shared → Prop} (X : (gen.heap_1_39 w.params).In g) (T : Top gen.view_1_40 (looseW gen.view_1_40 [Str.ofString "PRIORITIES"]) mean mg mb g) (k : Keeps g s.heap) (hsz : g.objs.size ≤ s.heap.objs.size)
    (N : ∀ p ∈ news, s.heap.get? p.1 = some p.2 ∧ g.get? p.1 = none)
    (ho : (gen.heap_1_39 w.params).lookup f = some ⟨oc, od, .func (fnOf name qual params body scope dV kV doc pm an cdv ct), osl⟩) (hcd : codeIn (gen.heap_1_39 w.params) cdv qual = true) (hroom : A.depth < recursionLimit)
    (hbind : BindsTo s (fnOf name qual params body scope dV kV doc pm an cdv ct) ⟨args, []⟩ binds) (hloc : ∀ y ∈ binds, scope.names.lookup y.1 = some .local)
    (h : ∀ L h₁, Fr g L h₁ (fun y => binds.reverse.lookup y) → News g L h₁ news →
      wpAny (model prog w) (A.deeper (envOf qual scope L f cdv)) (execs body (envOf qual scope L f cdv))
        (fun fl s' => R (.ok (.ret (match fl with | .ret v => v | _ => .none))) s')
        (fun e s' => wpAny (model prog w) (A.deeper (envOf qual scope L f cdv)) (leaving (envOf qual scope L f cdv) e) (fun _ s'' => R (.error e) s'') (fun e' s'' => R (.error e') s'') s')
        { s with heap := h₁, toks := s.toks + binds.length })
    (hco : scope.isCoroutine = false) (hgen : scope.isGenerator = false) (hk : scope.kind = .function)
    (hcell : ∀ x ∈ scope.names, x.2 ≠ .cell) : codeAny (model prog w) A (.call (.ref f) ⟨args, []⟩) R s := by
  refine (codeAny_call_def (fd := fnOf name qual params body scope dV kV doc pm an cdv ct) (body := body) (binds := binds) hroom (k _ _ (X _ _ ho)) rfl (T.nolimit.keeps k) (codeRec_of (X.keeps k) hcd) rfl hbind hcell hloc (fun h₁ hns hk₁ => ?_) hco hgen hk)
  exact h s.heap.objs.size h₁ ⟨hns, fun b o q => hk₁ b o (k b o q), hsz⟩ (fun p hp => ⟨hk₁ _ _ (N p hp).1, Nat.ne_of_lt (Heap.lt_size (N p hp).1), (N p hp).2⟩)

theorem meta_exc : typeOf (.type "Exception") = pure (.type "type") := by kernel_rfl
theorem call_init {A : Around} {e t : Addr} {x : Str} {tk : Tok} {g : Heap} {L : Addr} {m : Str → Option Value} {Q E : Value → Shared → Prop} (X₀ : (gen.heap_1_39 w.params).In g) (F : Fr g L s.heap m) (N : News g L s.heap [(e, excO none t)])
    (h : ∀ t' h', t' ≠ e → Fr g L h' m → News g L h' [(e, excO none t'), (t', { cls := .type "tuple", data := .seq #[.str x tk] })] → Q .none { s with heap := h' }) :
    wpAny (model prog w) A (call (.builtin "Exception.__init__") [.ref e, .str x tk]) Q E s := by
  have X := X₀.keeps F.keep
  have G := PySem.F.excBase_Exception
  have he := (N _ (.head _)).1
  have L1 : Looks (model prog w) s.heap (typeOf (.ref e)) (.ref 44) := (Looks.ld he).andThen .now
  have L2 : Looks (model prog w) s.heap (isInstance (.ref e) (.type "Exception")) true := L1.andThen (looks_mroIn X (by k_is))
  have hstar := G.noStar
  refine wpAny_call (codeAny_call_builtin G.init.plain G.initEntry ?_ )
  simp only [checkBuiltinCall, G.initKind, G.initSplit, G.initRow]
  obtain ⟨dd, cd, sl, ho, hm, hs, _, _, _⟩ := cls44 w
  have h44 := X _ _ ho
  have k1 : (s.heap.push { cls := .type "tuple", data := .seq #[.str x tk] }).get? e = some (excO none t) := Heap.get?_push_of_some _ he
  repeat lk
  refine wpAny_updatePart k1 ?_
  repeat lk
  have N1 := N.push F { cls := .type "tuple", data := .seq #[.str x tk] }
  have F1 := F.push { cls := .type "tuple", data := .seq #[.str x tk] }
  obtain ⟨U1, U2⟩ := news_upd (f := Obj.mapFields fun y => y.setIfInBounds 0 (Value.ref s.heap.objs.size)) (pre := [(s.heap.objs.size, { cls := .type "tuple", data := .seq #[.str x tk] })]) (post := []) (d := e) (o := excO none t) F1 N1
    (List.forall_mem_singleton.mpr (Nat.ne_of_gt (Heap.lt_size he))) (List.forall_mem_nil _) rfl rfl
  refine h s.heap.objs.size _ (Nat.ne_of_gt (Heap.lt_size he)) U1 fun p hp => U2 p ?_
  rcases List.mem_cons.mp hp with rfl | hp
  · exact .tail _ (.head _)
  · rw [List.mem_singleton.mp hp]
    exact .head _
theorem passes44 (self : Value) : refuseLoop self "__setattr__" [.type "Exception", .type "BaseException", .type "object"] = pure () := by kernel_rfl
theorem set_text {A : Around} {e t : Addr} {v : Value} {g : Heap} {L : Addr} {m : Str → Option Value} {o2 : Obj} {Q : Unit → Shared → Prop} {E : Value → Shared → Prop} (X₀ : (gen.heap_1_39 w.params).In g) (F : Fr g L s.heap m) (N : News g L s.heap [(e, excO none t), (t, o2)]) (hne : t ≠ e)
    (h : ∀ dx h' tk', Fr g L h' m → News g L h' [(e, excO (some dx) t), (t, o2)] → Q () { s with heap := h', toks := tk' }) :
    wpAny (model prog w) A (setAttr (.ref e) (Str.ofString "text") v) Q E s := by
  have X := X₀.keeps F.keep
  have he := (N _ (.head _)).1
  have SF := PySem.F.store_object
  obtain ⟨dd, cd, sl, ho, hm, hs, hab, hdl, hdct⟩ := cls44 w
  have h44 := X _ _ ho
  have L1 : Looks (model prog w) s.heap (typeOf (.ref e)) (.ref 44) := (Looks.ld he).andThen .now
  have L2 : Looks (model prog w) s.heap (typeLookup (.ref 44) (Str.ofString "__setattr__")) (some (.builtin "object.__setattr__")) := looks_findIn X (by k_is)
  have L3 : Looks (model prog w) s.heap (isInstance (.ref e) (.type "object")) true := L1.andThen (looks_mroIn X (by k_is))
  have L4 : Looks (model prog w) s.heap (typeLookup (.ref 44) (Str.ofString "text")) none := looks_findIn X (by k_is)
  have L5 : Looks (model prog w) s.heap (mroOf (.ref 44)) cd.mro := (looks_clsIn X (by unfold clsIn; rw [ho])).andThen .now
  refine wpAny_bind (wpAny_mkText (wpAny_bind (wpAny_bind (wpAny_bind (L1 _ _ _ _ (fun _ _ e => e) (L2 _ _ _ _ (fun _ _ e => e) (wpAny_holding ?_)))))))
  rw [PySem.F.store_object.slot.bind]
  refine wpAny_bind (wpAny_pure (wpAny_bind (wpAny_call ?_)))
  refine codeAny_call_builtin SF.slot.plain SF.entry (@check_slot (model prog w) _ _ { s with toks := s.toks + 1 } "object.__setattr__" "object" "__setattr__" (.ref e) [.str (Str.ofString "text") s.toks, v] [] _ SF.kind SF.split L3 (SF.args (.ref e) (.str (Str.ofString "text") s.toks) v) ?_)
  simp only [List.cons_append, List.nil_append]
  rw [osa_eq]
  have LC : Looks (model prog w) s.heap (classData 44) cd := looks_clsIn X (by unfold clsIn; rw [ho])
  have L6 : Looks (model prog w) s.heap (Builtin.ObjectAttr.refuseIfOverridden (.ref e) (Str.ofString "__setattr__")) () := by
    rw [refuse_eq]
    exact L1.andThen (L5.andThen (by rw [hm, refuseLoop_ref, refuseLoop_ref, passes44]; exact .now))
  obtain ⟨hp, gs, dr, tk0, os⟩ := s
  dsimp only at he L1 L2 L3 L4 L5 L6 LC F N h X h44 ⊢
  repeat lk
  rw [hdct]
  have he1 : (hp.push { cls := .type "dict", data := .dict #[] }).get? e = some (excO none t) := Heap.get?_push_of_some _ he
  repeat lk
  refine wpAny_updatePart he1 ?_
  have he2 := Heap.get?_update_self (fun o : Obj => { o with dict := some hp.objs.size }) he1 rfl
  have hne2 : e ≠ hp.objs.size := Nat.ne_of_lt (Heap.lt_size he)
  have hd2 : ((hp.push { cls := .type "dict", data := .dict #[] }).update e (fun o : Obj => { o with dict := some hp.objs.size })).get? hp.objs.size = some { cls := .type "dict", data := .dict #[] } := by
    rw [Heap.get?_update_other _ _ hne2]
    exact Heap.get?_push_size _ rfl
  repeat lk
  refine wpAny_updatePart hd2 ?_
  have N1 := N.push F { cls := .type "dict", data := .dict #[] }
  have F1 := F.push { cls := .type "dict", data := .dict #[] }
  have hne3 : t ≠ hp.objs.size := Nat.ne_of_lt (Heap.lt_size (N _ (.tail _ (.head _))).1)
  obtain ⟨F2, N2⟩ := news_upd (f := fun o : Obj => { o with dict := some hp.objs.size }) (pre := [(hp.objs.size, { cls := .type "dict", data := .dict #[] })]) (post := [(t, o2)]) (d := e) (o := excO none t) F1 N1
    (List.forall_mem_singleton.mpr (Ne.symm hne2)) (List.forall_mem_singleton.mpr hne) rfl rfl
  have ep := putName_dict (Str.ofString "text") (if (Str.ofString "text").cps.isEmpty = true then 0 else reduceHash (w.params.strHash (Str.ofString "text").cps)) (Value.str (Str.ofString "text") (tk0 + 1)) v [] 0
  obtain ⟨F3, N3⟩ := news_upd (f := Obj.putName (Str.ofString "text") (if (Str.ofString "text").cps.isEmpty = true then 0 else reduceHash (w.params.strHash (Str.ofString "text").cps)) (Value.str (Str.ofString "text") (tk0 + 1)) v) (pre := []) (post := [(e, excO (some hp.objs.size) t), (t, o2)]) (d := hp.objs.size) (o := dictOf [] 0) F2 N2
    (List.forall_mem_nil _) (List.forall_mem_cons.mpr ⟨hne2, List.forall_mem_singleton.mpr hne3⟩) ep rfl
  refine wpAny_bind (wpAny_lookBehind (N3 _ (.head _)).1 (pastItsLine_dict (by rw [List.size_toArray, sizeLine_eq]; simp [putL])) ?_)
  exact wpAny_pure (wpAny_pure (wpAny_pure (h _ _ _ F3 fun p hp => N3 p (.tail _ hp))))
end
local macro_rules | `(tactic| walk_at "getMethod type:Exception") => `(tactic| (k_here; refine' method_type ?F ?X ?m (by decide +kernel) ?e ?h ?_; (case F | X => k_asm); (case m => exact meta_exc); (case e => k_dflt k_is); (case h => k_handed)))
section
variable {prog : Program} {w : World} {dp un : Nat} {gd : Option (List Code)} {fr : List Env} {base : Heap} {s : Shared} {mean : ExcName → Option Value} {mg mb : Str → Option Value}
end
local macro_rules | `(tactic| walk_at "call builtin:Exception.__init__") => `(tactic| (k_here; refine' call_init ?X ?F ?N ?_; (case F | X | N => k_asm); k_whole; intro t' h' ne' F' N'; (try k_sweep)))
section
variable {prog : Program} {w : World} {dp un : Nat} {gd : Option (List Code)} {fr : List Env} {base : Heap} {s : Shared} {mean : ExcName → Option Value} {mg mb : Str → Option Value}
end
local macro_rules | `(tactic| walk_at "setAttr ref") => `(tactic| (k_here; refine' set_text ?X ?F ?N ?ne ?_; (case F | X | N => k_asm); (case ne => assumption); k_whole; intro dx' h' tk' F' N'; (try k_sweep)))
section
variable {prog : Program} {w : World} {dp un : Nat} {gd : Option (List Code)} {fr : List Env} {base : Heap} {s : Shared} {mean : ExcName → Option Value} {mg mb : Str → Option Value}
set_option maxHeartbeats 8000000 in
theorem init28 {A : Around} {e t : Addr} {x : Str} {tk : Tok} {g : Heap} {R : Result → Shared → Prop} (X : (gen.heap_1_39 w.params).In g) (T : Top gen.view_1_40 (looseW gen.view_1_40 [Str.ofString "PRIORITIES"]) mean mg mb g) (k : Keeps g s.heap) (he : s.heap.get? e = some (excO none t)) (hen : g.get? e = none) (hsz : g.objs.size ≤ s.heap.objs.size)
    (hroom : A.depth < 1000)
    (ret : ∀ h' tk', Keeps g h' → (∃ t' dx vs, h'.get? e = some (excO (some dx) t') ∧ g.get? t' = none ∧ h'.TupAt t' vs) → R (.ok (.ret .none)) { s with heap := h', toks := tk' }) :
    codeAny (model prog w) A (.call (.ref 28) ⟨[.ref e, .str x tk], []⟩) R s := by
  refine' enterG (binds := [(Str.ofString "self", .ref e), (Str.ofString "text", .str x tk)]) (news := [(e, excO none t)]) X T k hsz (List.forall_mem_singleton.mpr ⟨he, hen⟩) ?k6 ?k7 ?k8 ?k9 ?kB ?_ ?c2 ?c3 ?c4 ?c5
  walk_at "=enter"
  intro L h₁ F N
  walk_at "=go"
  rename News _ _ _ _ => nN
  rename Fr _ _ _ _ => fF
  exact ret _ _ fF.keep ⟨_, _, _, (nN _ (.head _)).1, (nN _ (.tail _ (.head _))).2.2, ⟨_, _, (nN _ (.tail _ (.head _))).1, rfl, rfl⟩⟩

end
section
variable {prog : Program} {w : World} {dp un : Nat} {gd : Option (List Code)} {fr : List Env} {base : Heap} {s : Shared} {mean : ExcName → Option Value} {mg mb : Str → Option Value}
set_option maxHeartbeats 400000 in
theorem call44 {A : Around} {x : Str} {tk : Tok} {Q E : Value → Shared → Prop} (X : (gen.heap_1_39 w.params).In s.heap) (T : Top gen.view_1_40 (looseW gen.view_1_40 [Str.ofString "PRIORITIES"]) mean mg mb s.heap) (hroom : A.depth + 1 < 1000)
    (h : ∀ e h' tk', MadeX s.heap h' e → Q (.ref e) { s with heap := h', toks := tk' }) :
    wpAny (model prog w) A (call (.ref 44) [.str x tk]) Q E s := by
  obtain ⟨hp, gs, dr, tk0, os⟩ := s
  dsimp only at X T h ⊢
  obtain ⟨dd, cd, sl, ho, hm, hs, hab, hdl, hdct⟩ := cls44 w
  have h44 := X _ _ ho
  have call : Looks (model prog w) hp (specialOf (.ref 44) "__call__") (some (.builtin "type.__call__")) := looks_specialIn X (by k_is)
  have typ : Looks (model prog w) hp (isInstance (.ref 44) (.type "type")) true := looks_instIn X (by k_is)
  have hM : Looks (model prog w) hp (mroOf (.ref 44)) cd.mro := (looks_clsIn X (by unfold clsIn; rw [ho])).andThen .now
  have mb := made44 (prog := prog) X
  refine wpAny_call (codeAny_of_tree ?_)
  show wpAny _ _ (callAny (.ref 44) _) _ _ _
  refine nd_load h44 ?_
  show wpAny _ _ (callAny.viaDunder (.ref 44) _) _ _ _
  unfold callAny.viaDunder
  refine wpAny_bind (call.at ?_)
  dsimp only
  rw [tc_bind]
  refine wpAny_bind (wpAny_pure (wpAny_bind (wpAny_pure ?_)))
  refine wpAny_pure (a := Fin.again (.call (.builtin "type.__call__") ⟨[.ref 44, .str x tk], []⟩)) (And.intro rfl ?_)
  refine codeAny_call_builtin_at (Code.quiet_builtin _ (by decide +kernel)) entry_typeCall (check_slot tc_kind tc_split typ (tc_args _ _ _) ?_)
  unfold Builtin.«type.__call__»
  repeat (first | with_reducible refine wpAny_call ?_ | lk)
  have e4 : cd.mro.isEmpty = false := by rw [hm]; rfl
  repeat (first | simp only [e4, Bool.false_eq_true, if_false] | with_reducible refine wpAny_call ?_ | lk)
  refine new44 X (by rw [sizeLine_eq]; exact Nat.le_of_ble_eq_true rfl) ?_
  have k2 : Keeps hp ((hp.push { cls := .type "tuple", data := .seq [Value.str x tk].toArray }).push (excO none hp.objs.size)) := fun b o e => Heap.get?_push_of_some _ (Heap.get?_push_of_some _ e)
  have hx : ((hp.push { cls := .type "tuple", data := .seq [Value.str x tk].toArray }).push (excO none hp.objs.size)).get? (hp.objs.size + 1) = some (excO none hp.objs.size) := by heap_get
  have X2 := X.keeps k2
  have t1 : Looks (model prog w) ((hp.push { cls := .type "tuple", data := .seq [Value.str x tk].toArray }).push (excO none hp.objs.size)) (typeOf (.ref (hp.objs.size + 1))) (.ref 44) := (Looks.ld hx).andThen .now
  have s1 : Looks (model prog w) ((hp.push { cls := .type "tuple", data := .seq [Value.str x tk].toArray }).push (excO none hp.objs.size)) (isSubtype (.ref 44) (.ref 44)) true := looks_mroIn X2 (by k_is)
  have i1 : Looks (model prog w) ((hp.push { cls := .type "tuple", data := .seq [Value.str x tk].toArray }).push (excO none hp.objs.size)) (typeLookup (.ref 44) (Str.ofString "__init__")) (some (.ref 28)) := looks_findIn X2 (by k_is)
  have b1 := bind_fn (M := model prog w) X2 (f := 28) (.ref (hp.objs.size + 1)) (by k_is)
  unfold isInstance callSpecial? specialOf
  repeat (first | with_reducible refine wpAny_call ?_ | lk)
  refine init28 (A := A.under (.builtin "type.__call__" ⟨[.ref 44, .str x tk], []⟩)) (s := ⟨_, gs, dr, tk0, os⟩) X T k2 hx (Heap.get?_none_of_le (Nat.le_succ _)) (by simp only [Heap.size_push]; omega) ?_ ?_
  · rw [depth_under_make]
    exact hroom
  · intro h' tk' k' ht
    obtain ⟨t', dx, vs, q1, q2, q3⟩ := ht
    exact wpAny_pure (wpAny_pure (h _ h' tk' ⟨k', Heap.get?_none_of_le (Nat.le_succ _), t', dx, vs, q1, q2, q3⟩))

-- the raise as a step of the walk
end
local macro_rules | `(tactic| walk_at "exec Raise some none") => `(tactic| (k_here; refine raise_any (by with_unfolding_all rfl) ?_))
section
variable {prog : Program} {w : World} {dp un : Nat} {gd : Option (List Code)} {fr : List Env} {base : Heap} {s : Shared} {mean : ExcName → Option Value} {mg mb : Str → Option Value}
theorem call44_use {h₀ : Heap} {L f : Addr} {m : Str → Option Value} {cn : Str} {cs : Scope} {cd : Value} {x : Str} {tk : Tok} {E : Value → Shared → Prop}
    (X : (gen.heap_1_39 w.params).In h₀) (T : Top gen.view_1_40 (looseW gen.view_1_40 [Str.ofString "PRIORITIES"]) mean mg mb h₀) (F : Fr h₀ L s.heap m) (hdp : dp + 2 < 1000)
    (h : ∀ e h' tk', MadeX s.heap h' e → E (.ref e) { s with heap := h', toks := tk' }) :
    wpAny (model prog w) ((Ar dp un gd fr).deeper (envOf cn cs L f cd)) (call (.ref 44) [.str x tk]) (RaisableX w E) E s :=
  call44 (X.keeps F.keep) (T.keeps F.keep) (by show dp + 1 + 1 < 1000; omega) fun e h' tk' M => by
    obtain ⟨t, dx, vs, h1, h2, h3⟩ := M.there
    exact ⟨e, dx, t, rfl, (X.keeps F.keep).keeps M.keeps, h1, h e h' tk' M⟩
end
theorem word13 : True := by
  k_with "my call ref" => ((k_here; (with_reducible show wpAny _ _ (call (Value.ref 44) [_]) (RaisableX _ _) _ _); k_dflt (apply call44_use; (case X => k_asm); (case T => with_reducible assumption); (case F => k_asm); (case hdp => omega); k_whole); intro _ _ _ _; (try dsimp only)))
  trivial
section
variable {prog : Program} {w : World} {dp un : Nat} {gd : Option (List Code)} {fr : List Env} {base : Heap} {s : Shared} {mean : ExcName → Option Value} {mg mb : Str → Option Value}

end
local macro_rules | `(tactic| walk_at "=asm2") => `(tactic| (
  (case B | X | F | N => k_asm)
  (case T => with_reducible assumption)
  (case hdp | hun => omega)
  (case hk => exact rfl)))
section
variable {prog : Program} {w : World} {dp un : Nat} {gd : Option (List Code)} {fr : List Env} {base : Heap} {s : Shared} {mean : ExcName → Option Value} {mg mb : Str → Option Value}
set_option maxHeartbeats 4000000 in
theorem deeper_spec {n : Nat} {t : Tok} (C : Cx w (Ar dp un gd fr) base fr mean mg mb s.heap) (hdp : dp + 3 < 1000) (hun : un + 32 < 9900) :
    CallSpec prog w (Ar dp un gd fr) fr base s 110 [.int n t] (fun v tl => n < 40 ∧ Just (fun t => .int (n + 1 : Nat) t) v tl) (40 ≤ n) := by
  refine' enter (binds := [(Str.ofString "deep", .int n t)]) C ?k6 ?k7 ?k8 ?k9 ?kB ?_ ?c2 ?c3 ?c4 ?c5
  walk_at "=enter"
  intro L h₁ E hexc F N
  have X := C.X
  have T := C.T
  have B := C.B
  walk_at "=go"
  · exact thruNew B F rfl (by assumption) (hexc (by omega))
  · walk_at "=ret"
    exact ⟨_, _, _, [], rfl, by assumption, NewIn.nil, by omega, ⟨_, rfl⟩, rfl⟩
theorem deeper_use {h₀ : Heap} {L f : Addr} {m : Str → Option Value} {news : List (Addr × Obj)} {cn : Str} {cs : Scope} {cd : Value} {n : Nat} {t : Tok} {Q E : Value → Shared → Prop}
    (B : Below (Ar dp un gd fr) base fr h₀) (X : (gen.heap_1_39 w.params).In h₀) (T : Top gen.view_1_40 (looseW gen.view_1_40 [Str.ofString "PRIORITIES"]) mean mg mb h₀) (F : Fr h₀ L s.heap m) (N : News h₀ L s.heap news)
    (hdp : dp + 4 < 1000) (hun : un + 35 < 9900) (hk : cs.kind = .function)
    (ret : n < 40 → ∀ t h' tk', Fr h₀ L h' m → News h₀ L h' news → Q (.int (n + 1 : Nat) t) { s with heap := h', toks := tk' })
    (exc : 40 ≤ n → ∀ e h' tk', Flies base s.heap (envOf cn cs L f cd :: fr) e h' → E (.ref e) { s with heap := h', toks := tk' }) :
    wpAny (model prog w) ((Ar dp un gd fr).deeper (envOf cn cs L f cd)) (call (.ref 110) [.int n t]) Q E s :=
  CallSpec.use (deeper_spec (Cx.inn (a := f) (cd := cd) B X T F hk) (by omega) (by omega)) F N (fun v tl h' tk' F' N' _ p => by
    obtain ⟨h1, ⟨t, rfl⟩, rfl⟩ := p
    exact ret h1 t h' tk' F' N') exc
end
local macro_rules | `(tactic| walk_at "call ref") => `(tactic| (k_here; (with_reducible show wpAny _ _ (call (Value.ref 110) _) _ _ _); k_dflt (refine' deeper_use ?B ?X ?T ?F ?N ?hdp ?hun ?hk ?ret ?exc; walk_at "=asm2"); (case' ret => (intro lim' t' h' tk' F' N'; walk_at "=end")); (case' exc => (intro lim' e' h' tk' R'))))
section
variable {prog : Program} {w : World} {dp un : Nat} {gd : Option (List Code)} {fr : List Env} {base : Heap} {s : Shared} {mean : ExcName → Option Value} {mg mb : Str → Option Value}
set_option maxHeartbeats 4000000 in
theorem higher_spec {n : Nat} {t : Tok} (C : Cx w (Ar dp un gd fr) base fr mean mg mb s.heap) (hdp : dp + 3 < 1000) (hun : un + 32 < 9900) :
    CallSpec prog w (Ar dp un gd fr) fr base s 103 [.int n t] (fun v tl => n < 100 ∧ Just (fun t => .int (n + 1 : Nat) t) v tl) (100 ≤ n) := by
  refine' enter (binds := [(Str.ofString "height", .int n t)]) C ?k6 ?k7 ?k8 ?k9 ?kB ?_ ?c2 ?c3 ?c4 ?c5
  walk_at "=enter"
  intro L h₁ E hexc F N
  have X := C.X
  have T := C.T
  have B := C.B
  walk_at "=go"
  · exact thruNew B F rfl (by assumption) (hexc (by omega))
  · walk_at "=ret"
    exact ⟨_, _, _, [], rfl, by assumption, NewIn.nil, by omega, ⟨_, rfl⟩, rfl⟩
theorem higher_use {h₀ : Heap} {L f : Addr} {m : Str → Option Value} {news : List (Addr × Obj)} {cn : Str} {cs : Scope} {cd : Value} {n : Nat} {t : Tok} {Q E : Value → Shared → Prop}
    (B : Below (Ar dp un gd fr) base fr h₀) (X : (gen.heap_1_39 w.params).In h₀) (T : Top gen.view_1_40 (looseW gen.view_1_40 [Str.ofString "PRIORITIES"]) mean mg mb h₀) (F : Fr h₀ L s.heap m) (N : News h₀ L s.heap news)
    (hdp : dp + 4 < 1000) (hun : un + 35 < 9900) (hk : cs.kind = .function)
    (ret : n < 100 → ∀ t h' tk', Fr h₀ L h' m → News h₀ L h' news → Q (.int (n + 1 : Nat) t) { s with heap := h', toks := tk' })
    (exc : 100 ≤ n → ∀ e h' tk', Flies base s.heap (envOf cn cs L f cd :: fr) e h' → E (.ref e) { s with heap := h', toks := tk' }) :
    wpAny (model prog w) ((Ar dp un gd fr).deeper (envOf cn cs L f cd)) (call (.ref 103) [.int n t]) Q E s :=
  CallSpec.use (higher_spec (Cx.inn (a := f) (cd := cd) B X T F hk) (by omega) (by omega)) F N (fun v tl h' tk' F' N' _ p => by
    obtain ⟨h1, ⟨t, rfl⟩, rfl⟩ := p
    exact ret h1 t h' tk' F' N') exc
end
local macro_rules | `(tactic| walk_at "call ref") => `(tactic| (k_here; (with_reducible show wpAny _ _ (call (Value.ref 103) _) _ _ _); k_dflt (refine' higher_use ?B ?X ?T ?F ?N ?hdp ?hun ?hk ?ret ?exc; walk_at "=asm2"); (case' ret => (intro lim' t' h' tk' F' N'; walk_at "=end")); (case' exc => (intro lim' e' h' tk' R'))))
section
variable {prog : Program} {w : World} {dp un : Nat} {gd : Option (List Code)} {fr : List Env} {base : Heap} {s : Shared} {mean : ExcName → Option Value} {mg mb : Str → Option Value}
end
section
variable {prog : Program} {w : World} {A : Around} {E : Value → Shared → Prop} {s : Shared} {env : Env} {h₀ : Heap} {x y : Str} {body : List Stmt} {Q : Flow → Shared → Prop}
noncomputable def RJ (P : Nat → Int → Prop) (x y : Str) (m₀ : Str → Option Value) (news : List (Addr × Obj)) (j : Nat) (m : Str → Option Value) (nx : List (Addr × Obj)) : Prop :=
  nx = news ∧ ∃ d td, m y = some (.int d td) ∧ P j d ∧ ∀ z, z ≠ x → z ≠ y → m z = m₀ z
theorem rloop {r : Addr} {i n : Nat} {t₀ u₀ v₀ td0 : Tok} {d0 : Int} {m₀ : Str → Option Value} {news : List (Addr × Obj)} (P : Nat → Int → Prop)
    (hh : A.handled = none) (hr : IsRange s.heap r (i : Int) (n : Int) 1 t₀ u₀ v₀) (hin : i ≤ n) (hn : n ≤ 2 ^ 20) (F : Fr h₀ env.locals s.heap m₀) (N : News h₀ env.locals s.heap news) (hy : m₀ y = some (.int d0 td0)) (hP : P 0 d0)
    (turn : ∀ j d td t h tk own, j < n - i → P j d → OwnOff own (news.map (·.1)) → Fr h₀ env.locals h (fun z => if z = x then some (.int ((i + j : Nat) : Int) t) else if z = y then some (.int d td) else m₀ z) → News h₀ env.locals h (news ++ own) →
      wpAny (model prog w) A (execs body env) (InvPostG h₀ env.locals (RJ P x y m₀ news (j + 1)) own { s with heap := h, toks := tk } Q) E { s with heap := h, toks := tk })
    (done : ∀ d td u h tk, P (n - i) d → Fr h₀ env.locals h (fun z => if z = x then u else if z = y then some (.int d td) else m₀ z) → News h₀ env.locals h news → Q .next { s with heap := h, toks := tk }) :
    wpAny (model prog w) A (pyIter (.ref r)) (fun it s₂ => LoopAtV prog w A h₀ env x body Q E it s₂) E s := by
  have hsz : Builtin.Range.rangeSize (i : Int) (n : Int) 1 = ((n - i : Nat) : Int) := by
    unfold Builtin.Range.rangeSize
    simp only [gt_iff_lt]
    (repeat' split) <;> omega
  have hsmall : Builtin.Range.small (i : Int) (n : Int) 1 = true := by
    have fits : ∀ k : Int, 0 ≤ k → k ≤ 2 ^ 20 → Builtin.Range.rangeFitsLong k = true := fun k h1 h2 => by
      unfold Builtin.Range.rangeFitsLong
      simp only [Bool.and_eq_true, decide_eq_true_eq]
      omega
    unfold Builtin.Range.small
    rw [hsz, fits _ (by omega) (by omega), fits _ (by omega) (by omega), fits _ (by omega) (by omega), fits _ (by omega) (by omega), if_pos (by decide), fits _ (by omega) (by omega), Bool.or_true]
    rfl
  refine wpAny_pyIter_range hr hsmall ?_
  have W : Walks prog w A s.heap.objs.size [s.heap.objs.size] [s.heap.objs.size] (n - i) (fun j v => j < n - i ∧ ∃ t, v = .int ((i : Int) + j * 1) t)
      (fun j h => IsRangeIter h s.heap.objs.size ((i : Int) + (j : Nat) * 1) (((n - i : Nat) : Int) - (j : Nat)) 1) := (Walks.range hh _ (i : Int) 1 (n - i)).bound
  refine kdr_loop (RJ P x y m₀ news) W (fun _ h => h) (fun _ h => h) ?_ ?_ ?_ ?_ (by show IsRangeIter _ _ _ _ _; rw [hsz]; simpa using Heap.get?_push_size _ rfl) (F.push _) (fun p hp => ⟨Heap.get?_push_of_some _ (N p hp).1, (N p hp).2⟩) ⟨rfl, d0, td0, hy, hP, fun _ _ _ => rfl⟩ ?_ ?_
  · intro i h hi b hb
    rw [List.mem_singleton.mp hb]
    exact ⟨_, hi⟩
  · intro hm
    exact absurd F.ns.lt ((List.mem_singleton.mp hm) ▸ Nat.lt_irrefl _)
  · intro b hb
    rw [List.mem_singleton.mp hb]
    exact next_is_new F
  · intro p hp hI
    exact absurd (Heap.lt_size (N p hp).1) ((List.mem_singleton.mp hI) ▸ Nat.lt_irrefl _)
  · rintro j v m₁ nx h tk own hj ⟨_, t, rfl⟩ hoff ⟨rfl, d, td, h1, h2, h3⟩ F₁ N₁
    have e1 : (i : Int) + (j : Int) * 1 = ((i + j : Nat) : Int) := by omega
    rw [e1] at F₁
    have e : (fun z => if z = x then some (Value.int ((i + j : Nat) : Int) t) else m₁ z) = (fun z => if z = x then some (Value.int ((i + j : Nat) : Int) t) else if z = y then some (.int d td) else m₀ z) := by
      funext z
      by_cases hx : z = x
      · rw [if_pos hx, if_pos hx]
      · rw [if_neg hx, if_neg hx]
        by_cases hy : z = y
        · rw [if_pos hy, hy, h1]
        · rw [if_neg hy, h3 z hx hy]
    rw [e] at F₁
    exact turn j d td t h tk own hj h2 hoff F₁ N₁
  · rintro m₁ nx h tk ⟨rfl, d, td, h1, h2, h3⟩ F₁ N₁
    have e : m₁ = (fun z => if z = x then m₁ x else if z = y then some (.int d td) else m₀ z) := by
      funext z
      by_cases hx : z = x
      · rw [if_pos hx, hx]
      · rw [if_neg hx]
        by_cases hy : z = y
        · rw [if_pos hy, hy, h1]
        · rw [if_neg hy, h3 z hx hy]
    rw [e] at F₁
    exact done d td (m₁ x) h tk h2 F₁ N₁
end
local macro_rules | `(tactic| walk_at "pyIter ref") => `(tactic| (k_extra "=loop"))
section
variable {prog : Program} {w : World} {dp un : Nat} {gd : Option (List Code)} {fr : List Env} {base : Heap} {s : Shared} {mean : ExcName → Option Value} {mg mb : Str → Option Value}
theorem closeStep {ts : List Tk} {i j c : Nat} {d : Int} (hj : j < ts.length - i) (hP : closeGo ts (ts.length - (i + j)) (i + j) d = some c) :
    (opAt ts (i + j) (Str.ofString "(") = true → closeGo ts (ts.length - (i + (j + 1))) (i + (j + 1)) (d + 1) = some c) ∧
    (opAt ts (i + j) (Str.ofString "(") = false → opAt ts (i + j) (Str.ofString ")") = true → d - 1 = 0 → c = i + j) ∧
    (opAt ts (i + j) (Str.ofString "(") = false → opAt ts (i + j) (Str.ofString ")") = true → ¬ d - 1 = 0 → closeGo ts (ts.length - (i + (j + 1))) (i + (j + 1)) (d - 1) = some c) ∧
    (opAt ts (i + j) (Str.ofString "(") = false → opAt ts (i + j) (Str.ofString ")") = false → closeGo ts (ts.length - (i + (j + 1))) (i + (j + 1)) d = some c) := by
  have e : ts.length - (i + j) = (ts.length - (i + (j + 1))) + 1 := by omega
  rw [e, closeGo] at hP
  refine ⟨fun h1 => ?_, fun h1 h2 h3 => ?_, fun h1 h2 h3 => ?_, fun h1 h2 => ?_⟩
  · rw [if_pos h1] at hP
    exact hP
  · rw [if_neg (by rw [h1]; exact Bool.false_ne_true), if_pos h2, if_pos h3] at hP
    exact (Option.some.inj hP).symm
  · rw [if_neg (by rw [h1]; exact Bool.false_ne_true), if_pos h2, if_neg h3] at hP
    exact hP
  · rw [if_neg (by rw [h1]; exact Bool.false_ne_true), if_neg (by rw [h2]; exact Bool.false_ne_true)] at hP
    exact hP
theorem closeDone {ts : List Tk} {i c : Nat} {d : Int} (hi : i ≤ ts.length) (hP : closeGo ts (ts.length - (i + (ts.length - i))) (i + (ts.length - i)) d = some c) : False := by
  have e : ts.length - (i + (ts.length - i)) = 0 := by omega
  rw [e, closeGo] at hP
  cases hP
set_option maxHeartbeats 8000000 in
theorem close_at_spec {a : Addr} {ts : List Tk} {i c : Nat} {t : Tok} (C : Cx w (Ar dp un gd fr) base fr mean mg mb s.heap) (TK : ToksAt s.heap a ts) (hdp : dp + 2 < 1000) (hun : un + 32 < 9900) (hi : i ≤ ts.length) (hc : closeAt ts i = some c) :
    CallSpec prog w (Ar dp un gd fr) fr base s 88 [.ref a, .int i t] (Just fun t => .int (c : Nat) t) False := by
  refine' enter (binds := [(Str.ofString "tokens", .ref a), (Str.ofString "at", .int i t)]) C ?k6 ?k7 ?k8 ?k9 ?kB ?_ ?c2 ?c3 ?c4 ?c5
  walk_at "=enter"
  intro L h₁ E hexc F N
  have X := C.X
  have T := C.T
  have B := C.B
  have hl : ts.length ≤ 2 ^ 20 := TK.1
  (k_with "=loop" => (with_unfolding_all refine' rloop (y := Str.ofString "depth") (fun j d => closeGo ts (ts.length - (i + j)) (i + j) d = some c) ?hh ?hr ?hin ?hn ?F ?N ?hy ?hP ?turn ?done; (case hh => exact rfl); (case hr => assumption); (case hin => assumption); (case hn => assumption); (case F => first | k_asm | exact Fr.keeps (by assumption) (by assumption)); (case N => first | k_asm | exact News.grown (by assumption) (by assumption)); (case hy => exact rfl); (case hP => exact hc); (case' turn => (intro j d td t' h' tk' own' hj' hP' hoff' F' N'; (have st := closeStep hj' hP'); (have s1 := st.1); (have s2 := st.2.1); (have s3 := st.2.2.1); (have s4 := st.2.2.2); clear st; (try dsimp only); (try k_sweep); (try k_fold))); (case done => (intro d td u' h' tk' hP' F' N'; exact (closeDone hi hP').elim))))
  walk_at "=go"
  all_goals k_with_none
  k_with "=end" => (((try dsimp only); (try k_sweep); (try k_fold)))
  k_with "=enter" => (((case k6 | k7 => k_is); (case k8 => ((try dsimp only [Ar, Around.deeper]); simp only [recursionLimit]; omega)); (case k9 => exact BindsTo.of_eq rfl); (case kB => exact locs rfl); (case c2 | c3 | c4 => exact rfl); (case c5 => decide)))
  k_with "=go" => ((show wpAny _ _ _ _ _ _; k_fold; k_steps))
  k_with "=asm" => (((case B | X | F | N => k_asm); (case T | TK => with_reducible assumption); (case hdp | hun => omega); (case hk => exact rfl); k_whole))
  k_with "my call ref" => ((k_here; (with_reducible show wpAny _ _ (call (Value.ref 60) _) _ _ _); k_dflt (apply is_op_use; walk_at "=asm"); intro _ _ _ _; walk_at "=end"))
  k_with "my call ref" => ((k_here; (with_reducible show wpAny _ _ (call (Value.ref 53) _) _ _ _); k_dflt (apply kind_at_use; walk_at "=asm"); intro _ _ _ _ _; walk_at "=end"))
  k_with "=ret" => (((try dsimp only); (try (k_unfold; dsimp only)); (show Back _ _ _ _ _)))
  k_with "my call ref" => ((k_here; (with_reducible show wpAny _ _ (call (Value.ref 159) _) _ _ _); k_dflt (apply part_end_use; walk_at "=asm"); intro _ _ _ _ _; walk_at "=end"))
  k_with "my call ref" => ((k_here; (with_reducible show wpAny _ _ (call (Value.ref 96) _) _ _ _); k_dflt (apply priority_at_use; walk_at "=asm"); intro _ _ _ _ _; walk_at "=end"))
  k_with "my call ref" => ((k_here; (with_reducible show wpAny _ _ (call (Value.ref 67) _) _ _ _); k_dflt (apply need_op_use; (case ho => with_reducible assumption); walk_at "=asm"); intro _ _ _ _ _; walk_at "=end"))
  k_with "my call ref" => ((k_here; (with_reducible show wpAny _ _ (call (Value.ref 74) _) _ _ _); k_dflt (apply need_name_use; (case ho => with_reducible assumption); walk_at "=asm"); intro _ _ _ _ _ _ _; walk_at "=end"))
  k_with "my call ref" => ((k_here; (with_reducible show wpAny _ _ (call (Value.ref 166) _) _ _ _); k_dflt (apply is_complex_use; walk_at "=asm"); intro _ _ _ _; walk_at "=end"))
  k_with "my call ref" => ((k_here; (with_reducible show wpAny _ _ (call (Value.ref 44) [_]) (RaisableX _ _) _ _); k_dflt (apply call44_use; (case X => k_asm); (case T => with_reducible assumption); (case F => k_asm); (case hdp => omega); k_whole); intro _ _ _ _; (try dsimp only)))
  · exact InvEndG.intro (by assumption) (by assumption) ⟨rfl, _, _, by with_unfolding_all rfl, s1 (by assumption), fun z h1 h2 => by simp [h1, h2]⟩ (by assumption) (List.forall_mem_nil _) (fun p hp => hp)
  · exact backJust (by assumption) ⟨_, by rw [s2 (by assumption) (by assumption) (by assumption)]⟩
  · exact InvEndG.intro (by assumption) (by assumption) ⟨rfl, _, _, by with_unfolding_all rfl, s3 (by assumption) (by assumption) (by assumption), fun z h1 h2 => by simp [h1, h2]⟩ (by assumption) (List.forall_mem_nil _) (fun p hp => hp)
  · exact InvEndG.intro (by assumption) (by assumption) ⟨rfl, _, _, by with_unfolding_all rfl, s4 (by assumption) (by assumption), fun z h1 h2 => by simp [h1, h2]⟩ (by assumption) (List.forall_mem_nil _) (fun p hp => hp)
theorem close_at_use {h₀ : Heap} {L f a : Addr} {m : Str → Option Value} {news : List (Addr × Obj)} {cn : Str} {cs : Scope} {cd : Value} {ts : List Tk} {i c : Nat} {t : Tok} {Q E : Value → Shared → Prop}
    (B : Below (Ar dp un gd fr) base fr h₀) (X : (gen.heap_1_39 w.params).In h₀) (T : Top gen.view_1_40 (looseW gen.view_1_40 [Str.ofString "PRIORITIES"]) mean mg mb h₀) (F : Fr h₀ L s.heap m) (N : News h₀ L s.heap news) (TK : ToksAt h₀ a ts)
    (hdp : dp + 3 < 1000) (hun : un + 35 < 9900) (hk : cs.kind = .function) (hi : i ≤ ts.length) (hc : closeAt ts i = some c)
    (ret : ∀ t h' tk', Fr h₀ L h' m → News h₀ L h' news → Q (.int (c : Nat) t) { s with heap := h', toks := tk' }) :
    wpAny (model prog w) ((Ar dp un gd fr).deeper (envOf cn cs L f cd)) (call (.ref 88) [.ref a, .int i t]) Q E s :=
  CallSpec.usePure (close_at_spec (Cx.inn (a := f) (cd := cd) B X T F hk) (TK.keeps F.keep) (by omega) (by omega) hi hc) F N ret
end
theorem word14 : True := by
  k_with "my call ref" => ((k_here; (with_reducible show wpAny _ _ (call (Value.ref 88) _) _ _ _); k_dflt (apply close_at_use; (case hi | hc => assumption); walk_at "=asm"); intro _ _ _ _ _; walk_at "=end"))
  trivial
section
variable {prog : Program} {w : World} {dp un : Nat} {gd : Option (List Code)} {fr : List Env} {base : Heap} {s : Shared} {mean : ExcName → Option Value} {mg mb : Str → Option Value}

theorem closeGo_le {ts : List Tk} {c : Nat} : ∀ {n p : Nat} {d : Int}, closeGo ts n p d = some c → p ≤ c ∧ c < p + n := by
  intro n
  induction n with
  | zero => intro p d h; cases h
  | succ n ih =>
    intro p d h
    rw [closeGo] at h
    split at h
    · have := ih h
      omega
    · split at h
      · split at h
        · cases h
          omega
        · have := ih h
          omega
      · have := ih h
        omega
theorem closeAt_lt {ts : List Tk} {i c : Nat} (ho : opAt ts i (Str.ofString "(") = true) (hc : closeAt ts i = some c) : i + 1 ≤ c ∧ c < ts.length := by
  unfold closeAt at hc
  cases hn : ts.length - i with
  | zero => rw [hn] at hc; cases hc
  | succ n =>
    rw [hn, closeGo, if_pos ho] at hc
    have := closeGo_le hc
    omega
theorem markStep {ts : List Tk} {x : Str} {i j c : Nat} {d : Int} {b : Bool} (hj : j < c - i) (hP : markGo ts x (c - (i + j)) (i + j) d = b) :
    (opAt ts (i + j) (Str.ofString "(") = true → markGo ts x (c - (i + (j + 1))) (i + (j + 1)) (d + 1) = b) ∧
    (opAt ts (i + j) (Str.ofString "(") = false → opAt ts (i + j) (Str.ofString ")") = true → markGo ts x (c - (i + (j + 1))) (i + (j + 1)) (d - 1) = b) ∧
    (opAt ts (i + j) (Str.ofString "(") = false → opAt ts (i + j) (Str.ofString ")") = false → d = 0 → opAt ts (i + j) x = true → b = true) ∧
    (opAt ts (i + j) (Str.ofString "(") = false → opAt ts (i + j) (Str.ofString ")") = false → d = 0 → opAt ts (i + j) x = false → markGo ts x (c - (i + (j + 1))) (i + (j + 1)) d = b) ∧
    (opAt ts (i + j) (Str.ofString "(") = false → opAt ts (i + j) (Str.ofString ")") = false → d ≠ 0 → markGo ts x (c - (i + (j + 1))) (i + (j + 1)) d = b) := by
  have e : c - (i + j) = (c - (i + (j + 1))) + 1 := by omega
  rw [e, markGo] at hP
  refine ⟨fun h1 => ?_, fun h1 h2 => ?_, fun h1 h2 h3 h4 => ?_, fun h1 h2 h3 h4 => ?_, fun h1 h2 h3 => ?_⟩
  · rw [if_pos h1] at hP
    exact hP
  · rw [if_neg (by rw [h1]; exact Bool.false_ne_true), if_pos h2] at hP
    exact hP
  · rw [if_neg (by rw [h1]; exact Bool.false_ne_true), if_neg (by rw [h2]; exact Bool.false_ne_true), if_pos (by rw [h3, h4]; rfl)] at hP
    exact hP.symm
  · rw [if_neg (by rw [h1]; exact Bool.false_ne_true), if_neg (by rw [h2]; exact Bool.false_ne_true), if_neg (by rw [h4, Bool.and_false]; exact Bool.false_ne_true)] at hP
    exact hP
  · rw [if_neg (by rw [h1]; exact Bool.false_ne_true), if_neg (by rw [h2]; exact Bool.false_ne_true), if_neg (by rw [decide_eq_false h3, Bool.false_and]; exact Bool.false_ne_true)] at hP
    exact hP
theorem markDone {ts : List Tk} {x : Str} {i c : Nat} {d : Int} {b : Bool} (hi : i ≤ c) (hP : markGo ts x (c - (i + (c - i))) (i + (c - i)) d = b) : b = false := by
  have e : c - (i + (c - i)) = 0 := by omega
  rw [e, markGo] at hP
  exact hP.symm
set_option maxHeartbeats 8000000 in
theorem holds_mark_spec {a : Addr} {ts : List Tk} {i : Nat} {t u : Tok} {x : Str} {b : Bool} (C : Cx w (Ar dp un gd fr) base fr mean mg mb s.heap) (TK : ToksAt s.heap a ts) (hdp : dp + 3 < 1000) (hun : un + 40 < 9900) (ho : opAt ts i (Str.ofString "(") = true) (hb : holdsMark ts i x = some b) :
    CallSpec prog w (Ar dp un gd fr) fr base s 187 [.ref a, .int i t, .str x u] (Just fun _ => .bool b) False := by
  refine' enter (binds := [(Str.ofString "tokens", .ref a), (Str.ofString "at", .int i t), (Str.ofString "mark", .str x u)]) C ?k6 ?k7 ?k8 ?k9 ?kB ?_ ?c2 ?c3 ?c4 ?c5
  walk_at "=enter"
  intro L h₁ E hexc F N
  have X := C.X
  have T := C.T
  have B := C.B
  have hl : ts.length ≤ 2 ^ 20 := TK.1
  obtain ⟨c, hc, hm⟩ := Option.map_eq_some_iff.mp hb
  have hlt := closeAt_lt ho hc
  have hi : i ≤ ts.length := by omega
  have hc1 : i + 1 ≤ c := hlt.1
  have hc2 : c ≤ 2 ^ 20 := by omega
  (k_with "=loop" => (with_unfolding_all refine' rloop (y := Str.ofString "depth") (fun j d => markGo ts x (c - (i + 1 + j)) (i + 1 + j) d = b) ?hh ?hr ?hin ?hn ?F ?N ?hy ?hP ?turn ?done; (case hh => exact rfl); (case hr => assumption); (case hin => assumption); (case hn => assumption); (case F => first | k_asm | exact Fr.keeps (by assumption) (by assumption)); (case N => first | k_asm | exact News.grown (by assumption) (by assumption)); (case hy => exact rfl); (case hP => exact hm); (case' turn => (intro j d td t' h' tk' own' hj' hP' hoff' F' N'; (have st := markStep hj' hP'); (have s1 := st.1); (have s2 := st.2.1); (have s3 := st.2.2.1); (have s4 := st.2.2.2.1); (have s5 := st.2.2.2.2); clear st; (try dsimp only); (try k_sweep); (try k_fold))); (case' done => (intro d td u' h' tk' hP' F' N'; (have s6 := markDone hc1 hP'); (try dsimp only); (try k_sweep); (try k_fold)))))
  walk_at "=go"
  all_goals k_with_none
  k_with "=end" => (((try dsimp only); (try k_sweep); (try k_fold)))
  k_with "=enter" => (((case k6 | k7 => k_is); (case k8 => ((try dsimp only [Ar, Around.deeper]); simp only [recursionLimit]; omega)); (case k9 => exact BindsTo.of_eq rfl); (case kB => exact locs rfl); (case c2 | c3 | c4 => exact rfl); (case c5 => decide)))
  k_with "=go" => ((show wpAny _ _ _ _ _ _; k_fold; k_steps))
  k_with "=asm" => (((case B | X | F | N => k_asm); (case T | TK => with_reducible assumption); (case hdp | hun => omega); (case hk => exact rfl); k_whole))
  k_with "my call ref" => ((k_here; (with_reducible show wpAny _ _ (call (Value.ref 60) _) _ _ _); k_dflt (apply is_op_use; walk_at "=asm"); intro _ _ _ _; walk_at "=end"))
  k_with "my call ref" => ((k_here; (with_reducible show wpAny _ _ (call (Value.ref 53) _) _ _ _); k_dflt (apply kind_at_use; walk_at "=asm"); intro _ _ _ _ _; walk_at "=end"))
  k_with "=ret" => (((try dsimp only); (try (k_unfold; dsimp only)); (show Back _ _ _ _ _)))
  k_with "my call ref" => ((k_here; (with_reducible show wpAny _ _ (call (Value.ref 159) _) _ _ _); k_dflt (apply part_end_use; walk_at "=asm"); intro _ _ _ _ _; walk_at "=end"))
  k_with "my call ref" => ((k_here; (with_reducible show wpAny _ _ (call (Value.ref 96) _) _ _ _); k_dflt (apply priority_at_use; walk_at "=asm"); intro _ _ _ _ _; walk_at "=end"))
  k_with "my call ref" => ((k_here; (with_reducible show wpAny _ _ (call (Value.ref 67) _) _ _ _); k_dflt (apply need_op_use; (case ho => with_reducible assumption); walk_at "=asm"); intro _ _ _ _ _; walk_at "=end"))
  k_with "my call ref" => ((k_here; (with_reducible show wpAny _ _ (call (Value.ref 74) _) _ _ _); k_dflt (apply need_name_use; (case ho => with_reducible assumption); walk_at "=asm"); intro _ _ _ _ _ _ _; walk_at "=end"))
  k_with "my call ref" => ((k_here; (with_reducible show wpAny _ _ (call (Value.ref 166) _) _ _ _); k_dflt (apply is_complex_use; walk_at "=asm"); intro _ _ _ _; walk_at "=end"))
  k_with "my call ref" => ((k_here; (with_reducible show wpAny _ _ (call (Value.ref 44) [_]) (RaisableX _ _) _ _); k_dflt (apply call44_use; (case X => k_asm); (case T => with_reducible assumption); (case F => k_asm); (case hdp => omega); k_whole); intro _ _ _ _; (try dsimp only)))
  k_with "my call ref" => ((k_here; (with_reducible show wpAny _ _ (call (Value.ref 88) _) _ _ _); k_dflt (apply close_at_use; (case hi | hc => assumption); walk_at "=asm"); intro _ _ _ _ _; walk_at "=end"))
  all_goals first
    | (walk_at "=ret"; exact backJust (by assumption) ⟨0, by rw [s6]⟩)
    | (walk_at "=ret"; exact backJust (by assumption) ⟨0, by rw [s3 (by assumption) (by assumption) (by assumption) (by assumption)]⟩)
    | exact InvEndG.intro (by assumption) (by assumption) ⟨rfl, _, _, by with_unfolding_all rfl, s1 (by assumption), fun z h1 h2 => by simp [h1, h2]⟩ (by assumption) (List.forall_mem_nil _) (fun p hp => hp)
    | exact InvEndG.intro (by assumption) (by assumption) ⟨rfl, _, _, by with_unfolding_all rfl, s2 (by assumption) (by assumption), fun z h1 h2 => by simp [h1, h2]⟩ (by assumption) (List.forall_mem_nil _) (fun p hp => hp)
    | exact InvEndG.intro (by assumption) (by assumption) ⟨rfl, _, _, by with_unfolding_all rfl, s4 (by assumption) (by assumption) (by assumption) (by assumption), fun z h1 h2 => by simp [h1, h2]⟩ (by assumption) (List.forall_mem_nil _) (fun p hp => hp)
    | exact InvEndG.intro (by assumption) (by assumption) ⟨rfl, _, _, by with_unfolding_all rfl, s5 (by assumption) (by assumption) (by assumption), fun z h1 h2 => by simp [h1, h2]⟩ (by assumption) (List.forall_mem_nil _) (fun p hp => hp)
theorem holds_mark_use {h₀ : Heap} {L f a : Addr} {m : Str → Option Value} {news : List (Addr × Obj)} {cn : Str} {cs : Scope} {cd : Value} {ts : List Tk} {i : Nat} {t u : Tok} {x : Str} {b : Bool} {Q E : Value → Shared → Prop}
    (B : Below (Ar dp un gd fr) base fr h₀) (X : (gen.heap_1_39 w.params).In h₀) (T : Top gen.view_1_40 (looseW gen.view_1_40 [Str.ofString "PRIORITIES"]) mean mg mb h₀) (F : Fr h₀ L s.heap m) (N : News h₀ L s.heap news) (TK : ToksAt h₀ a ts)
    (hdp : dp + 4 < 1000) (hun : un + 43 < 9900) (hk : cs.kind = .function) (ho : opAt ts i (Str.ofString "(") = true) (hb : holdsMark ts i x = some b)
    (ret : ∀ h' tk', Fr h₀ L h' m → News h₀ L h' news → Q (.bool b) { s with heap := h', toks := tk' }) :
    wpAny (model prog w) ((Ar dp un gd fr).deeper (envOf cn cs L f cd)) (call (.ref 187) [.ref a, .int i t, .str x u]) Q E s :=
  CallSpec.usePure (holds_mark_spec (Cx.inn (a := f) (cd := cd) B X T F hk) (TK.keeps F.keep) (by omega) (by omega) ho hb) F N fun _ => ret
end
theorem word15 : True := by
  k_with "my call ref" => ((k_here; (with_reducible show wpAny _ _ (call (Value.ref 187) _) _ _ _); k_dflt (apply holds_mark_use; (case ho | hb => assumption); walk_at "=asm"); intro _ _ _ _; walk_at "=end"))
  trivial
section
variable {prog : Program} {w : World} {dp un : Nat} {gd : Option (List Code)} {fr : List Env} {base : Heap} {s : Shared} {mean : ExcName → Option Value} {mg mb : Str → Option Value}
end
abbrev tupO (l : List Value) : Obj := { cls := .type "tuple", data := .seq l.toArray }
/-- a reader's answer on the ledger -/
noncomputable def Trip (r : Rs Tr) (v : Value) (tl : List (Addr × Obj)) : Prop :=
  ∃ d e h, r = .ok (d, e, h) ∧ ∃ q tv t t', v = .ref q ∧ (q, tupO [tv, .int ((e : Nat) : Int) t, .int ((h : Nat) : Int) t']) ∈ tl ∧ DatIn tl tv d
/-- the contract of read_binary -/
noncomputable def RBc (prog : Program) (w : World) (ts : List Tk) (rb : Rb) (D U : Nat) : Prop :=
  ∀ (dp un : Nat) (gd : Option (List Code)) (fr : List Env) (base : Heap) (s : Shared) (mean : ExcName → Option Value) (mg mb : Str → Option Value) (a : Addr) (i least deep : Nat) (t1 t2 t3 : Tok),
    Cx w (Ar dp un gd fr) base fr mean mg mb s.heap → ToksAt s.heap a ts → dp + D < 1000 → un + U < 9900 → rb i least deep ≠ .out →
    CallSpec prog w (Ar dp un gd fr) fr base s 124 [.ref a, .int (i : Int) t1, .int (least : Int) t2, .int (deep : Int) t3] (Trip (rb i least deep)) (rb i least deep = .fault)

section
variable {prog : Program} {w : World} {dp un : Nat} {gd : Option (List Code)} {fr : List Env} {base : Heap} {s : Shared} {mean : ExcName → Option Value} {mg mb : Str → Option Value}
theorem trip_use {h₀ : Heap} {L f : Addr} {m : Str → Option Value} {news : List (Addr × Obj)} {A : Around} {fx : Addr} {args : List Value} {r : Rs Tr} {Q E : Value → Shared → Prop}
    (C : CallSpec prog w A fr base s fx args (Trip r) (r = .fault)) (F : Fr h₀ L s.heap m) (N : News h₀ L s.heap news)
    (ret : ∀ d e h q tv t t' tl h' tk', r = .ok (d, e, h) → Fr h₀ L h' m → News h₀ L h' ((q, tupO [tv, .int ((e : Nat) : Int) t, .int ((h : Nat) : Int) t']) :: (tl ++ news)) → DatIn tl tv d → (∀ p ∈ tl, s.heap.get? p.1 = none) → Q (.ref q) { s with heap := h', toks := tk' })
    (exc : r = .fault → ∀ e h' tk', Flies base s.heap fr e h' → E (.ref e) { s with heap := h', toks := tk' }) :
    wpAny (model prog w) A (call (.ref fx) args) Q E s :=
  C.use F N (fun v tl h' tk' F' N' NI p => by
    obtain ⟨d, e, h, hr, q, tv, t, t', rfl, hm, hd⟩ := p
    exact ret d e h q tv t t' tl h' tk' hr F' (fun p hp => by
      rcases List.mem_cons.mp hp with rfl | hp
      · exact N' _ (List.mem_append.mpr (.inl hm))
      · exact N' p hp) hd fun p hp => (NI p hp).2) exc
theorem rb_use {ts : List Tk} {rb : Rb} {D U : Nat} {h₀ : Heap} {L f a : Addr} {m : Str → Option Value} {news : List (Addr × Obj)} {cn : Str} {cs : Scope} {cd : Value} {i least deep : Nat} {kl : Int} {t1 t2 t3 : Tok} {Q E : Value → Shared → Prop}
    (H : RBc prog w ts rb D U) (B : Below (Ar dp un gd fr) base fr h₀) (X : (gen.heap_1_39 w.params).In h₀) (T : Top gen.view_1_40 (looseW gen.view_1_40 [Str.ofString "PRIORITIES"]) mean mg mb h₀) (F : Fr h₀ L s.heap m) (N : News h₀ L s.heap news) (TK : ToksAt h₀ a ts)
    (hdp : dp + 1 + D < 1000) (hun : un + 3 + U < 9900) (hk : cs.kind = .function) (hl : kl = (least : Int)) (hne : rb i least deep ≠ .out)
    (ret : ∀ d e h q tv t t' tl h' tk', rb i least deep = .ok (d, e, h) → Fr h₀ L h' m → News h₀ L h' ((q, tupO [tv, .int ((e : Nat) : Int) t, .int ((h : Nat) : Int) t']) :: (tl ++ news)) → DatIn tl tv d → (∀ p ∈ tl, s.heap.get? p.1 = none) → Q (.ref q) { s with heap := h', toks := tk' })
    (exc : rb i least deep = .fault → ∀ e h' tk', Flies base s.heap (envOf cn cs L f cd :: fr) e h' → E (.ref e) { s with heap := h', toks := tk' }) :
    wpAny (model prog w) ((Ar dp un gd fr).deeper (envOf cn cs L f cd)) (call (.ref 124) [.ref a, .int (i : Int) t1, .int kl t2, .int (deep : Int) t3]) Q E s := by
  subst hl
  exact trip_use (f := f) (H (dp + 1) (un + 3) gd _ base s mean mg mb a i least deep t1 t2 t3 (Cx.inn (a := f) (cd := cd) B X T F hk) (TK.keeps F.keep) hdp hun hne) F N ret exc
theorem nat0 : (0 : Int) = ((0 : Nat) : Int) := rfl
theorem max_nat {A : Around} {h₀ : Heap} {L : Addr} {m : Str → Option Value} {news : List (Addr × Obj)} {a b : Nat} {ka kb : Int} {t u : Tok} {Q E : Value → Shared → Prop} (hh : A.handled = none) (ha : ka = (a : Int)) (hb : kb = (b : Int)) (F : Fr h₀ L s.heap m) (N : News h₀ L s.heap news)
    (h : ∀ t' h' tk, Fr h₀ L h' m → News h₀ L h' news → Q (.int ((max a b : Nat) : Int) t') { s with heap := h', toks := tk }) : wpAny (model prog w) A (call (.builtin "max") [.int ka t, .int kb u]) Q E s :=
  max_two_N hh F N fun h' tk F' N' => by
    subst ha
    subst hb
    have e : (if (b : Int) > (a : Int) then (b : Int) else (a : Int)) = ((max a b : Nat) : Int) := by
      split <;> omega
    rw [e]
    exact h _ h' tk F' N'
end
local macro_rules | `(tactic| walk_at "call builtin:max") => `(tactic| (k_here; (with_reducible show wpAny _ _ (call (Value.builtin "max") [Value.int _ _, Value.int _ _]) _ _ _); (with_unfolding_all refine' max_nat ?hh ?ha ?hb ?F ?N ?_; (case hh => exact rfl); (case ha | hb => with_reducible first | exact nat0 | exact rfl); (case F | N => k_asm); k_whole); intro t' h' tk' F' N'; (try k_sweep)))
section
variable {prog : Program} {w : World} {dp un : Nat} {gd : Option (List Code)} {fr : List Env} {base : Heap} {s : Shared} {mean : ExcName → Option Value} {mg mb : Str → Option Value}
/-- what read_ends gives -/
noncomputable def EndsP (r : Rs (Dat × Dat × Nat × Nat)) (v : Value) (tl : List (Addr × Obj)) : Prop :=
  ∃ lo hi e h, r = .ok (lo, hi, e, h) ∧ ∃ q tv tw t t', v = .ref q ∧ (q, tupO [tv, tw, .int ((e : Nat) : Int) t, .int ((h : Nat) : Int) t']) ∈ tl ∧ DatIn tl tv lo ∧ DatIn tl tw hi
set_option maxHeartbeats 8000000 in
theorem read_ends_spec {a : Addr} {ts : List Tk} {rb : Rb} {D U i deep : Nat} {t u : Tok} (C : Cx w (Ar dp un gd fr) base fr mean mg mb s.heap) (TK : ToksAt s.heap a ts) (H : RBc prog w ts rb D U) (hdp : dp + 1 + D < 1000) (hun : un + 3 + U < 9900) (hdp2 : dp + 4 < 1000) (hun2 : un + 60 < 9900) (hne : rEnds ts rb i deep ≠ .out) :
    CallSpec prog w (Ar dp un gd fr) fr base s 194 [.ref a, .int i t, .int deep u] (EndsP (rEnds ts rb i deep)) (rEnds ts rb i deep = .fault) := by
  refine' enter (binds := [(Str.ofString "tokens", .ref a), (Str.ofString "at", .int i t), (Str.ofString "deep", .int deep u)]) C ?k6 ?k7 ?k8 ?k9 ?kB ?_ ?c2 ?c3 ?c4 ?c5
  walk_at "=enter"
  intro L h₁ E hexc F N
  have X := C.X
  have T := C.T
  have B := C.B
  have e0 : opAt ts i (Str.ofString "(") = true := by
    cases q : opAt ts i (Str.ofString "(") with
    | true => rfl
    | false => exact absurd (by simp [rEnds, q]) hne
  walk_at "=go"
  · walk_at "=ret"
    have hb1 : opAt ts (i + 1) (Str.ofString ":") = true := by assumption
    have hb2 : opAt ts (i + 1 + 1) (Str.ofString ")") = true := by assumption
    exact ⟨_, _, _, _, rfl, by assumption, NewIn.of (by assumption), Dat.none, Dat.none, i + 1 + 1 + 1, max 0 0, by simp [rEnds, rLow, rHigh, Rs.bind, e0, hb1, hb2], _, _, _, _, _, rfl, by k_mem, DatIn.none, DatIn.none⟩
  · have hb1 : opAt ts (i + 1) (Str.ofString ":") = true := by assumption
    have hb2 : opAt ts (i + 1 + 1) (Str.ofString ")") = false := by assumption
    refine rb_use H B X T (by assumption) (by assumption) TK hdp hun rfl (least := 1) rfl (fun q => hne (by simp [rEnds, rLow, rHigh, Rs.bind, e0, hb1, hb2, q])) ?_ ?_
    · intro d e h q tv t t' tl h' tk' hr F' N' D' _
      have hc : opAt ts e (Str.ofString ")") = true := by
        cases q : opAt ts e (Str.ofString ")") with
        | true => rfl
        | false => exact absurd (by simp [rEnds, rLow, rHigh, Rs.bind, e0, hb1, hb2, hr, q]) hne
      k_steps
      walk_at "=ret"
      exact ⟨_, _, _, _, rfl, by assumption, NewIn.of (by assumption), Dat.none, d, e + 1, max 0 h, by simp [rEnds, rLow, rHigh, Rs.bind, e0, hb1, hb2, hr, hc], _, _, _, _, _, rfl, by k_mem, DatIn.none, (DatIn.mono (fun p hp => by simp only [List.mem_cons, List.mem_append, hp, true_or, or_true]) D')⟩
    · intro hr e' h' tk' R'
      exact thru (s := s) B (by assumption) R' (hexc (by simp [rEnds, rLow, rHigh, Rs.bind, e0, hb1, hb2, hr]))
  · have hb1 : opAt ts (i + 1) (Str.ofString ":") = false := by assumption
    refine rb_use H B X T (by assumption) (by assumption) TK hdp hun rfl (least := 1) rfl (fun q => hne (by simp [rEnds, rLow, rHigh, Rs.bind, e0, hb1, q])) ?_ ?_
    · intro d1 e1 g1 q1 tv1 t1 t1' tl1 h1' tk1' hr1 F1' N1' D1 _
      have hc1 : opAt ts e1 (Str.ofString ":") = true := by
        cases q : opAt ts e1 (Str.ofString ":") with
        | true => rfl
        | false => exact absurd (by simp [rEnds, rLow, rHigh, Rs.bind, e0, hb1, hr1, q]) hne
      k_steps
      · walk_at "=ret"
        have hb2 : opAt ts (e1 + 1) (Str.ofString ")") = true := by assumption
        exact ⟨_, _, _, _, rfl, by assumption, NewIn.of (by assumption), d1, Dat.none, e1 + 1 + 1, max g1 0, by simp [rEnds, rLow, rHigh, Rs.bind, e0, hb1, hr1, hc1, hb2], _, _, _, _, _, rfl, by k_mem, (DatIn.mono (fun p hp => by simp only [List.mem_cons, List.mem_append, hp, true_or, or_true]) D1), DatIn.none⟩
      · have hb2 : opAt ts (e1 + 1) (Str.ofString ")") = false := by assumption
        refine rb_use H B X T (by assumption) (by assumption) TK hdp hun rfl (least := 1) rfl (fun q => hne (by simp [rEnds, rLow, rHigh, Rs.bind, e0, hb1, hr1, hc1, hb2, q])) ?_ ?_
        · intro d e h q tv t t' tl h' tk' hr F' N' D' _
          have hc : opAt ts e (Str.ofString ")") = true := by
            cases q : opAt ts e (Str.ofString ")") with
            | true => rfl
            | false => exact absurd (by simp [rEnds, rLow, rHigh, Rs.bind, e0, hb1, hr1, hc1, hb2, hr, q]) hne
          k_steps
          walk_at "=ret"
          exact ⟨_, _, _, _, rfl, by assumption, NewIn.of (by assumption), d1, d, e + 1, max g1 h, by simp [rEnds, rLow, rHigh, Rs.bind, e0, hb1, hr1, hc1, hb2, hr, hc], _, _, _, _, _, rfl, by k_mem, (DatIn.mono (fun p hp => by simp only [List.mem_cons, List.mem_append, hp, true_or, or_true]) D1), (DatIn.mono (fun p hp => by simp only [List.mem_cons, List.mem_append, hp, true_or, or_true]) D')⟩
        · intro hr e' h' tk' R'
          exact thru (s := s) B (by assumption) R' (hexc (by simp [rEnds, rLow, rHigh, Rs.bind, e0, hb1, hr1, hc1, hb2, hr]))
    · intro hr e' h' tk' R'
      exact thru (s := s) B (by assumption) R' (hexc (by simp [rEnds, rLow, rHigh, Rs.bind, e0, hb1, hr]))
end
section
variable {prog : Program} {w : World} {A : Around} {E : Value → Shared → Prop} {env : Env} {test : PySem.Expr} {body orelse : List Stmt} {Q : Flow → Shared → Prop}
theorem whl_inv (J : Nat → Shared → Prop) (hE : PassesOwn (model prog w) A env E) (h0 : ∀ s, ¬ J 0 s)
    (turn : ∀ n s, J (n + 1) s → (∀ k s', J n s' → WhlRest prog w A E env test body orelse Q k s') →
      wpAny (model prog w) A (isTrue test env (eval test env)) (fun b s₂ => WhlIf b (wpAny (model prog w) A (execs body env) (WhlPost prog w A E env test body orelse Q 0) E s₂) (wpAny (model prog w) A (execs orelse env) Q E s₂)) E s) :
    ∀ n k s, J n s → WhlRest prog w A E env test body orelse Q k s := by
  intro n
  induction n with
  | zero => exact fun k s h => absurd h (h0 s)
  | succ n ih => exact fun k s h => whl_turn (k := 0) hE (turn n s h ih)
end
/-- a goal that the walk leaves -/
noncomputable def Hold (P : Prop) : Prop := P
theorem Hold.out {P : Prop} (h : Hold P) : P := h
local macro_rules | `(tactic| walk_at "WhlRest") => `(tactic| ((with_reducible show WhlRest _ _ _ _ _ _ _ _ _ _ _); refine Hold.out ?_))
local macro_rules | `(tactic| walk_at "exec While") => `(tactic| (k_here; (with_reducible show wpAny _ _ (exec (Stmt.While _ _ _ _) _) _ _ _); refine whl_start 0 ?_))
local macro_rules | `(tactic| walk_at "exec While Compare") => `(tactic| (k_here; (with_reducible show wpAny _ _ (exec (Stmt.While _ _ _ _) _) _ _ _); refine whl_start 0 ?_))
local macro_rules | `(tactic| walk_at "last exec While") => `(tactic| (k_here; (with_reducible show wpAny _ _ (exec (Stmt.While _ _ _ _) _) _ _ _); refine whl_start 0 ?_))
local macro_rules | `(tactic| k_upd) => `(tactic| exact Upd.head (by assumption))
local macro_rules | `(tactic| size_fits) => `(tactic| assumption)
theorem frSet {g h : Heap} {L : Addr} {m : Str → Option Value} (a : Str) {v : Value} (F : Fr g L h m) (e : m a = some v) : Fr g L h (fun z => if z = a then some v else m z) := by
  have q : (fun z => if z = a then some v else m z) = m := by
    funext z
    by_cases hz : z = a
    · rw [if_pos hz, hz, e]
    · rw [if_neg hz]
  rw [q]
  exact F
section
variable {prog : Program} {w : World} {dp un : Nat} {gd : Option (List Code)} {fr : List Env} {base : Heap} {s : Shared} {mean : ExcName → Option Value} {mg mb : Str → Option Value}
/-- what read_arguments gives -/
noncomputable def ArgsP (r : Rs (List Dat × Nat × Nat)) (v : Value) (tl : List (Addr × Obj)) : Prop :=
  ∃ rows e h, r = .ok (rows, e, h) ∧ ∃ q R t t', v = .ref q ∧ (q, tupO [.ref R, .int ((e : Nat) : Int) t, .int ((h : Nat) : Int) t']) ∈ tl ∧ DatIn tl (.ref R) (.list rows)
noncomputable def ArgsJ (ts : List Tk) (rb : Rb) (s : Shared) (L a : Addr) (u : Tok) (i deep n : Nat) (s' : Shared) : Prop :=
  ∃ (ht at' : Nat) (t1 t2 : Tok) (R : Addr) (vs : List Value) (ds : List Dat) (c : Nat) (mm : Str → Option Value) (h : Heap) (tk : Nat) (tl : List (Addr × Obj)), s' = { s with heap := h, toks := tk } ∧ rArgsLoop ts rb deep n ds ht at' = rArgs ts rb i deep ∧
    Fr s.heap L h (fun z => if z = Str.ofString "at" then some (.int ((at' : Nat) : Int) t1) else if z = Str.ofString "height" then some (.int ((ht : Nat) : Int) t2) else if z = Str.ofString "rows" then some (.ref R) else
      if z = Str.ofString "tokens" then some (.ref a) else if z = Str.ofString "may_return" then some (.bool false) else if z = Str.ofString "deep" then some (.int ((deep : Nat) : Int) u) else mm z) ∧
    News s.heap L h ((R, W.listOf vs.toArray c) :: tl) ∧ (∀ p ∈ tl, p.1 ≠ R) ∧ DatAll tl vs ds ∧ ds.length + n ≤ ts.length
set_option maxHeartbeats 8000000 in
theorem read_args_spec {a : Addr} {ts : List Tk} {rb : Rb} {D U i deep : Nat} {t u : Tok} (C : Cx w (Ar dp un gd fr) base fr mean mg mb s.heap) (TK : ToksAt s.heap a ts) (H : RBc prog w ts rb D U) (hdp : dp + 1 + D < 1000) (hun : un + 3 + U < 9900) (hdp2 : dp + 4 < 1000) (hun2 : un + 60 < 9900) (hne : rArgs ts rb i deep ≠ .out) :
    CallSpec prog w (Ar dp un gd fr) fr base s 208 [.ref a, .int i t, .bool false, .int deep u] (ArgsP (rArgs ts rb i deep)) (rArgs ts rb i deep = .fault) := by
  refine' enter (binds := [(Str.ofString "tokens", .ref a), (Str.ofString "at", .int i t), (Str.ofString "may_return", .bool false), (Str.ofString "deep", .int deep u)]) C ?k6 ?k7 ?k8 ?k9 ?kB ?_ ?c2 ?c3 ?c4 ?c5
  walk_at "=enter"
  intro L h₁ E hexc F N
  have X := C.X
  have T := C.T
  have B := C.B
  have e0 : opAt ts i (Str.ofString "(") = true := by
    cases q : opAt ts i (Str.ofString "(") with
    | true => rfl
    | false => exact absurd (by simp [rArgs, q]) hne
  have e1 : opAt ts (i + 1) (Str.ofString ")") = false := by
    cases q : opAt ts (i + 1) (Str.ofString ")") with
    | false => rfl
    | true => exact absurd (by simp [rArgs, e0, q]) hne
  walk_at "=go"
  refine whl_inv (ArgsJ ts rb s L a u i deep) ?hE ?h0 ?turn ts.length 0 _ ?hJ
  case hE => first | passes_own | with_unfolding_all passes_own
  case h0 =>
    rintro s' ⟨ht, at', t1, t2, R, vs, ds, c, mm, h, tk, tl, _, he, _⟩
    exact hne (he.symm.trans rfl)
  case hJ =>
    refine ⟨0, i + 1, _, _, _, [], [], 0, _, _, _, [], rfl, by simp [rArgs, e0, e1], frSet (Str.ofString "at") (frSet (Str.ofString "height") (frSet (Str.ofString "rows") (frSet (Str.ofString "tokens") (frSet (Str.ofString "may_return") (frSet (Str.ofString "deep") (by assumption) rfl) rfl) rfl) rfl) rfl) rfl, by assumption, List.forall_mem_nil _, DatAll.nil, by simp⟩
  case turn =>
    rintro n s' ⟨ht, at', t1, t2, R, vs, ds, c, mm, h, tk, tl, rfl, he, F, N, hR, hD, hlen⟩ ih
    clear h₁
    k_steps
    have n1 : rb at' 1 deep ≠ .out := fun q => hne (by rw [← he, rArgsLoop, q]; rfl)
    have hRh : h.get? R = some (W.listOf vs.toArray c) := (N _ (.head _)).1
    refine rb_use H B X T F N TK hdp hun rfl (least := 1) rfl n1 ?_ ?_
    · intro d e h2 q tv t9 t9' tl2 h' tk' hr F' N' D' hnew
      have hR2 : ∀ p ∈ tl2, p.1 ≠ R := fun p hp z => by
        have := hnew p hp
        rw [z] at this
        exact absurd (hRh.symm.trans this) (by simp)
      have hq : q ≠ R := fun z => by
        have a1 := (N' _ (.head _)).1
        have a2 := (N' (R, W.listOf vs.toArray c) (.tail _ (List.mem_append.mpr (.inr (.head _))))).1
        dsimp only at a1 a2
        rw [z, a2] at a1
        have a3 := congrArg (fun o : Option Obj => o.map (·.cls)) a1
        simp at a3
      have hall : ∀ p ∈ ((q, tupO [tv, .int ((e : Nat) : Int) t9, .int ((h2 : Nat) : Int) t9']) :: (tl2 ++ tl)), p.1 ≠ R := List.forall_mem_cons.mpr ⟨hq, List.forall_mem_append.mpr ⟨hR2, hR⟩⟩
      have N2 : News s.heap L h' ((R, W.listOf vs.toArray c) :: (q, tupO [tv, .int ((e : Nat) : Int) t9, .int ((h2 : Nat) : Int) t9']) :: (tl2 ++ tl)) := fun p hp => N' p (by
        simp only [List.mem_cons, List.mem_append] at hp ⊢
        rcases hp with hp | hp | hp | hp <;> simp only [hp, true_or, or_true])
      clear N' N F hnew
      have hvs : vs.length = ds.length := hD.length
      have hsz : vs.toArray.size ≤ sizeLine := by rw [List.size_toArray, hvs, sizeLine_eq]; have := TK.1; omega
      cases hcm : opAt ts e (Str.ofString ",") with
      | true =>
        have he2 : rArgsLoop ts rb deep n (ds ++ [d]) (max ht h2) (e + 1) = rArgs ts rb i deep := by rw [← he, rArgsLoop, hr]; simp [Rs.bind, hcm]
        k_steps
        rename Fr _ _ _ _ => fF
        rename News _ _ _ _ => nN
        refine ih 0 _ ⟨max ht h2, e + 1, _, _, R, vs ++ [tv], ds ++ [d], c + 1, _, _, _, _, rfl, he2, frSet (Str.ofString "at") (frSet (Str.ofString "height") (frSet (Str.ofString "rows") (frSet (Str.ofString "tokens") (frSet (Str.ofString "may_return") (frSet (Str.ofString "deep") fF rfl) rfl) rfl) rfl) rfl) rfl, by simpa only [List.push_toArray] using nN, hall, ?_, by simp only [List.length_append, List.length_singleton]; omega⟩
        exact DatAll.append (hD.mono fun p hp => by simp only [List.mem_cons, List.mem_append, hp, or_true]) (DatAll.one (D'.mono fun p hp => by simp only [List.mem_cons, List.mem_append, hp, true_or, or_true]))
      | false =>
        have hc : opAt ts e (Str.ofString ")") = true := by
          cases q : opAt ts e (Str.ofString ")") with
          | true => rfl
          | false => exact absurd (by rw [← he, rArgsLoop, hr]; simp [Rs.bind, hcm, q]) hne
        have he2 : rArgs ts rb i deep = .ok (ds ++ [d], e + 1, max ht h2) := by rw [← he, rArgsLoop, hr]; simp [Rs.bind, hcm, hc]
        k_steps
        walk_at "=ret"
        rename Fr _ _ _ _ => fF
        rename News _ _ _ _ => nN
        refine ⟨_, _, _, _, rfl, fF, NewIn.of nN, ds ++ [d], e + 1, max ht h2, he2, _, R, _, _, rfl, by k_mem, ?_⟩
        rw [List.push_toArray]
        exact DatIn.list (.tail _ (.head _)) (DatAll.append (hD.mono fun p hp => by simp only [List.mem_cons, List.mem_append, hp, or_true]) (DatAll.one (D'.mono fun p hp => by simp only [List.mem_cons, List.mem_append, hp, true_or, or_true])))
    · intro hr e' h' tk' R'
      exact thru (s := s) B (by assumption) R' (hexc (by rw [← he, rArgsLoop, hr]; rfl))
end
section
variable {prog : Program} {w : World} {dp un : Nat} {gd : Option (List Code)} {fr : List Env} {base : Heap} {s : Shared} {mean : ExcName → Option Value} {mg mb : Str → Option Value}
theorem args_use {ts : List Tk} {rb : Rb} {D U : Nat} {h₀ : Heap} {L f a : Addr} {m : Str → Option Value} {news : List (Addr × Obj)} {cn : Str} {cs : Scope} {cd : Value} {i deep : Nat} {t1 t3 : Tok} {Q E : Value → Shared → Prop}
    (H : RBc prog w ts rb D U) (B : Below (Ar dp un gd fr) base fr h₀) (X : (gen.heap_1_39 w.params).In h₀) (T : Top gen.view_1_40 (looseW gen.view_1_40 [Str.ofString "PRIORITIES"]) mean mg mb h₀) (F : Fr h₀ L s.heap m) (N : News h₀ L s.heap news) (TK : ToksAt h₀ a ts)
    (hdp : dp + 2 + D < 1000) (hun : un + 6 + U < 9900) (hdp2 : dp + 5 < 1000) (hun2 : un + 63 < 9900) (hk : cs.kind = .function) (hne : rArgs ts rb i deep ≠ .out)
    (ret : ∀ rows e h q R t t' tl h' tk', rArgs ts rb i deep = .ok (rows, e, h) → Fr h₀ L h' m → News h₀ L h' ((q, tupO [.ref R, .int ((e : Nat) : Int) t, .int ((h : Nat) : Int) t']) :: (tl ++ news)) → DatIn tl (.ref R) (.list rows) → Q (.ref q) { s with heap := h', toks := tk' })
    (exc : rArgs ts rb i deep = .fault → ∀ e h' tk', Flies base s.heap (envOf cn cs L f cd :: fr) e h' → E (.ref e) { s with heap := h', toks := tk' }) :
    wpAny (model prog w) ((Ar dp un gd fr).deeper (envOf cn cs L f cd)) (call (.ref 208) [.ref a, .int (i : Int) t1, .bool false, .int (deep : Int) t3]) Q E s :=
  CallSpec.use (read_args_spec (Cx.inn (a := f) (cd := cd) B X T F hk) (TK.keeps F.keep) H (by omega) (by omega) (by omega) (by omega) hne) F N (fun v tl h' tk' F' N' NI p => by
    obtain ⟨d, e, h, hr, q, R, t, t', rfl, hm, hd⟩ := p
    exact ret d e h q R t t' tl h' tk' hr F' (fun p hp => by
      rcases List.mem_cons.mp hp with rfl | hp
      · exact N' _ (List.mem_append.mpr (.inl hm))
      · exact N' p hp) hd) exc
theorem ends_use {ts : List Tk} {rb : Rb} {D U : Nat} {h₀ : Heap} {L f a : Addr} {m : Str → Option Value} {news : List (Addr × Obj)} {cn : Str} {cs : Scope} {cd : Value} {i deep : Nat} {t1 t3 : Tok} {Q E : Value → Shared → Prop}
    (H : RBc prog w ts rb D U) (B : Below (Ar dp un gd fr) base fr h₀) (X : (gen.heap_1_39 w.params).In h₀) (T : Top gen.view_1_40 (looseW gen.view_1_40 [Str.ofString "PRIORITIES"]) mean mg mb h₀) (F : Fr h₀ L s.heap m) (N : News h₀ L s.heap news) (TK : ToksAt h₀ a ts)
    (hdp : dp + 2 + D < 1000) (hun : un + 6 + U < 9900) (hdp2 : dp + 5 < 1000) (hun2 : un + 63 < 9900) (hk : cs.kind = .function) (hne : rEnds ts rb i deep ≠ .out)
    (ret : ∀ lo hi e h q tv tw t t' tl h' tk', rEnds ts rb i deep = .ok (lo, hi, e, h) → Fr h₀ L h' m → News h₀ L h' ((q, tupO [tv, tw, .int ((e : Nat) : Int) t, .int ((h : Nat) : Int) t']) :: (tl ++ news)) → DatIn tl tv lo → DatIn tl tw hi → Q (.ref q) { s with heap := h', toks := tk' })
    (exc : rEnds ts rb i deep = .fault → ∀ e h' tk', Flies base s.heap (envOf cn cs L f cd :: fr) e h' → E (.ref e) { s with heap := h', toks := tk' }) :
    wpAny (model prog w) ((Ar dp un gd fr).deeper (envOf cn cs L f cd)) (call (.ref 194) [.ref a, .int (i : Int) t1, .int (deep : Int) t3]) Q E s :=
  CallSpec.use (read_ends_spec (Cx.inn (a := f) (cd := cd) B X T F hk) (TK.keeps F.keep) H (by omega) (by omega) (by omega) (by omega) hne) F N (fun v tl h' tk' F' N' NI p => by
    obtain ⟨lo, hi, e, h, hr, q, tv, tw, t, t', rfl, hm, hd, hd'⟩ := p
    exact ret lo hi e h q tv tw t t' tl h' tk' hr F' (fun p hp => by
      rcases List.mem_cons.mp hp with rfl | hp
      · exact N' _ (List.mem_append.mpr (.inl hm))
      · exact N' p hp) hd hd') exc
set_option maxHeartbeats 8000000 in
theorem read_named_spec {a : Addr} {ts : List Tk} {rb : Rb} {D U i deep : Nat} {t u : Tok} (C : Cx w (Ar dp un gd fr) base fr mean mg mb s.heap) (TK : ToksAt s.heap a ts) (H : RBc prog w ts rb D U) (hdp : dp + 2 + D < 1000) (hun : un + 6 + U < 9900) (hdp2 : dp + 6 < 1000) (hun2 : un + 70 < 9900) (hne : rNamed ts rb i deep ≠ .out) :
    CallSpec prog w (Ar dp un gd fr) fr base s 180 [.ref a, .int i t, .int deep u] (Trip (rNamed ts rb i deep)) (rNamed ts rb i deep = .fault) := by
  refine' enter (binds := [(Str.ofString "tokens", .ref a), (Str.ofString "at", .int i t), (Str.ofString "deep", .int deep u)]) C ?k6 ?k7 ?k8 ?k9 ?kB ?_ ?c2 ?c3 ?c4 ?c5
  walk_at "=enter"
  intro L h₁ E hexc F N
  have X := C.X
  have T := C.T
  have B := C.B
  have e0 : kindAt ts i = Str.ofString "NAME" := by
    by_cases q : kindAt ts i = Str.ofString "NAME"
    · exact q
    · exact absurd (by simp [rNamed, q]) hne
  cases hop : opAt ts (i + 1) (Str.ofString "(") with
  | false =>
    walk_at "=go"
    walk_at "=ret"
    exact ⟨_, _, _, _, rfl, by assumption, NewIn.of (by assumption), dName (textAt ts i), i + 1, 0, by simp [rNamed, e0, hop], _, _, _, _, rfl, by k_mem, by unfold dName; kd_in⟩
  | true =>
    cases hm : holdsMark ts (i + 1) (Str.ofString ":") with
    | none => exact absurd (by simp [rNamed, e0, hop, hm]) hne
    | some b =>
      cases b with
      | false =>
        walk_at "=go"
        · have lim : 40 ≤ deep := by assumption
          exact thru (s := s) B (by assumption) (by assumption) (hexc (by simp [rNamed, e0, hop, hm, rRef, lim, Rs.bind]))
        · have hnd : ¬ 40 ≤ deep := by omega
          have hne1 : rArgs ts rb (i + 1) (deep + 1) ≠ .out := fun q => hne (by simp [rNamed, e0, hop, hm, rRef, hnd, q, Rs.bind])
          refine args_use H B X T (by assumption) (by assumption) TK (by omega) (by omega) (by omega) (by omega) rfl hne1 ?_ ?_
          · intro rows e h q R t8 t9 tl2 h2' tk2' hr F2' N2' D2
            k_steps
            refine higher_use B X T (by assumption) (by assumption) (by omega) (by omega) rfl ?_ ?_
            · intro lim1 t1' h1' tk1' F1' N1'
              have hnh : ¬ 100 ≤ h := by omega
              cases ho2 : opAt ts e (Str.ofString "(") with
              | false =>
                k_steps
                walk_at "=ret"
                exact ⟨_, _, _, _, rfl, by assumption, NewIn.of (by assumption), dRef (textAt ts i) rows, e, h + 1, by simp [rNamed, e0, hop, hm, rRef, rSub, hnd, hr, hnh, ho2, Rs.bind], _, _, _, _, rfl, by k_mem, by unfold dRef; kd_in⟩
              | true =>
                k_steps
                refine deeper_use B X T (by assumption) (by assumption) (by omega) (by omega) rfl ?_ ?_
                · intro _ t2' h2' tk2' F2' N2'
                  k_steps
                  refine ends_use H B X T (by assumption) (by assumption) TK (by omega) (by omega) (by omega) (by omega) rfl (fun q => hne (by simp [rNamed, e0, hop, hm, rRef, rSub, hnd, hr, hnh, ho2, q, Rs.bind])) ?_ ?_
                  · intro lo hi e2 h2 q2 tv tw t8 t9 tl2 h2' tk2' hr2 F2' N2' D3 D4
                    k_steps
                    refine higher_use B X T (by assumption) (by assumption) (by omega) (by omega) rfl ?_ ?_
                    · intro lim2 t2' h2' tk2' F2' N2'
                      have hnh2 : ¬ 100 ≤ max (h + 1) h2 := by omega
                      k_steps
                      walk_at "=ret"
                      exact ⟨_, _, _, _, rfl, by assumption, NewIn.of (by assumption), dSub (dRef (textAt ts i) rows) lo hi, e2, max (h + 1) h2 + 1, by simp only [rNamed, e0, hop, hm, rRef, rSub, hnd, hr, hnh, ho2, hr2, hnh2, Rs.bind, if_true, if_false], _, _, _, _, rfl, by k_mem, by unfold dSub dRef; kd_in⟩
                    · intro lim2 e' h' tk' R'
                      exact thru (s := s) B (by assumption) R' (hexc (by simp only [rNamed, e0, hop, hm, rRef, rSub, hnd, hr, hnh, ho2, hr2, lim2, Rs.bind, if_true, if_false]))
                  · intro hr2 e' h' tk' R'
                    exact thru (s := s) B (by assumption) R' (hexc (by simp [rNamed, e0, hop, hm, rRef, rSub, hnd, hr, hnh, ho2, hr2, Rs.bind]))
                · intro lim' e' h' tk' R'
                  omega
            · intro lim1 e' h' tk' R'
              exact thru (s := s) B (by assumption) R' (hexc (by simp [rNamed, e0, hop, hm, rRef, hnd, hr, lim1, Rs.bind]))
          · intro hr e' h' tk' R'
            exact thru (s := s) B (by assumption) R' (hexc (by simp [rNamed, e0, hop, hm, rRef, hnd, hr, Rs.bind]))
      | true =>
        walk_at "=go"
        refine deeper_use B X T (by assumption) (by assumption) (by omega) (by omega) rfl ?_ ?_
        · intro lim' t' h' tk' F' N'
          have hnd : ¬ 40 ≤ deep := by omega
          k_steps
          refine ends_use H B X T (by assumption) (by assumption) TK (by omega) (by omega) (by omega) (by omega) rfl (fun q => hne (by simp [rNamed, e0, hop, hm, rSub, hnd, q, Rs.bind])) ?_ ?_
          · intro lo hi e h q tv tw t8 t9 tl2 h2' tk2' hr F2' N2' D1 D2
            k_steps
            refine higher_use B X T (by assumption) (by assumption) (by omega) (by omega) rfl ?_ ?_
            · intro lim2 t2' h2' tk2' F2' N2'
              have hnh2 : ¬ 100 ≤ max 0 h := by omega
              k_steps
              walk_at "=ret"
              exact ⟨_, _, _, _, rfl, by assumption, NewIn.of (by assumption), dSub (dName (textAt ts i)) lo hi, e, max 0 h + 1, by simp only [rNamed, e0, hop, hm, rSub, hnd, hr, hnh2, Rs.bind, if_true, if_false], _, _, _, _, rfl, by k_mem, by unfold dSub dName; kd_in⟩
            · intro lim2 e' h' tk' R'
              exact thru (s := s) B (by assumption) R' (hexc (by simp only [rNamed, e0, hop, hm, rSub, hnd, hr, lim2, Rs.bind, if_true, if_false]))
          · intro hr e' h' tk' R'
            exact thru (s := s) B (by assumption) R' (hexc (by simp [rNamed, e0, hop, hm, rSub, hnd, hr, Rs.bind]))
        · intro lim' e' h' tk' R'
          exact thru (s := s) B (by assumption) R' (hexc (by simp [rNamed, e0, hop, hm, rSub, lim', Rs.bind]))
end
section
variable {prog : Program} {w : World} {dp un : Nat} {gd : Option (List Code)} {fr : List Env} {base : Heap} {s : Shared} {mean : ExcName → Option Value} {mg mb : Str → Option Value}
theorem named_use {ts : List Tk} {rb : Rb} {D U : Nat} {h₀ : Heap} {L f a : Addr} {m : Str → Option Value} {news : List (Addr × Obj)} {cn : Str} {cs : Scope} {cd : Value} {i deep : Nat} {t1 t3 : Tok} {Q E : Value → Shared → Prop}
    (H : RBc prog w ts rb D U) (B : Below (Ar dp un gd fr) base fr h₀) (X : (gen.heap_1_39 w.params).In h₀) (T : Top gen.view_1_40 (looseW gen.view_1_40 [Str.ofString "PRIORITIES"]) mean mg mb h₀) (F : Fr h₀ L s.heap m) (N : News h₀ L s.heap news) (TK : ToksAt h₀ a ts)
    (hdp : dp + 3 + D < 1000) (hun : un + 9 + U < 9900) (hdp2 : dp + 7 < 1000) (hun2 : un + 73 < 9900) (hk : cs.kind = .function) (hne : rNamed ts rb i deep ≠ .out)
    (ret : ∀ d e h q tv t t' tl h' tk', rNamed ts rb i deep = .ok (d, e, h) → Fr h₀ L h' m → News h₀ L h' ((q, tupO [tv, .int ((e : Nat) : Int) t, .int ((h : Nat) : Int) t']) :: (tl ++ news)) → DatIn tl tv d → (∀ p ∈ tl, s.heap.get? p.1 = none) → Q (.ref q) { s with heap := h', toks := tk' })
    (exc : rNamed ts rb i deep = .fault → ∀ e h' tk', Flies base s.heap (envOf cn cs L f cd :: fr) e h' → E (.ref e) { s with heap := h', toks := tk' }) :
    wpAny (model prog w) ((Ar dp un gd fr).deeper (envOf cn cs L f cd)) (call (.ref 180) [.ref a, .int (i : Int) t1, .int (deep : Int) t3]) Q E s :=
  trip_use (f := f) (read_named_spec (Cx.inn (a := f) (cd := cd) B X T F hk) (TK.keeps F.keep) H (by omega) (by omega) (by omega) (by omega) hne) F N ret exc
set_option maxHeartbeats 8000000 in
theorem read_primary_spec {a : Addr} {ts : List Tk} {rb : Rb} {D U i deep : Nat} {t u : Tok} (C : Cx w (Ar dp un gd fr) base fr mean mg mb s.heap) (TK : ToksAt s.heap a ts) (H : RBc prog w ts rb D U) (hdp : dp + 3 + D < 1000) (hun : un + 9 + U < 9900) (hdp2 : dp + 7 < 1000) (hun2 : un + 75 < 9900) (hne : rPrimary ts rb i deep ≠ .out) :
    CallSpec prog w (Ar dp un gd fr) fr base s 138 [.ref a, .int i t, .int deep u] (Trip (rPrimary ts rb i deep)) (rPrimary ts rb i deep = .fault) := by
  refine' enter (binds := [(Str.ofString "tokens", .ref a), (Str.ofString "at", .int i t), (Str.ofString "deep", .int deep u)]) C ?k6 ?k7 ?k8 ?k9 ?kB ?_ ?c2 ?c3 ?c4 ?c5
  walk_at "=enter"
  intro L h₁ E hexc F N
  have X := C.X
  have T := C.T
  have B := C.B
  by_cases e0 : kindAt ts i = Str.ofString "NAME"
  · have hp : rPrimary ts rb i deep = rNamed ts rb i deep := by simp only [rPrimary, e0, if_true]
    have e1 : (kindAt ts i == Str.ofString "NAME") = true := by rw [e0]; decide +kernel
    rw [hp] at hne hexc ⊢
    walk_at "=go"
    refine named_use H B X T (by assumption) (by assumption) TK (by omega) (by omega) (by omega) (by omega) rfl hne ?_ ?_
    · intro d e h q tv t8 t8' tl h2' tk2' hr F2' N2' D2 _
      walk_at "=ret"
      exact ⟨_, _, _, _, rfl, by assumption, NewIn.of (by assumption), d, e, h, hr, _, _, _, _, rfl, by k_mem, by kd_in⟩
    · intro hr e' h' tk' R'
      exact thru (s := s) B (by assumption) R' (hexc hr)
  · have e1 : (kindAt ts i == Str.ofString "NAME") = false := by simpa using e0
    cases ho : opAt ts i (Str.ofString "(") with
    | false => exact absurd (by simp [rPrimary, e0, ho]) hne
    | true =>
      cases hi : ts[i]? with
      | none => simp [opAt, hi] at ho
      | some tkn =>
        have hlen : i < ts.length := (List.getElem?_eq_some_iff.mp hi).1
        have hl : ts.length ≤ 2 ^ 20 := TK.1
        have e2 : (kindAt ts i == Str.ofString "OP") = true := by
          rw [kindAt_some hi] at e0 ⊢
          revert e0
          cases tkn <;> decide +kernel
        have e3 : (tkn.text == Str.ofString "(") = true := by
          simp [opAt, hi] at ho
          simp [ho.2]
        walk_at "=go"
        · have lim : 40 ≤ deep := by assumption
          exact thru (s := s) B (by assumption) (by assumption) (hexc (by simp [rPrimary, e0, ho, lim, Rs.bind]))
        · have hnd : ¬ 40 ≤ deep := by omega
          refine rb_use H B X T (by assumption) (by assumption) TK (by omega) (by omega) rfl (least := 1) rfl (fun q => hne (by simp [rPrimary, e0, ho, hnd, q, Rs.bind])) ?_ ?_
          · intro d e h q tv t8 t8' tl h2' tk2' hr F2' N2' D2 _
            have hc : opAt ts e (Str.ofString ")") = true := by
              cases q : opAt ts e (Str.ofString ")") with
              | true => rfl
              | false => exact absurd (by simp [rPrimary, e0, ho, hnd, hr, q, Rs.bind]) hne
            k_steps
            walk_at "=ret"
            exact ⟨_, _, _, _, rfl, by assumption, NewIn.of (by assumption), d, e + 1, h, by simp [rPrimary, e0, ho, hnd, hr, hc, Rs.bind], _, _, _, _, rfl, by k_mem, by kd_in⟩
          · intro hr e' h' tk' R'
            exact thru (s := s) B (by assumption) R' (hexc (by simp [rPrimary, e0, ho, hnd, hr, Rs.bind]))
theorem primary_use {ts : List Tk} {rb : Rb} {D U : Nat} {h₀ : Heap} {L f a : Addr} {m : Str → Option Value} {news : List (Addr × Obj)} {cn : Str} {cs : Scope} {cd : Value} {i deep : Nat} {t1 t3 : Tok} {Q E : Value → Shared → Prop}
    (H : RBc prog w ts rb D U) (B : Below (Ar dp un gd fr) base fr h₀) (X : (gen.heap_1_39 w.params).In h₀) (T : Top gen.view_1_40 (looseW gen.view_1_40 [Str.ofString "PRIORITIES"]) mean mg mb h₀) (F : Fr h₀ L s.heap m) (N : News h₀ L s.heap news) (TK : ToksAt h₀ a ts)
    (hdp : dp + 4 + D < 1000) (hun : un + 12 + U < 9900) (hdp2 : dp + 8 < 1000) (hun2 : un + 78 < 9900) (hk : cs.kind = .function) (hne : rPrimary ts rb i deep ≠ .out)
    (ret : ∀ d e h q tv t t' tl h' tk', rPrimary ts rb i deep = .ok (d, e, h) → Fr h₀ L h' m → News h₀ L h' ((q, tupO [tv, .int ((e : Nat) : Int) t, .int ((h : Nat) : Int) t']) :: (tl ++ news)) → DatIn tl tv d → (∀ p ∈ tl, s.heap.get? p.1 = none) → Q (.ref q) { s with heap := h', toks := tk' })
    (exc : rPrimary ts rb i deep = .fault → ∀ e h' tk', Flies base s.heap (envOf cn cs L f cd :: fr) e h' → E (.ref e) { s with heap := h', toks := tk' }) :
    wpAny (model prog w) ((Ar dp un gd fr).deeper (envOf cn cs L f cd)) (call (.ref 138) [.ref a, .int (i : Int) t1, .int (deep : Int) t3]) Q E s :=
  trip_use (f := f) (read_primary_spec (Cx.inn (a := f) (cd := cd) B X T F hk) (TK.keeps F.keep) H (by omega) (by omega) (by omega) (by omega) hne) F N ret exc
set_option maxHeartbeats 8000000 in
theorem read_first_spec {a : Addr} {ts : List Tk} {rb : Rb} {D U i least deep : Nat} {t l u : Tok} (C : Cx w (Ar dp un gd fr) base fr mean mg mb s.heap) (TK : ToksAt s.heap a ts) (H : RBc prog w ts rb D U) (hdp : dp + 4 + D < 1000) (hun : un + 12 + U < 9900) (hdp2 : dp + 8 < 1000) (hun2 : un + 80 < 9900) (hne : rFirst ts rb i least deep ≠ .out) :
    CallSpec prog w (Ar dp un gd fr) fr base s 131 [.ref a, .int i t, .int least l, .int deep u] (Trip (rFirst ts rb i least deep)) (rFirst ts rb i least deep = .fault) := by
  refine' enter (binds := [(Str.ofString "tokens", .ref a), (Str.ofString "at", .int i t), (Str.ofString "least", .int least l), (Str.ofString "deep", .int deep u)]) C ?k6 ?k7 ?k8 ?k9 ?kB ?_ ?c2 ?c3 ?c4 ?c5
  walk_at "=enter"
  intro L h₁ E hexc F N
  have X := C.X
  have T := C.T
  have B := C.B
  have hl : ts.length ≤ 2 ^ 20 := TK.1
  cases e1 : opAt ts i (Str.ofString ".NOT.") with
  | true =>
    have e2 : opAt ts i (Str.ofString "+") = false ∧ opAt ts i (Str.ofString "-") = false := by
      unfold opAt at e1 ⊢
      cases hi : ts[i]? with
      | none => simp
      | some tkn =>
        rw [hi] at e1
        revert e1
        cases tkn <;> decide +kernel
    have e3 : opAt ts i (Str.ofString "+") = false := e2.1
    have e4 : opAt ts i (Str.ofString "-") = false := e2.2
    have hle : ¬ 4 < least := fun q => hne (by simp [rFirst, e1, q])
    have hlen : i < ts.length := by
      unfold opAt at e1
      cases hi : ts[i]? with
      | none => simp [hi] at e1
      | some tkn => exact (List.getElem?_eq_some_iff.mp hi).1
    clear e2
    cases hi : ts[i]? with
    | none => exact absurd (List.getElem?_eq_none_iff.mp hi) (by omega)
    | some tkn =>
      walk_at "=go"
      refine rb_use H B X T (by assumption) (by assumption) TK (by omega) (by omega) rfl (least := 5) rfl (fun q => hne (by simp [rFirst, rSigned, e1, hle, q, Rs.bind])) ?_ ?_
      · intro d e h q tv t8 t8' tl h2' tk2' hr F2' N2' D2 _
        k_steps
        · have lim2 : 100 ≤ h := by assumption
          exact thru (s := s) B (by assumption) (by assumption) (hexc (by simp [rFirst, rSigned, e1, hle, hr, lim2, Rs.bind]))
        · have hnh2 : ¬ 100 ≤ h := by omega
          walk_at "=ret"
          exact ⟨_, _, _, _, rfl, by assumption, NewIn.of (by assumption), dUn (textAt ts i) d, e, h + 1, by simp [rFirst, rSigned, e1, hle, hr, hnh2, Rs.bind], _, _, _, _, rfl, by k_mem, by rw [textAt_some hi]; unfold dUn; kd_in⟩
      · intro hr e' h' tk' R'
        exact thru (s := s) B (by assumption) R' (hexc (by simp [rFirst, rSigned, e1, hle, hr, Rs.bind]))
  | false =>
    cases e3 : opAt ts i (Str.ofString "+") with
    | true => exact absurd (by simp [rFirst, e1, e3]) hne
    | false =>
      cases e4 : opAt ts i (Str.ofString "-") with
      | true =>
        have hle : ¬ 7 < least := fun q => hne (by simp [rFirst, e1, e3, e4, q])
        cases hi : ts[i]? with
        | none => simp [opAt, hi] at e4
        | some tkn =>
          have hlen : i < ts.length := (List.getElem?_eq_some_iff.mp hi).1
          walk_at "=go"
          refine rb_use H B X T (by assumption) (by assumption) TK (by omega) (by omega) rfl (least := 8) rfl (fun q => hne (by simp [rFirst, rSigned, e1, e3, e4, hle, q, Rs.bind])) ?_ ?_
          · intro d e h q tv t8 t8' tl h2' tk2' hr F2' N2' D2 _
            k_steps
            refine higher_use B X T (by assumption) (by assumption) (by omega) (by omega) rfl ?_ ?_
            · intro lim2 t2' h2' tk2' F2' N2'
              have hnh2 : ¬ 100 ≤ h := by omega
              k_steps
              walk_at "=ret"
              exact ⟨_, _, _, _, rfl, by assumption, NewIn.of (by assumption), dUn (textAt ts i) d, e, h + 1, by simp [rFirst, rSigned, e1, e3, e4, hle, hr, hnh2, Rs.bind], _, _, _, _, rfl, by k_mem, by rw [textAt_some hi]; unfold dUn; kd_in⟩
            · intro lim2 e' h' tk' R'
              exact thru (s := s) B (by assumption) R' (hexc (by simp [rFirst, rSigned, e1, e3, e4, hle, hr, lim2, Rs.bind]))
          · intro hr e' h' tk' R'
            exact thru (s := s) B (by assumption) R' (hexc (by simp [rFirst, rSigned, e1, e3, e4, hle, hr, Rs.bind]))
      | false =>
        have hp : rFirst ts rb i least deep = rPrimary ts rb i deep := by simp [rFirst, e1, e3, e4]
        rw [hp] at hne hexc ⊢
        walk_at "=go"
        refine primary_use H B X T (by assumption) (by assumption) TK (by omega) (by omega) (by omega) (by omega) rfl hne ?_ ?_
        · intro d e h q tv t8 t8' tl h2' tk2' hr F2' N2' D2 _
          walk_at "=ret"
          exact ⟨_, _, _, _, rfl, by assumption, NewIn.of (by assumption), d, e, h, hr, _, _, _, _, rfl, by k_mem, by kd_in⟩
        · intro hr e' h' tk' R'
          exact thru (s := s) B (by assumption) R' (hexc hr)
end
section
variable {prog : Program} {w : World} {dp un : Nat} {gd : Option (List Code)} {fr : List Env} {base : Heap} {s : Shared} {mean : ExcName → Option Value} {mg mb : Str → Option Value}
theorem first_use {ts : List Tk} {rb : Rb} {D U : Nat} {h₀ : Heap} {L f a : Addr} {m : Str → Option Value} {news : List (Addr × Obj)} {cn : Str} {cs : Scope} {cd : Value} {i least deep : Nat} {t1 t2 t3 : Tok} {Q E : Value → Shared → Prop}
    (H : RBc prog w ts rb D U) (B : Below (Ar dp un gd fr) base fr h₀) (X : (gen.heap_1_39 w.params).In h₀) (T : Top gen.view_1_40 (looseW gen.view_1_40 [Str.ofString "PRIORITIES"]) mean mg mb h₀) (F : Fr h₀ L s.heap m) (N : News h₀ L s.heap news) (TK : ToksAt h₀ a ts)
    (hdp : dp + 5 + D < 1000) (hun : un + 15 + U < 9900) (hdp2 : dp + 9 < 1000) (hun2 : un + 83 < 9900) (hk : cs.kind = .function) (hne : rFirst ts rb i least deep ≠ .out)
    (ret : ∀ d e h q tv t t' tl h' tk', rFirst ts rb i least deep = .ok (d, e, h) → Fr h₀ L h' m → News h₀ L h' ((q, tupO [tv, .int ((e : Nat) : Int) t, .int ((h : Nat) : Int) t']) :: (tl ++ news)) → DatIn tl tv d → (∀ p ∈ tl, s.heap.get? p.1 = none) → Q (.ref q) { s with heap := h', toks := tk' })
    (exc : rFirst ts rb i least deep = .fault → ∀ e h' tk', Flies base s.heap (envOf cn cs L f cd :: fr) e h' → E (.ref e) { s with heap := h', toks := tk' }) :
    wpAny (model prog w) ((Ar dp un gd fr).deeper (envOf cn cs L f cd)) (call (.ref 131) [.ref a, .int (i : Int) t1, .int (least : Int) t2, .int (deep : Int) t3]) Q E s :=
  trip_use (f := f) (read_first_spec (Cx.inn (a := f) (cd := cd) B X T F hk) (TK.keeps F.keep) H (by omega) (by omega) (by omega) (by omega) hne) F N ret exc
/-- one level of read_binary -/
noncomputable def rBin1 (ts : List Tk) (rb : Rb) (i least deep : Nat) : Rs Tr := (rFirst ts rb i least deep).bind fun (d, a, h) => rLoop ts rb least deep (ts.length + 1) d a h
noncomputable def BinJ (ts : List Tk) (rb : Rb) (s : Shared) (L a : Addr) (l u : Tok) (least deep : Nat) (r : Rs Tr) (n : Nat) (s' : Shared) : Prop :=
  ∃ (d : Dat) (at' ht : Nat) (t1 t2 : Tok) (tv : Value) (mm : Str → Option Value) (h : Heap) (tk : Nat) (tl : List (Addr × Obj)), s' = { s with heap := h, toks := tk } ∧ rLoop ts rb least deep n d at' ht = r ∧
    Fr s.heap L h (fun z => if z = Str.ofString "was_relation" then some (.bool false) else if z = Str.ofString "height" then some (.int ((ht : Nat) : Int) t2) else if z = Str.ofString "at" then some (.int ((at' : Nat) : Int) t1) else if z = Str.ofString "tree" then some tv else
      if z = Str.ofString "tokens" then some (.ref a) else if z = Str.ofString "least" then some (.int ((least : Nat) : Int) l) else if z = Str.ofString "deep" then some (.int ((deep : Nat) : Int) u) else mm z) ∧
    News s.heap L h tl ∧ DatIn tl tv d
theorem prio_five (ts : List Tk) (i : Nat) : prio ts i ≠ 5 := by
  unfold prio
  split <;> decide
set_option maxHeartbeats 8000000 in
theorem read_binary_spec {a : Addr} {ts : List Tk} {rb : Rb} {D U i least deep : Nat} {t l u : Tok} (C : Cx w (Ar dp un gd fr) base fr mean mg mb s.heap) (TK : ToksAt s.heap a ts) (H : RBc prog w ts rb D U) (hdp : dp + 5 + D < 1000) (hun : un + 15 + U < 9900) (hdp2 : dp + 10 < 1000) (hun2 : un + 90 < 9900) (hle : 1 ≤ least) (hne : rBin1 ts rb i least deep ≠ .out) :
    CallSpec prog w (Ar dp un gd fr) fr base s 124 [.ref a, .int i t, .int least l, .int deep u] (Trip (rBin1 ts rb i least deep)) (rBin1 ts rb i least deep = .fault) := by
  refine' enter (binds := [(Str.ofString "tokens", .ref a), (Str.ofString "at", .int i t), (Str.ofString "least", .int least l), (Str.ofString "deep", .int deep u)]) C ?k6 ?k7 ?k8 ?k9 ?kB ?_ ?c2 ?c3 ?c4 ?c5
  walk_at "=enter"
  intro L h₁ E hexc F N
  have X := C.X
  have T := C.T
  have B := C.B
  have hl : ts.length ≤ 2 ^ 20 := TK.1
  walk_at "=go"
  refine first_use H B X T (by assumption) (by assumption) TK (by omega) (by omega) (by omega) (by omega) rfl (fun q => hne (by simp [rBin1, q, Rs.bind])) ?_ ?_
  · intro d0 e0 g0 q0 tv0 t8 t8' tl0 h2' tk2' hr0 F2' N2' D2 _
    have hrr : rLoop ts rb least deep (ts.length + 1) d0 e0 g0 = rBin1 ts rb i least deep := by simp [rBin1, hr0, Rs.bind]
    k_steps
    rename Fr _ _ _ _ => fF
    rename News _ _ _ _ => nN
    refine whl_inv (BinJ ts rb s L a l u least deep (rBin1 ts rb i least deep)) ?hE ?h0 ?turn (ts.length + 1) 0 _ ?hJ
    case hE => first | passes_own | with_unfolding_all passes_own
    case h0 =>
      rintro s' ⟨d, at', ht, t1, t2, tv, mm, h, tk, tl, _, he, _⟩
      exact hne (he.symm.trans rfl)
    case hJ =>
      exact ⟨d0, e0, g0, _, _, tv0, _, _, _, _, rfl, hrr, frSet (Str.ofString "was_relation") (frSet (Str.ofString "height") (frSet (Str.ofString "at") (frSet (Str.ofString "tree") (frSet (Str.ofString "tokens") (frSet (Str.ofString "least") (frSet (Str.ofString "deep") fF rfl) rfl) rfl) rfl) rfl) rfl) rfl, nN, by kd_in⟩
    case turn =>
      clear fF nN
      rintro n s' ⟨d, at', ht, t1, t2, tv, mm, h, tk, tl, rfl, he, F, N, hD⟩ ih
      by_cases hpl : least ≤ prio ts at'
      · have hi : ∃ tkn, ts[at']? = some tkn := by
          cases q : ts[at']? with
          | none => rw [prio_none q] at hpl; omega
          | some x => exact ⟨x, rfl⟩
        obtain ⟨tkn, hi⟩ := hi
        have hlen : at' < ts.length := (List.getElem?_eq_some_iff.mp hi).1
        have hp5 : ¬ ((prio ts at' : Nat) : Int) = 5 := by have := prio_five ts at'; omega
        have hp5a : decide (((prio ts at' : Nat) : Int) = 5) = false := decide_eq_false hp5
        have hp5b : (((prio ts at' : Nat) : Int) == 5) = false := beq_false_of_ne hp5
        by_cases hp9 : prio ts at' = 9
        · have hq9 : ((prio ts at' : Nat) : Int) = 9 := by omega
          have hq9a : decide (((prio ts at' : Nat) : Int) = 9) = true := decide_eq_true hq9
          have hq9b : (((prio ts at' : Nat) : Int) == 9) = true := beq_iff_eq.mpr hq9
          k_steps
          refine WhlIf.yes (decide_eq_true (by omega)) ?_
          k_steps
          · have lim : 40 ≤ deep := by assumption
            exact thru (s := s) B (by assumption) (by assumption) (hexc (by rw [← he, rLoop, if_pos hpl, rRight, if_pos hp9, if_pos lim]; rfl))
          have lim : ¬ 40 ≤ deep := by omega
          refine rb_use H B X T (by assumption) (by assumption) TK (by omega) (by omega) rfl (least := 9) rfl (fun q => hne (by rw [← he, rLoop, if_pos hpl, rRight, if_pos hp9, if_neg lim, q]; rfl)) ?_ ?_
          · intro d2 e2 g2 q2 tv2 t9 t9' tl2 h3' tk3' hr2 F3' N3' D3 hnew
            have hrr2 : rRight ts rb at' deep = .ok (d2, e2, g2) := by rw [rRight, if_pos hp9, if_neg lim, hr2]
            k_steps
            refine higher_use B X T (by assumption) (by assumption) (by omega) (by omega) rfl ?_ ?_
            · intro lim2 t2' h4' tk4' F4' N4'
              have hnh2 : ¬ 100 ≤ max ht g2 := by omega
              have he3 : rLoop ts rb least deep n (dBin (textAt ts at') d d2) e2 (max ht g2 + 1) = rBin1 ts rb i least deep := by
                rw [← he, rLoop, if_pos hpl, hrr2]
                simp only [Rs.bind, if_neg hnh2]
              k_steps
              rename Fr _ _ _ _ => fF
              rename News _ _ _ _ => nN
              rw [hp5b] at fF
              exact ih 0 _ ⟨dBin (textAt ts at') d d2, e2, max ht g2 + 1, _, _, _, _, _, _, _, rfl, he3, frSet (Str.ofString "was_relation") (frSet (Str.ofString "height") (frSet (Str.ofString "at") (frSet (Str.ofString "tree") (frSet (Str.ofString "tokens") (frSet (Str.ofString "least") (frSet (Str.ofString "deep") fF rfl) rfl) rfl) rfl) rfl) rfl) rfl, nN, by rw [textAt_some hi]; unfold dBin; kd_in⟩
            · intro lim2 e' h' tk' R'
              exact thru (s := s) B (by assumption) R' (hexc (by rw [← he, rLoop, if_pos hpl, hrr2]; simp only [Rs.bind, if_pos lim2]))
          · intro hr e' h' tk' R'
            exact thru (s := s) B (by assumption) R' (hexc (by rw [← he, rLoop, if_pos hpl, rRight, if_pos hp9, if_neg lim, hr]; rfl))
        · have hq9 : ¬ ((prio ts at' : Nat) : Int) = 9 := by omega
          have hq9a : decide (((prio ts at' : Nat) : Int) = 9) = false := decide_eq_false hq9
          have hq9b : (((prio ts at' : Nat) : Int) == 9) = false := beq_false_of_ne hq9
          k_steps
          refine WhlIf.yes (decide_eq_true (by omega)) ?_
          k_steps
          refine rb_use H B X T (by assumption) (by assumption) TK (by omega) (by omega) rfl (least := prio ts at' + 1) rfl (fun q => hne (by rw [← he, rLoop, if_pos hpl, rRight, if_neg hp9, q]; rfl)) ?_ ?_
          · intro d2 e2 g2 q2 tv2 t9 t9' tl2 h3' tk3' hr2 F3' N3' D3 hnew
            have hrr2 : rRight ts rb at' deep = .ok (d2, e2, g2) := by rw [rRight, if_neg hp9, hr2]
            k_steps
            refine higher_use B X T (by assumption) (by assumption) (by omega) (by omega) rfl ?_ ?_
            · intro lim2 t2' h4' tk4' F4' N4'
              have hnh2 : ¬ 100 ≤ max ht g2 := by omega
              have he3 : rLoop ts rb least deep n (dBin (textAt ts at') d d2) e2 (max ht g2 + 1) = rBin1 ts rb i least deep := by
                rw [← he, rLoop, if_pos hpl, hrr2]
                simp only [Rs.bind, if_neg hnh2]
              k_steps
              rename Fr _ _ _ _ => fF
              rename News _ _ _ _ => nN
              rw [hp5b] at fF
              exact ih 0 _ ⟨dBin (textAt ts at') d d2, e2, max ht g2 + 1, _, _, _, _, _, _, _, rfl, he3, frSet (Str.ofString "was_relation") (frSet (Str.ofString "height") (frSet (Str.ofString "at") (frSet (Str.ofString "tree") (frSet (Str.ofString "tokens") (frSet (Str.ofString "least") (frSet (Str.ofString "deep") fF rfl) rfl) rfl) rfl) rfl) rfl) rfl, nN, by rw [textAt_some hi]; unfold dBin; kd_in⟩
            · intro lim2 e' h' tk' R'
              exact thru (s := s) B (by assumption) R' (hexc (by rw [← he, rLoop, if_pos hpl, hrr2]; simp only [Rs.bind, if_pos lim2]))
          · intro hr e' h' tk' R'
            exact thru (s := s) B (by assumption) R' (hexc (by rw [← he, rLoop, if_pos hpl, rRight, if_neg hp9, hr]; rfl))
      · have he2 : rBin1 ts rb i least deep = .ok (d, at', ht) := by rw [← he, rLoop, if_neg hpl]
        k_steps
        refine WhlIf.no (decide_eq_false (by omega)) ?_
        k_steps
        walk_at "=ret"
        exact ⟨_, _, _, _, rfl, by assumption, NewIn.of (by assumption), d, at', ht, he2, _, _, _, _, rfl, by k_mem, by kd_in⟩
  · intro hr e' h' tk' R'
    exact thru (s := s) B (by assumption) R' (hexc (by simp [rBin1, hr, Rs.bind]))
/-- read_binary, as deep as n -/
noncomputable def rBin (ts : List Tk) : Nat → Rb
  | 0, _, _, _ => .out
  | n + 1, i, least, deep => if least = 0 then .out else rBin1 ts (rBin ts n) i least deep
theorem rbc (ts : List Tk) : ∀ n : Nat, RBc prog w ts (rBin ts n) (5 * n + 10) (15 * n + 90)
  | 0 => fun _ _ _ _ _ _ _ _ _ _ _ _ _ _ _ _ _ _ _ _ hne => absurd rfl hne
  | n + 1 => fun dp un gd fr base s mean mg mb a i least deep t1 t2 t3 C TK hdp hun hne => by
    by_cases h0 : least = 0
    · exact absurd (by rw [rBin, if_pos h0]) hne
    · have e : rBin ts (n + 1) i least deep = rBin1 ts (rBin ts n) i least deep := by rw [rBin, if_neg h0]
      rw [e] at hne ⊢
      exact read_binary_spec C TK (rbc ts n) (by omega) (by omega) (by omega) (by omega) (by omega) hne
end
section
open PyProof
section
variable {prog : Program} {w : World} {A : Around} {E : Value → Shared → Prop} {s : Shared} {h₀ : Heap} {L : Addr} {m : Str → Option Value} {news : List (Addr × Obj)}
theorem applied_two {sl : Addr} {u : Tok} {Q : Int × Int × Nat → Shared → Prop} (hs : s.heap.IsSliceOf sl .none (.int 2 u) .none) (h : Q (0, 1, 2) s) :
    wpAny (model prog w) A (Builtin.Slice.sliceApplied (.ref sl) (pure (3 : Int))) Q E s := by
  obtain ⟨os, hos, hcs, hds⟩ := id hs
  unfold Builtin.Slice.sliceApplied Builtin.Slice.sliceFields
  refine wpAny_bind (wpAny_bind (wpAny_field hos hds (x := .none) rfl (wpAny_bind (wpAny_field hos hds (x := .int 2 u) rfl (wpAny_bind (wpAny_field hos hds (x := .none) rfl (wpAny_pure ?_)))))))
  refine wpAny_bind (slicePart_none ?_)
  show wpAny _ _ (if ((1 : Int) == 0) = true then _ else _) _ _ s
  rw [if_neg (by decide)]
  refine wpAny_bind (slicePart_none (wpAny_bind (slicePart_int (wpAny_bind (wpAny_pure ?_)))))
  exact wpAny_pure h
theorem get_two {t sl : Addr} {x y z : Value} {u : Tok} {Q : Value → Shared → Prop} (ht : PyProof.Rows.IsTup s.heap t [x, y, z].toArray) (hs : s.heap.IsSliceOf sl .none (.int 2 u) .none)
    (h : Q (.ref s.heap.objs.size) { s with heap := s.heap.push { cls := .type "tuple", data := .seq [x, y].toArray } }) : wpAny (model prog w) A (getItem (.ref t) (.ref sl)) Q E s := by
  have hok : sizeOk (.seq [x, y].toArray) := by
    show [x, y].toArray.size ≤ sizeLine
    rw [List.size_toArray, sizeLine_eq]
    show 2 ≤ 16777216
    decide
  obtain ⟨os, hos, hcs, hds⟩ := id hs
  have hTs : s.TypeIs (.ref sl) "slice" := ⟨os, hos, hcs⟩
  unfold getItem
  try with_reducible refine wpAny_holding ?_
  first | refine wpAny_bind (wpAny_pure ?_) | skip
  refine wpAny_bind (wpAny_sequenceKey ht.typeIs (by decide) ?_)
  refine wpAny_bind (wpAny_callSpecial?_slot (name := Str.ofString "__getitem__") ht.typeIs slot_tuple_getitem
    (wpAny_call_entry slot_tuple_getitem ht.typeIs entry_tuple_getitem ?_ (args_tuple_getitem _ _)))
  show wpAny _ _ (Builtin.Tuple.tupleItemsOf (.ref t) >>= _) _ _ s
  refine wpAny_bind (tupleItemsOf_ ht ?_)
  refine wpAny_bind (wpAny_typeOf hTs ?_)
  rw [if_pos (by decide)]
  refine wpAny_bind (applied_two hs ?_)
  show wpAny _ _ (if ((0 : Int) == 0 && (1 : Int) == 1 && (2 : Nat) == 3) = true then _ else _) _ _ s
  rw [if_neg (by decide)]
  first
    | exact wpAny_bind (m := Builtin.Tuple.tupleExact _) (wpAny_newObj_type (wpAny_pure ⟨_, rfl, wpAny_pure h⟩) hok)
    | exact wpAny_bind (m := Builtin.Tuple.tupleExact _) (wpAny_newObj_type (wpAny_bind (wpAny_pure (wpAny_pure ⟨_, rfl, wpAny_pure h⟩))) hok)
    | exact wpAny_bind (wpAny_bind (m := Builtin.Tuple.tupleExact _) (wpAny_newObj_type (wpAny_pure (wpAny_pure ⟨_, rfl, wpAny_pure h⟩)) hok))
    | exact wpAny_bind (wpAny_bind (m := Builtin.Tuple.tupleExact _) (wpAny_newObj_type (wpAny_pure ⟨_, rfl, wpAny_pure h⟩) hok))
theorem slice_use {value slice : PySem.Expr} {g : Heap} {t sl : Addr} {x y z : Value} {u : Tok} {Q : Value → Shared → Prop}
    (F : Fr h₀ L g m) (N : News h₀ L g news) (hm : (t, tupO [x, y, z]) ∈ news) (hh : s.heap = g.push { cls := .type "slice", data := .fields #[.none, .int 2 u, .none] }) (ha : sl = g.objs.size)
    (h : ∀ q h', Fr h₀ L h' m → News h₀ L h' ((q, tupO [x, y]) :: news) → Q (.ref q) { s with heap := h' })
    (hs : subscripted slice false (.ref t) (.ref sl) = operate [.ref sl, .ref t] (getItem (.ref t) (.ref sl)))
    (hg : ∀ r, letTemporaryGo value (.ref t) r = pure ()) :
    wpAny (model prog w) A (subscriptTail value slice (.ref t) (.ref sl)) Q E s := by
  have ht' : PyProof.Rows.IsTup s.heap t [x, y, z].toArray := by
    rw [hh]
    exact ⟨_, Heap.get?_push_of_some _ (N _ hm).1, rfl, 0, rfl⟩
  have hsl : s.heap.IsSliceOf sl .none (.int 2 u) .none := by
    rw [hh, ha]
    exact Heap.IsSliceOf.new ..
  refine subscriptTail_ops ht'.typeIs slot_tuple_getitem.lookup (get_two ht' hsl ?_) hs hg
  have N1 := News.push (F.push { cls := .type "slice", data := .fields #[.none, .int 2 u, .none] }) (N.grown fun _ _ e => Heap.get?_push_of_some _ e) { cls := .type "tuple", data := .seq [x, y].toArray }
  rw [hh]
  exact h _ _ ((F.push _).push _) N1
end

end
local macro_rules | `(tactic| walk_at "=slice") => `(tactic| (
  refine' slice_use (x := _) (y := _) (z := _) ?F ?N ?m ?hh ?ha ?_ ?hs ?hg
  (case F | N => assumption)
  (case m => first | exact List.Mem.head _ | k_mem)
  (case hh | ha => exact rfl)
  (case hs => with_unfolding_all rfl)
  (case hg => (intro _; with_unfolding_all rfl))))
section
variable {prog : Program} {w : World} {dp un : Nat} {gd : Option (List Code)} {fr : List Env} {base : Heap} {s : Shared} {mean : ExcName → Option Value} {mg mb : Str → Option Value}
/-- a reader's answer, without the height -/
noncomputable def Pair (r : Rs Tr) (v : Value) (tl : List (Addr × Obj)) : Prop :=
  ∃ d e h, r = .ok (d, e, h) ∧ ∃ q tv t, v = .ref q ∧ (q, tupO [tv, .int ((e : Nat) : Int) t]) ∈ tl ∧ DatIn tl tv d
set_option maxHeartbeats 8000000 in
theorem parse_expr_spec {a : Addr} {ts : List Tk} {rb : Rb} {D U i : Nat} {t : Tok} (C : Cx w (Ar dp un gd fr) base fr mean mg mb s.heap) (TK : ToksAt s.heap a ts) (H : RBc prog w ts rb D U) (hdp : dp + 1 + D < 1000) (hun : un + 3 + U < 9900) (hdp2 : dp + 4 < 1000) (hun2 : un + 60 < 9900) (hne : rb i 1 0 ≠ .out) :
    CallSpec prog w (Ar dp un gd fr) fr base s 117 [.ref a, .int i t] (Pair (rb i 1 0)) (rb i 1 0 = .fault) := by
  refine' enter (binds := [(Str.ofString "tokens", .ref a), (Str.ofString "at", .int i t)]) C ?k6 ?k7 ?k8 ?k9 ?kB ?_ ?c2 ?c3 ?c4 ?c5
  walk_at "=enter"
  intro L h₁ E hexc F N
  have X := C.X
  have T := C.T
  have B := C.B
  walk_at "=go"
  refine rb_use H B X T (by assumption) (by assumption) TK hdp hun rfl (least := 1) (deep := 0) rfl hne ?_ ?_
  · intro d e h q tv t8 t8' tl h2' tk2' hr F2' N2' D2 _
    k_steps
    walk_at "=slice"
    intro q3 h3' F3' N3'
    walk_at "=ret"
    exact ⟨_, _, _, _, rfl, by assumption, NewIn.of (by assumption), d, e, h, hr, _, _, _, rfl, by k_mem, by kd_in⟩
  · intro hr e' h' tk' R'
    exact thru (s := s) B (by assumption) R' (hexc hr)
theorem args2_use {ts : List Tk} {rb : Rb} {D U : Nat} {h₀ : Heap} {L f a : Addr} {m : Str → Option Value} {news : List (Addr × Obj)} {cn : Str} {cs : Scope} {cd : Value} {i deep : Nat} {kd : Int} {t1 t3 : Tok} {Q E : Value → Shared → Prop}
    (H : RBc prog w ts rb D U) (B : Below (Ar dp un gd fr) base fr h₀) (X : (gen.heap_1_39 w.params).In h₀) (T : Top gen.view_1_40 (looseW gen.view_1_40 [Str.ofString "PRIORITIES"]) mean mg mb h₀) (F : Fr h₀ L s.heap m) (N : News h₀ L s.heap news) (TK : ToksAt h₀ a ts)
    (hdp : dp + 2 + D < 1000) (hun : un + 6 + U < 9900) (hdp2 : dp + 5 < 1000) (hun2 : un + 63 < 9900) (hk : cs.kind = .function) (hkd : kd = (deep : Int)) (hne : rArgs ts rb i deep ≠ .out)
    (ret : ∀ rows e h q R t t' tl h' tk', rArgs ts rb i deep = .ok (rows, e, h) → Fr h₀ L h' m → News h₀ L h' ((q, tupO [.ref R, .int ((e : Nat) : Int) t, .int ((h : Nat) : Int) t']) :: (tl ++ news)) → DatIn tl (.ref R) (.list rows) → Q (.ref q) { s with heap := h', toks := tk' })
    (exc : rArgs ts rb i deep = .fault → ∀ e h' tk', Flies base s.heap (envOf cn cs L f cd :: fr) e h' → E (.ref e) { s with heap := h', toks := tk' }) :
    wpAny (model prog w) ((Ar dp un gd fr).deeper (envOf cn cs L f cd)) (call (.ref 208) [.ref a, .int (i : Int) t1, .bool false, .int kd t3]) Q E s := by
  subst hkd
  exact args_use H B X T F N TK hdp hun hdp2 hun2 hk hne ret exc
theorem named2_use {ts : List Tk} {rb : Rb} {D U : Nat} {h₀ : Heap} {L f a : Addr} {m : Str → Option Value} {news : List (Addr × Obj)} {cn : Str} {cs : Scope} {cd : Value} {i deep : Nat} {kd : Int} {t1 t3 : Tok} {Q E : Value → Shared → Prop}
    (H : RBc prog w ts rb D U) (B : Below (Ar dp un gd fr) base fr h₀) (X : (gen.heap_1_39 w.params).In h₀) (T : Top gen.view_1_40 (looseW gen.view_1_40 [Str.ofString "PRIORITIES"]) mean mg mb h₀) (F : Fr h₀ L s.heap m) (N : News h₀ L s.heap news) (TK : ToksAt h₀ a ts)
    (hdp : dp + 3 + D < 1000) (hun : un + 9 + U < 9900) (hdp2 : dp + 7 < 1000) (hun2 : un + 73 < 9900) (hk : cs.kind = .function) (hkd : kd = (deep : Int)) (hne : rNamed ts rb i deep ≠ .out)
    (ret : ∀ d e h q tv t t' tl h' tk', rNamed ts rb i deep = .ok (d, e, h) → Fr h₀ L h' m → News h₀ L h' ((q, tupO [tv, .int ((e : Nat) : Int) t, .int ((h : Nat) : Int) t']) :: (tl ++ news)) → DatIn tl tv d → (∀ p ∈ tl, s.heap.get? p.1 = none) → Q (.ref q) { s with heap := h', toks := tk' })
    (exc : rNamed ts rb i deep = .fault → ∀ e h' tk', Flies base s.heap (envOf cn cs L f cd :: fr) e h' → E (.ref e) { s with heap := h', toks := tk' }) :
    wpAny (model prog w) ((Ar dp un gd fr).deeper (envOf cn cs L f cd)) (call (.ref 180) [.ref a, .int (i : Int) t1, .int kd t3]) Q E s := by
  subst hkd
  exact named_use H B X T F N TK hdp hun hdp2 hun2 hk hne ret exc
/-- parse_arguments' answer -/
noncomputable def PairA (r : Rs (List Dat × Nat × Nat)) (v : Value) (tl : List (Addr × Obj)) : Prop :=
  ∃ rows e h, r = .ok (rows, e, h) ∧ ∃ q tv t, v = .ref q ∧ (q, tupO [tv, .int ((e : Nat) : Int) t]) ∈ tl ∧ DatIn tl tv (.list rows)
set_option maxHeartbeats 8000000 in
theorem parse_arguments_spec {a : Addr} {ts : List Tk} {rb : Rb} {D U i : Nat} {t : Tok} (C : Cx w (Ar dp un gd fr) base fr mean mg mb s.heap) (TK : ToksAt s.heap a ts) (H : RBc prog w ts rb D U) (hdp : dp + 2 + D < 1000) (hun : un + 6 + U < 9900) (hdp2 : dp + 5 < 1000) (hun2 : un + 63 < 9900) (hne : rArgs ts rb i 0 ≠ .out) :
    CallSpec prog w (Ar dp un gd fr) fr base s 201 [.ref a, .int i t, .bool false] (PairA (rArgs ts rb i 0)) (rArgs ts rb i 0 = .fault) := by
  refine' enter (binds := [(Str.ofString "tokens", .ref a), (Str.ofString "at", .int i t), (Str.ofString "may_return", .bool false)]) C ?k6 ?k7 ?k8 ?k9 ?kB ?_ ?c2 ?c3 ?c4 ?c5
  walk_at "=enter"
  intro L h₁ E hexc F N
  have X := C.X
  have T := C.T
  have B := C.B
  walk_at "=go"
  refine args2_use H B X T (by assumption) (by assumption) TK (by omega) (by omega) (by omega) (by omega) rfl (deep := 0) rfl hne ?_ ?_
  · intro rows e h q R t8 t8' tl h2' tk2' hr F2' N2' D2
    k_steps
    walk_at "=slice"
    intro q3 h3' F3' N3'
    walk_at "=ret"
    exact ⟨_, _, _, _, rfl, by assumption, NewIn.of (by assumption), rows, e, h, hr, _, _, _, rfl, by k_mem, by kd_in⟩
  · intro hr e' h' tk' R'
    exact thru (s := s) B (by assumption) R' (hexc hr)
noncomputable def rTarget (ts : List Tk) (rb : Rb) (i : Nat) : Rs Tr := if kindAt ts i = Str.ofString "NAME" then rNamed ts rb i 0 else .fault
set_option maxHeartbeats 8000000 in
theorem parse_target_spec {a : Addr} {ts : List Tk} {rb : Rb} {D U i : Nat} {t : Tok} (C : Cx w (Ar dp un gd fr) base fr mean mg mb s.heap) (TK : ToksAt s.heap a ts) (H : RBc prog w ts rb D U) (hdp : dp + 3 + D < 1000) (hun : un + 9 + U < 9900) (hdp2 : dp + 7 < 1000) (hun2 : un + 73 < 9900) (hne : rTarget ts rb i ≠ .out) :
    CallSpec prog w (Ar dp un gd fr) fr base s 222 [.ref a, .int i t] (Pair (rTarget ts rb i)) (rTarget ts rb i = .fault) := by
  refine' enter (binds := [(Str.ofString "tokens", .ref a), (Str.ofString "at", .int i t)]) C ?k6 ?k7 ?k8 ?k9 ?kB ?_ ?c2 ?c3 ?c4 ?c5
  walk_at "=enter"
  intro L h₁ E hexc F N
  have X := C.X
  have T := C.T
  have B := C.B
  by_cases e0 : kindAt ts i = Str.ofString "NAME"
  · have e1 : (kindAt ts i != Str.ofString "NAME") = false := by rw [e0]; decide +kernel
    have hp : rTarget ts rb i = rNamed ts rb i 0 := by rw [rTarget, if_pos e0]
    rw [hp] at hne hexc ⊢
    walk_at "=go"
    refine named2_use H B X T (by assumption) (by assumption) TK (by omega) (by omega) (by omega) (by omega) rfl (deep := 0) rfl hne ?_ ?_
    · intro d e h q tv t8 t8' tl h2' tk2' hr F2' N2' D2 _
      k_steps
      walk_at "=slice"
      intro q3 h3' F3' N3'
      walk_at "=ret"
      exact ⟨_, _, _, _, rfl, by assumption, NewIn.of (by assumption), d, e, h, hr, _, _, _, rfl, by k_mem, by kd_in⟩
    · intro hr e' h' tk' R'
      exact thru (s := s) B (by assumption) R' (hexc hr)
  · have e1 : (kindAt ts i != Str.ofString "NAME") = true := by simpa using e0
    have hp : rTarget ts rb i = .fault := by rw [rTarget, if_neg e0]
    walk_at "=go"
    exact thruNew B (by assumption) rfl (by assumption) (hexc hp)
end
section
variable {prog : Program} {w : World} {dp un : Nat} {gd : Option (List Code)} {fr : List Env} {base : Heap} {s : Shared} {mean : ExcName → Option Value} {mg mb : Str → Option Value}
theorem expr_use {ts : List Tk} {rb : Rb} {D U : Nat} {h₀ : Heap} {L f a : Addr} {m : Str → Option Value} {news : List (Addr × Obj)} {cn : Str} {cs : Scope} {cd : Value} {i : Nat} {t1 : Tok} {Q E : Value → Shared → Prop}
    (H : RBc prog w ts rb D U) (B : Below (Ar dp un gd fr) base fr h₀) (X : (gen.heap_1_39 w.params).In h₀) (T : Top gen.view_1_40 (looseW gen.view_1_40 [Str.ofString "PRIORITIES"]) mean mg mb h₀) (F : Fr h₀ L s.heap m) (N : News h₀ L s.heap news) (TK : ToksAt h₀ a ts)
    (hdp : dp + 2 + D < 1000) (hun : un + 6 + U < 9900) (hdp2 : dp + 5 < 1000) (hun2 : un + 63 < 9900) (hk : cs.kind = .function) (hne : rb i 1 0 ≠ .out)
    (ret : ∀ d e h q tv t tl h' tk', rb i 1 0 = .ok (d, e, h) → Fr h₀ L h' m → News h₀ L h' ((q, tupO [tv, .int ((e : Nat) : Int) t]) :: (tl ++ news)) → DatIn tl tv d → (∀ p ∈ tl, s.heap.get? p.1 = none) → Q (.ref q) { s with heap := h', toks := tk' })
    (exc : rb i 1 0 = .fault → ∀ e h' tk', Flies base s.heap (envOf cn cs L f cd :: fr) e h' → E (.ref e) { s with heap := h', toks := tk' }) :
    wpAny (model prog w) ((Ar dp un gd fr).deeper (envOf cn cs L f cd)) (call (.ref 117) [.ref a, .int (i : Int) t1]) Q E s :=
  CallSpec.use (parse_expr_spec (Cx.inn (a := f) (cd := cd) B X T F hk) (TK.keeps F.keep) H (by omega) (by omega) (by omega) (by omega) hne) F N (fun v tl h' tk' F' N' NI p => by
    obtain ⟨d, e, h, hr, q, tv, t, rfl, hm, hd⟩ := p
    exact ret d e h q tv t tl h' tk' hr F' (fun p hp => by
      rcases List.mem_cons.mp hp with rfl | hp
      · exact N' _ (List.mem_append.mpr (.inl hm))
      · exact N' p hp) hd fun p hp => (NI p hp).2) exc
noncomputable def isLoop (ts : List Tk) (i : Nat) : Option Bool := if opAt ts i (Str.ofString "(") then holdsMark ts i (Str.ofString "=") else some false
set_option maxHeartbeats 8000000 in
theorem is_loop_spec {a : Addr} {ts : List Tk} {i : Nat} {t : Tok} (C : Cx w (Ar dp un gd fr) base fr mean mg mb s.heap) (TK : ToksAt s.heap a ts) (hdp : dp + 6 < 1000) (hun : un + 60 < 9900) (hb : isLoop ts i = some false) :
    CallSpec prog w (Ar dp un gd fr) fr base s 229 [.ref a, .int i t] (Just fun t => .bool false) False := by
  refine' enter (binds := [(Str.ofString "tokens", .ref a), (Str.ofString "at", .int i t)]) C ?k6 ?k7 ?k8 ?k9 ?kB ?_ ?c2 ?c3 ?c4 ?c5
  walk_at "=enter"
  intro L h₁ E hexc F N
  have X := C.X
  have T := C.T
  have B := C.B
  cases ho : opAt ts i (Str.ofString "(") with
  | true =>
    have hm : holdsMark ts i (Str.ofString "=") = some false := by rw [isLoop, ho] at hb; exact hb
    walk_at "=go"
    walk_at "=ret"
    exact backJust (by assumption) ⟨0, rfl⟩
  | false =>
    walk_at "=go"
    walk_at "=ret"
    rw [ho]
    exact backJust (by assumption) ⟨0, rfl⟩
theorem is_loop_use {ts : List Tk} {h₀ : Heap} {L f a : Addr} {m : Str → Option Value} {news : List (Addr × Obj)} {cn : Str} {cs : Scope} {cd : Value} {i : Nat} {t1 : Tok} {Q E : Value → Shared → Prop}
    (B : Below (Ar dp un gd fr) base fr h₀) (X : (gen.heap_1_39 w.params).In h₀) (T : Top gen.view_1_40 (looseW gen.view_1_40 [Str.ofString "PRIORITIES"]) mean mg mb h₀) (F : Fr h₀ L s.heap m) (N : News h₀ L s.heap news) (TK : ToksAt h₀ a ts)
    (hdp : dp + 7 < 1000) (hun : un + 63 < 9900) (hk : cs.kind = .function) (hb : isLoop ts i = some false)
    (ret : ∀ h' tk', Fr h₀ L h' m → News h₀ L h' news → Q (.bool false) { s with heap := h', toks := tk' }) :
    wpAny (model prog w) ((Ar dp un gd fr).deeper (envOf cn cs L f cd)) (call (.ref 229) [.ref a, .int (i : Int) t1]) Q E s :=
  CallSpec.usePure (is_loop_spec (Cx.inn (a := f) (cd := cd) B X T F hk) (TK.keeps F.keep) (by omega) (by omega) hb) F N fun _ => ret
/-- read_items' answer, one item -/
noncomputable def rItems (ts : List Tk) (rb : Rb) (i : Nat) : Rs Tr := if isLoop ts i = some false then (rb i 1 0).bind fun (d, e, h) => if opAt ts e (Str.ofString ",") then .out else .ok (d, e, h) else .out
/-- one item in a list, and the end -/
noncomputable def PairI (r : Rs Tr) (v : Value) (tl : List (Addr × Obj)) : Prop :=
  ∃ d e h, r = .ok (d, e, h) ∧ ∃ q tv t, v = .ref q ∧ (q, tupO [tv, .int ((e : Nat) : Int) t]) ∈ tl ∧ DatIn tl tv (.list [d])
set_option maxHeartbeats 8000000 in
theorem read_items_spec {a : Addr} {ts : List Tk} {rb : Rb} {D U i : Nat} {t u : Tok} {kd : Int} (C : Cx w (Ar dp un gd fr) base fr mean mg mb s.heap) (TK : ToksAt s.heap a ts) (H : RBc prog w ts rb D U) (hdp : dp + 2 + D < 1000) (hun : un + 6 + U < 9900) (hdp2 : dp + 8 < 1000) (hun2 : un + 70 < 9900) (hne : rItems ts rb i ≠ .out) :
    CallSpec prog w (Ar dp un gd fr) fr base s 243 [.ref a, .int i t, .int kd u] (PairI (rItems ts rb i)) (rItems ts rb i = .fault) := by
  refine' enter (binds := [(Str.ofString "tokens", .ref a), (Str.ofString "at", .int i t), (Str.ofString "deep", .int kd u)]) C ?k6 ?k7 ?k8 ?k9 ?kB ?_ ?c2 ?c3 ?c4 ?c5
  walk_at "=enter"
  intro L h₁ E hexc F N
  have X := C.X
  have T := C.T
  have B := C.B
  have hb : isLoop ts i = some false := by
    by_cases q : isLoop ts i = some false
    · exact q
    · exact absurd (by simp [rItems, q]) hne
  have hp : rItems ts rb i = (rb i 1 0).bind fun (d, e, h) => if opAt ts e (Str.ofString ",") then .out else .ok (d, e, h) := by rw [rItems, if_pos hb]
  rw [hp] at hne hexc ⊢
  walk_at "=go"
  refine whl_turn (k := 0) ?hE ?_
  case hE => first | passes_own | with_unfolding_all passes_own
  k_steps
  refine is_loop_use B X T (by assumption) (by assumption) TK (by omega) (by omega) rfl hb ?_
  intro h' tk' F' N'
  rename_i R t0 g0 l0 g1 t1
  have hRh : h'.get? R = some (W.listOf ([] : List Value).toArray 0) := (N' _ (.head _)).1
  k_steps
  refine expr_use H B X T (by assumption) (by assumption) TK (by omega) (by omega) (by omega) (by omega) rfl (fun q => hne (by simp [q, Rs.bind])) ?_ ?_
  · intro d e h q tv t8 tl h2' tk2' hr F2' N2' D2 hnew
    have hc : opAt ts e (Str.ofString ",") = false := by
      cases q : opAt ts e (Str.ofString ",") with
      | false => rfl
      | true => exact absurd (by simp [hr, q, Rs.bind]) hne
    have hR2 : ∀ p ∈ tl, p.1 ≠ R := fun p hp z => by
      have := hnew p hp
      rw [z] at this
      exact absurd (hRh.symm.trans this) (by simp)
    have hq : q ≠ R := fun z => by
      have a1 := (N2' _ (.head _)).1
      have a2 := (N2' (R, W.listOf ([] : List Value).toArray 0) (.tail _ (List.mem_append.mpr (.inr (.head _))))).1
      dsimp only at a1 a2
      rw [z, a2] at a1
      have a3 := congrArg (fun o : Option Obj => o.map (·.cls)) a1
      simp at a3
    have hall : ∀ p ∈ ((q, tupO [tv, .int ((e : Nat) : Int) t8]) :: tl), p.1 ≠ R := List.forall_mem_cons.mpr ⟨hq, hR2⟩
    have N3 : News s.heap L h2' ((R, W.listOf ([] : List Value).toArray 0) :: (q, tupO [tv, .int ((e : Nat) : Int) t8]) :: tl) := fun p hp => N2' p (by
      simp only [List.mem_cons, List.mem_append] at hp ⊢
      rcases hp with hp | hp | hp
      · exact .inr (.inr (.inl hp))
      · exact .inl hp
      · exact .inr (.inl hp))
    clear N2' N' F' hnew
    have hsz : ([] : List Value).toArray.size ≤ sizeLine := by rw [List.size_toArray, sizeLine_eq]; exact Nat.zero_le _
    k_steps
    walk_at "=ret"
    exact ⟨_, _, _, _, rfl, by assumption, NewIn.of (by assumption), d, e, h, by simp [hr, hc, Rs.bind], _, _, _, rfl, by k_mem, DatIn.list (vs := [tv]) (.tail _ (.head _)) (DatAll.one (D2.mono fun p hp => by simp only [List.mem_cons, hp, or_true]))⟩
  · intro hr e' h' tk' R'
    exact thru (s := s) B (by assumption) R' (hexc (by simp [hr, Rs.bind]))
theorem items_use {ts : List Tk} {rb : Rb} {D U : Nat} {h₀ : Heap} {L f a : Addr} {m : Str → Option Value} {news : List (Addr × Obj)} {cn : Str} {cs : Scope} {cd : Value} {i : Nat} {kd : Int} {t1 t3 : Tok} {Q E : Value → Shared → Prop}
    (H : RBc prog w ts rb D U) (B : Below (Ar dp un gd fr) base fr h₀) (X : (gen.heap_1_39 w.params).In h₀) (T : Top gen.view_1_40 (looseW gen.view_1_40 [Str.ofString "PRIORITIES"]) mean mg mb h₀) (F : Fr h₀ L s.heap m) (N : News h₀ L s.heap news) (TK : ToksAt h₀ a ts)
    (hdp : dp + 3 + D < 1000) (hun : un + 9 + U < 9900) (hdp2 : dp + 9 < 1000) (hun2 : un + 73 < 9900) (hk : cs.kind = .function) (hne : rItems ts rb i ≠ .out)
    (ret : ∀ d e h q tv t tl h' tk', rItems ts rb i = .ok (d, e, h) → Fr h₀ L h' m → News h₀ L h' ((q, tupO [tv, .int ((e : Nat) : Int) t]) :: (tl ++ news)) → DatIn tl tv (.list [d]) → Q (.ref q) { s with heap := h', toks := tk' })
    (exc : rItems ts rb i = .fault → ∀ e h' tk', Flies base s.heap (envOf cn cs L f cd :: fr) e h' → E (.ref e) { s with heap := h', toks := tk' }) :
    wpAny (model prog w) ((Ar dp un gd fr).deeper (envOf cn cs L f cd)) (call (.ref 243) [.ref a, .int (i : Int) t1, .int kd t3]) Q E s :=
  CallSpec.use (read_items_spec (Cx.inn (a := f) (cd := cd) B X T F hk) (TK.keeps F.keep) H (by omega) (by omega) (by omega) (by omega) hne) F N (fun v tl h' tk' F' N' NI p => by
    obtain ⟨d, e, h, hr, q, tv, t, rfl, hm, hd⟩ := p
    exact ret d e h q tv t tl h' tk' hr F' (fun p hp => by
      rcases List.mem_cons.mp hp with rfl | hp
      · exact N' _ (List.mem_append.mpr (.inl hm))
      · exact N' p hp) hd) exc
set_option maxHeartbeats 8000000 in
theorem parse_items_spec {a : Addr} {ts : List Tk} {rb : Rb} {D U i : Nat} {t : Tok} (C : Cx w (Ar dp un gd fr) base fr mean mg mb s.heap) (TK : ToksAt s.heap a ts) (H : RBc prog w ts rb D U) (hdp : dp + 3 + D < 1000) (hun : un + 9 + U < 9900) (hdp2 : dp + 9 < 1000) (hun2 : un + 73 < 9900) (hlen : i < ts.length) (hne : rItems ts rb i ≠ .out) :
    CallSpec prog w (Ar dp un gd fr) fr base s 236 [.ref a, .int i t] (PairI (rItems ts rb i)) (rItems ts rb i = .fault) := by
  refine' enter (binds := [(Str.ofString "tokens", .ref a), (Str.ofString "at", .int i t)]) C ?k6 ?k7 ?k8 ?k9 ?kB ?_ ?c2 ?c3 ?c4 ?c5
  walk_at "=enter"
  intro L h₁ E hexc F N
  have X := C.X
  have T := C.T
  have B := C.B
  walk_at "=go"
  refine items_use H B X T (by assumption) (by assumption) TK (by omega) (by omega) (by omega) (by omega) rfl hne ?_ ?_
  · intro d e h q tv t8 tl h2' tk2' hr F2' N2' D2
    walk_at "=ret"
    exact ⟨_, _, _, _, rfl, by assumption, NewIn.of (by assumption), d, e, h, hr, _, _, _, rfl, by k_mem, by kd_in⟩
  · intro hr e' h' tk' R'
    exact thru (s := s) B (by assumption) R' (hexc hr)
end
section
variable {prog : Program} {w : World} {A : Around} {E : Value → Shared → Prop} {s : Shared} {h₀ : Heap} {L : Addr} {m : Str → Option Value} {news : List (Addr × Obj)}
noncomputable def tkD (t : Tk) : Dat := .tuple [.str t.kind, .str t.text]
noncomputable def rowD (ts : List Tk) : Dat := .list (ts.map tkD)
noncomputable def oneD (ts : List Tk) (d : Dat) (deep high : Nat) : Dat := .tuple [rowD ts, d, .int deep, .int high]
noncomputable def Have (h : Heap) (news : List (Addr × Obj)) : Prop := ∀ p ∈ news, h.get? p.1 = some p.2
theorem one_inv {n : List (Addr × Obj)} {v : Value} {ts : List Tk} {d : Dat} {deep high : Nat} (D : DatIn n v (oneD ts d deep high)) :
    ∃ o k r vs k2 tv t1 t2, v = .ref o ∧ (o, ({ cls := .type "tuple", data := .seq [.ref r, tv, .int deep t1, .int high t2].toArray k } : Obj)) ∈ n ∧ (r, W.listOf vs.toArray k2) ∈ n ∧ DatAll n vs (ts.map tkD) ∧ DatIn n tv d := by
  unfold oneD at D
  cases D with
  | tuple hm ha =>
    cases ha with
    | cons h1 ha => cases ha with
      | cons h2 ha => cases ha with
        | cons h3 ha => cases ha with
          | cons h4 ha => cases ha with
            | nil =>
              cases h3
              cases h4
              unfold rowD at h1
              cases h1 with
              | list hm2 ha2 => exact ⟨_, _, _, _, _, _, _, _, rfl, hm, hm2, ha2, h2⟩
theorem Have.tup {h : Heap} {n : List (Addr × Obj)} {o : Addr} {vs : List Value} {k : Nat} (H : Have h n) (hm : (o, ({ cls := .type "tuple", data := .seq vs.toArray k } : Obj)) ∈ n) : IsTup h o vs.toArray := ⟨_, H _ hm, rfl, k, rfl⟩
end
/-- the wraps: tokens, tree, depth, height -/
noncomputable def wrapT (way : Nat) (ts : List Tk) : List Tk := match way with
  | 0 => .lp :: (ts ++ [.rp])
  | 1 => .lp :: .minus :: (ts ++ [.rp])
  | 2 => .nA :: .lp :: (ts ++ [.rp])
  | 3 => .nC :: .lp :: (ts ++ [.colon, .rp])
  | 4 => .lp :: .nK :: .pow :: (ts ++ [.rp])
  | 5 => .nA :: .lp :: .nK :: .comma :: (ts ++ [.rp])
  | 6 => .lp :: .no :: (ts ++ [.rp])
  | 7 => .nC :: .lp :: .colon :: (ts ++ [.rp])
  | 8 => .lp :: (ts ++ [.pow, .nK, .rp])
  | 9 => .lp :: .nK :: .star :: (ts ++ [.rp])
  | _ => .nC :: .lp :: .nK :: .rp :: .lp :: (ts ++ [.colon, .nK, .rp])
noncomputable def dK : Dat := dName (Str.ofString "K")
noncomputable def wrapDat (way : Nat) (d : Dat) : Dat := match way with
  | 0 => d
  | 1 => dUn (Str.ofString "-") d
  | 2 => dRef (Str.ofString "A") [d]
  | 3 => dSub (dName (Str.ofString "C")) d .none
  | 4 => dBin (Str.ofString "**") dK d
  | 5 => dRef (Str.ofString "A") [dK, d]
  | 6 => dUn (Str.ofString ".NOT.") d
  | 7 => dSub (dName (Str.ofString "C")) .none d
  | 8 => dBin (Str.ofString "**") d dK
  | 9 => dBin (Str.ofString "*") dK d
  | _ => dSub (dRef (Str.ofString "C") [dK]) d dK
noncomputable def wrapDeep (way deep : Nat) : Nat := match way with
  | 4 => deep + 2
  | 8 => max deep 1 + 1
  | _ => deep + 1
noncomputable def wrapHigh (way high : Nat) : Nat := match way with
  | 0 => high
  | 10 => max high 1 + 1
  | _ => high + 1
section
variable {prog : Program} {w : World} {dp un : Nat} {gd : Option (List Code)} {fr : List Env} {base : Heap} {s : Shared} {mean : ExcName → Option Value} {mg mb : Str → Option Value}
set_option maxHeartbeats 8000000 in
theorem law_k_spec (C : Cx w (Ar dp un gd fr) base fr mean mg mb s.heap) (hdp : dp + 2 < 1000) (hun : un + 32 < 9900) :
    CallSpec prog w (Ar dp un gd fr) fr base s 272 [] (fun v tl => ∃ q b t1 t2, v = .ref q ∧ tl = [(q, W.listOf [.ref b].toArray 0), (b, tupO [.str (Str.ofString "NAME") t1, .str (Str.ofString "K") t2])]) False := by
  refine' enter (binds := []) C ?k6 ?k7 ?k8 ?k9 ?kB ?_ ?c2 ?c3 ?c4 ?c5
  walk_at "=enter"
  intro L h₁ E hexc F N
  have X := C.X
  have T := C.T
  have B := C.B
  walk_at "=go"
  walk_at "=ret"
  exact ⟨_, _, _, _, rfl, by assumption, NewIn.of (by assumption), _, _, _, _, rfl, rfl⟩
set_option maxHeartbeats 8000000 in
theorem law_op_spec {x : Str} {t : Tok} (C : Cx w (Ar dp un gd fr) base fr mean mg mb s.heap) (hdp : dp + 2 < 1000) (hun : un + 32 < 9900) :
    CallSpec prog w (Ar dp un gd fr) fr base s 279 [.str x t] (fun v tl => ∃ q b t1 t2, v = .ref q ∧ tl = [(q, W.listOf [.ref b].toArray 0), (b, tupO [.str (Str.ofString "OP") t1, .str x t2])]) False := by
  refine' enter (binds := [(Str.ofString "sign", .str x t)]) C ?k6 ?k7 ?k8 ?k9 ?kB ?_ ?c2 ?c3 ?c4 ?c5
  walk_at "=enter"
  intro L h₁ E hexc F N
  have X := C.X
  have T := C.T
  have B := C.B
  walk_at "=go"
  walk_at "=ret"
  exact ⟨_, _, _, _, rfl, by assumption, NewIn.of (by assumption), _, _, _, _, rfl, rfl⟩
theorem law_k_use {h₀ : Heap} {L f : Addr} {m : Str → Option Value} {news : List (Addr × Obj)} {cn : Str} {cs : Scope} {cd : Value} {Q E : Value → Shared → Prop}
    (B : Below (Ar dp un gd fr) base fr h₀) (X : (gen.heap_1_39 w.params).In h₀) (T : Top gen.view_1_40 (looseW gen.view_1_40 [Str.ofString "PRIORITIES"]) mean mg mb h₀) (F : Fr h₀ L s.heap m) (N : News h₀ L s.heap news)
    (hdp : dp + 3 < 1000) (hun : un + 35 < 9900) (hk : cs.kind = .function)
    (ret : ∀ q b t1 t2 h' tk', Fr h₀ L h' m → News h₀ L h' ((q, W.listOf [.ref b].toArray 0) :: (b, tupO [.str (Str.ofString "NAME") t1, .str (Str.ofString "K") t2]) :: news) → Q (.ref q) { s with heap := h', toks := tk' }) :
    wpAny (model prog w) ((Ar dp un gd fr).deeper (envOf cn cs L f cd)) (call (.ref 272) []) Q E s :=
  CallSpec.use (law_k_spec (Cx.inn (a := f) (cd := cd) B X T F hk) (by omega) (by omega)) F N (fun v tl h' tk' F' N' _ p => by
    obtain ⟨q, b, t1, t2, rfl, rfl⟩ := p
    exact ret q b t1 t2 h' tk' F' N') fun x => x.elim
theorem law_op_use {h₀ : Heap} {L f : Addr} {m : Str → Option Value} {news : List (Addr × Obj)} {cn : Str} {cs : Scope} {cd : Value} {x : Str} {t : Tok} {Q E : Value → Shared → Prop}
    (B : Below (Ar dp un gd fr) base fr h₀) (X : (gen.heap_1_39 w.params).In h₀) (T : Top gen.view_1_40 (looseW gen.view_1_40 [Str.ofString "PRIORITIES"]) mean mg mb h₀) (F : Fr h₀ L s.heap m) (N : News h₀ L s.heap news)
    (hdp : dp + 3 < 1000) (hun : un + 35 < 9900) (hk : cs.kind = .function)
    (ret : ∀ q b t1 t2 h' tk', Fr h₀ L h' m → News h₀ L h' ((q, W.listOf [.ref b].toArray 0) :: (b, tupO [.str (Str.ofString "OP") t1, .str x t2]) :: news) → Q (.ref q) { s with heap := h', toks := tk' }) :
    wpAny (model prog w) ((Ar dp un gd fr).deeper (envOf cn cs L f cd)) (call (.ref 279) [.str x t]) Q E s :=
  CallSpec.use (law_op_spec (Cx.inn (a := f) (cd := cd) B X T F hk) (by omega) (by omega)) F N (fun v tl h' tk' F' N' _ p => by
    obtain ⟨q, b, t1, t2, rfl, rfl⟩ := p
    exact ret q b t1 t2 h' tk' F' N') fun x => x.elim
end
theorem word16 : True := by
  k_with "my call ref" => ((k_here; (with_reducible show wpAny _ _ (call (Value.ref 272) _) _ _ _); k_dflt (apply law_k_use; walk_at "=asm2"); (intro _ _ _ _ _ _ _ _; walk_at "=end")))
  trivial
section
variable {prog : Program} {w : World} {dp un : Nat} {gd : Option (List Code)} {fr : List Env} {base : Heap} {s : Shared} {mean : ExcName → Option Value} {mg mb : Str → Option Value}
end
theorem word17 : True := by
  k_with "my call ref" => ((k_here; (with_reducible show wpAny _ _ (call (Value.ref 279) _) _ _ _); k_dflt (apply law_op_use; walk_at "=asm2"); (intro _ _ _ _ _ _ _ _; walk_at "=end")))
  trivial
section
variable {prog : Program} {w : World} {dp un : Nat} {gd : Option (List Code)} {fr : List Env} {base : Heap} {s : Shared} {mean : ExcName → Option Value} {mg mb : Str → Option Value}
-- two lists joined
theorem add_two {h₀ : Heap} {L : Addr} {m : Str → Option Value} {news : List (Addr × Obj)} {A : Around} {l b : Addr} {vs ws : List Value} {Q E : Value → Shared → Prop} (F : Fr h₀ L s.heap m) (N : News h₀ L s.heap news) (hl : s.heap.IsList l vs.toArray) (hb : s.heap.IsList b ws.toArray) (hsz : vs.length + ws.length ≤ 2 ^ 20)
    (h : ∀ q h', Fr h₀ L h' m → News h₀ L h' ((q, W.listOf (vs ++ ws).toArray 0) :: news) → Q (.ref q) { s with heap := h' }) :
    wpAny (model prog w) A (binaryOp .Add (.ref l) (.ref b)) Q E s :=
  add_lists (hsz := by rw [sizeLine_eq]; omega) F N hl hb fun h' F' N' => h _ h' F' N'
theorem memList {h₀ h : Heap} {L : Addr} {news : List (Addr × Obj)} {a : Addr} {vs : List Value} {n : Nat} (N : News h₀ L h news) (hm : (a, W.listOf vs.toArray n) ∈ news) : h.IsList a vs.toArray := N.isList hm
theorem memIn {p : Addr × Obj} {l l' : List (Addr × Obj)} (h : p ∈ l) (hs : ∀ x ∈ l, x ∈ l') : p ∈ l' := hs p h
end
theorem word18 : True := by
  k_with "=lst" => (first | exact Fr.lst (by assumption) (by assumption) | exact memList (by assumption) (by k_mem) | exact memList (by assumption) (memIn (by assumption) (fun p hp => by simp only [List.mem_cons, List.mem_append, hp, true_or, or_true])))
  trivial
section
variable {prog : Program} {w : World} {dp un : Nat} {gd : Option (List Code)} {fr : List Env} {base : Heap} {s : Shared} {mean : ExcName → Option Value} {mg mb : Str → Option Value}
end
theorem word19 : True := by
  k_with "=len" => (((try simp only [List.length_append, List.length_cons, List.length_nil]); omega))
  trivial
section
variable {prog : Program} {w : World} {dp un : Nat} {gd : Option (List Code)} {fr : List Env} {base : Heap} {s : Shared} {mean : ExcName → Option Value} {mg mb : Str → Option Value}
end
local macro_rules | `(tactic| walk_at "binaryOp Add ref ref") => `(tactic| (k_here; (with_reducible show wpAny _ _ (binaryOp _ (Value.ref _) (Value.ref _)) _ _ _); k_dflt (refine' add_two ?F ?N ?hl ?hb ?hsz ?_; (case F | N => k_asm); (case hl | hb => walk_at "=lst"); (case hsz => walk_at "=len")); (intro q' h' F' N'; (try dsimp only); (try k_sweep))))
section
variable {prog : Program} {w : World} {dp un : Nat} {gd : Option (List Code)} {fr : List Env} {base : Heap} {s : Shared} {mean : ExcName → Option Value} {mg mb : Str → Option Value}
set_option maxHeartbeats 8000000 in
theorem law_in_spec {r : Addr} {vs : List Value} (C : Cx w (Ar dp un gd fr) base fr mean mg mb s.heap) (IL : s.heap.IsList r vs.toArray) (hvs : vs.length ≤ 10000) (hdp : dp + 5 < 1000) (hun : un + 60 < 9900) :
    CallSpec prog w (Ar dp un gd fr) fr base s 286 [.ref r] (fun v tl => ∃ q b t1 t2 b' t1' t2', v = .ref q ∧ (q, W.listOf ([Value.ref b] ++ vs ++ [Value.ref b']).toArray 0) ∈ tl ∧ (b, tupO [.str (Str.ofString "OP") t1, .str (Str.ofString "(") t2]) ∈ tl ∧ (b', tupO [.str (Str.ofString "OP") t1', .str (Str.ofString ")") t2']) ∈ tl) False := by
  refine' enter (binds := [(Str.ofString "row", .ref r)]) C ?k6 ?k7 ?k8 ?k9 ?kB ?_ ?c2 ?c3 ?c4 ?c5
  walk_at "=enter"
  intro L h₁ E hexc F N
  have X := C.X
  have T := C.T
  have B := C.B
  walk_at "=go"
  walk_at "=ret"
  exact ⟨_, _, _, _, rfl, by assumption, NewIn.of (by assumption), _, _, _, _, _, _, _, rfl, by k_mem, by k_mem, by k_mem⟩
theorem law_in_use {h₀ : Heap} {L f : Addr} {m : Str → Option Value} {news : List (Addr × Obj)} {cn : Str} {cs : Scope} {cd : Value} {r : Addr} {vs : List Value} {Q E : Value → Shared → Prop}
    (B : Below (Ar dp un gd fr) base fr h₀) (X : (gen.heap_1_39 w.params).In h₀) (T : Top gen.view_1_40 (looseW gen.view_1_40 [Str.ofString "PRIORITIES"]) mean mg mb h₀) (F : Fr h₀ L s.heap m) (N : News h₀ L s.heap news)
    (hdp : dp + 6 < 1000) (hun : un + 63 < 9900) (hk : cs.kind = .function) (IL : s.heap.IsList r vs.toArray) (hvs : vs.length ≤ 10000)
    (ret : ∀ q b t1 t2 b' t1' t2' h' tk', Fr h₀ L h' m → News h₀ L h' ((q, W.listOf ([Value.ref b] ++ vs ++ [Value.ref b']).toArray 0) :: (b, tupO [.str (Str.ofString "OP") t1, .str (Str.ofString "(") t2]) :: (b', tupO [.str (Str.ofString "OP") t1', .str (Str.ofString ")") t2']) :: news) → Q (.ref q) { s with heap := h', toks := tk' }) :
    wpAny (model prog w) ((Ar dp un gd fr).deeper (envOf cn cs L f cd)) (call (.ref 286) [.ref r]) Q E s :=
  CallSpec.use (law_in_spec (Cx.inn (a := f) (cd := cd) B X T F hk) IL hvs (by omega) (by omega)) F N (fun v tl h' tk' F' N' _ p => by
    obtain ⟨q, b, t1, t2, b', t1', t2', rfl, h1, h2, h3⟩ := p
    exact ret q b t1 t2 b' t1' t2' h' tk' F' fun p hp => by
      rcases List.mem_cons.mp hp with rfl | hp
      · exact N' _ (List.mem_append.mpr (.inl h1))
      rcases List.mem_cons.mp hp with rfl | hp
      · exact N' _ (List.mem_append.mpr (.inl h2))
      rcases List.mem_cons.mp hp with rfl | hp
      · exact N' _ (List.mem_append.mpr (.inl h3))
      exact N' _ (List.mem_append.mpr (.inr hp))) fun x => x.elim
end
theorem word20 : True := by
  k_with "my call ref" => ((k_here; (with_reducible show wpAny _ _ (call (Value.ref 286) _) _ _ _); k_dflt (apply law_in_use; walk_at "=asm2"; (case IL => walk_at "=lst"); (case hvs => walk_at "=len")); (intro _ _ _ _ _ _ _ _ _ _ _; walk_at "=end")))
  trivial
section
variable {prog : Program} {w : World} {dp un : Nat} {gd : Option (List Code)} {fr : List Env} {base : Heap} {s : Shared} {mean : ExcName → Option Value} {mg mb : Str → Option Value}
theorem nat1 : (1 : Int) = ((1 : Nat) : Int) := rfl
end
local macro_rules | `(tactic| walk_at "call builtin:max") => `(tactic| (k_here; (with_reducible show wpAny _ _ (call (Value.builtin "max") [Value.int _ _, Value.int 1 _]) _ _ _); (with_unfolding_all refine' max_nat ?hh ?ha ?hb ?F ?N ?_; (case hh | ha => exact rfl); (case hb => exact nat1); (case F | N => k_asm); k_whole); intro t' h' tk' F' N'; (try k_sweep)))
section
variable {prog : Program} {w : World} {dp un : Nat} {gd : Option (List Code)} {fr : List Env} {base : Heap} {s : Shared} {mean : ExcName → Option Value} {mg mb : Str → Option Value}
end
theorem word21 : True := by
  k_with "=one" => ((
    (try dsimp only); (try (k_unfold; dsimp only))
    (show Back _ _ _ _ _)
    (refine ⟨_, _, _, _, rfl, by assumption, NewIn.of (by assumption), ?_⟩)
    (simp only [wrapT, wrapDat, wrapDeep, wrapHigh, dK, oneD, rowD, dBin, dUn, dName, dRef, dSub, List.map_cons, List.map_append, List.map_nil, tkD, List.cons_append, List.nil_append, List.append_assoc, Tk.kind, Tk.isName, Tk.text, if_true, if_false, Bool.false_eq_true])
    (kd_in)))
  trivial
section
variable {prog : Program} {w : World} {dp un : Nat} {gd : Option (List Code)} {fr : List Env} {base : Heap} {s : Shared} {mean : ExcName → Option Value} {mg mb : Str → Option Value}
set_option maxHeartbeats 8000000 in
theorem wrapped_0 {o : Value} {ts : List Tk} {d : Dat} {deep high : Nat} {t : Tok} {news0 : List (Addr × Obj)} (C : Cx w (Ar dp un gd fr) base fr mean mg mb s.heap) (H0 : Have s.heap news0) (D0 : DatIn news0 o (oneD ts d deep high)) (hdp : dp + 10 < 1000) (hun : un + 90 < 9900) (hl : ts.length ≤ 1000) :
    CallSpec prog w (Ar dp un gd fr) fr base s 300 [o, .int 0 t] (fun v tl => DatIn (tl ++ news0) v (oneD (wrapT 0 ts) (wrapDat 0 d) (wrapDeep 0 deep) (wrapHigh 0 high))) False := by
  obtain ⟨o, k, r, vs, k2, tv, t1, t2, rfl, hm, hm2, hA, hD⟩ := one_inv D0
  have IT := H0.tup hm
  have IL : s.heap.IsList r vs.toArray := ⟨_, H0 _ hm2, rfl, k2, rfl⟩
  have hvs : vs.length = ts.length := hA.length.trans (List.length_map ..)
  refine' enter (binds := [(Str.ofString "one", .ref o), (Str.ofString "way", .int 0 t)]) C ?k6 ?k7 ?k8 ?k9 ?kB ?_ ?c2 ?c3 ?c4 ?c5
  walk_at "=enter"
  intro L h₁ E hexc F N
  have X := C.X
  have T := C.T
  have B := C.B
  walk_at "=go"
  walk_at "=one"
set_option maxHeartbeats 8000000 in
theorem wrapped_1 {o : Value} {ts : List Tk} {d : Dat} {deep high : Nat} {t : Tok} {news0 : List (Addr × Obj)} (C : Cx w (Ar dp un gd fr) base fr mean mg mb s.heap) (H0 : Have s.heap news0) (D0 : DatIn news0 o (oneD ts d deep high)) (hdp : dp + 10 < 1000) (hun : un + 90 < 9900) (hl : ts.length ≤ 1000) :
    CallSpec prog w (Ar dp un gd fr) fr base s 300 [o, .int 1 t] (fun v tl => DatIn (tl ++ news0) v (oneD (wrapT 1 ts) (wrapDat 1 d) (wrapDeep 1 deep) (wrapHigh 1 high))) False := by
  obtain ⟨o, k, r, vs, k2, tv, t1, t2, rfl, hm, hm2, hA, hD⟩ := one_inv D0
  have IT := H0.tup hm
  have IL : s.heap.IsList r vs.toArray := ⟨_, H0 _ hm2, rfl, k2, rfl⟩
  have hvs : vs.length = ts.length := hA.length.trans (List.length_map ..)
  refine' enter (binds := [(Str.ofString "one", .ref o), (Str.ofString "way", .int 1 t)]) C ?k6 ?k7 ?k8 ?k9 ?kB ?_ ?c2 ?c3 ?c4 ?c5
  walk_at "=enter"
  intro L h₁ E hexc F N
  have X := C.X
  have T := C.T
  have B := C.B
  walk_at "=go"
  walk_at "=one"
set_option maxHeartbeats 8000000 in
theorem wrapped_2 {o : Value} {ts : List Tk} {d : Dat} {deep high : Nat} {t : Tok} {news0 : List (Addr × Obj)} (C : Cx w (Ar dp un gd fr) base fr mean mg mb s.heap) (H0 : Have s.heap news0) (D0 : DatIn news0 o (oneD ts d deep high)) (hdp : dp + 10 < 1000) (hun : un + 90 < 9900) (hl : ts.length ≤ 1000) :
    CallSpec prog w (Ar dp un gd fr) fr base s 300 [o, .int 2 t] (fun v tl => DatIn (tl ++ news0) v (oneD (wrapT 2 ts) (wrapDat 2 d) (wrapDeep 2 deep) (wrapHigh 2 high))) False := by
  obtain ⟨o, k, r, vs, k2, tv, t1, t2, rfl, hm, hm2, hA, hD⟩ := one_inv D0
  have IT := H0.tup hm
  have IL : s.heap.IsList r vs.toArray := ⟨_, H0 _ hm2, rfl, k2, rfl⟩
  have hvs : vs.length = ts.length := hA.length.trans (List.length_map ..)
  refine' enter (binds := [(Str.ofString "one", .ref o), (Str.ofString "way", .int 2 t)]) C ?k6 ?k7 ?k8 ?k9 ?kB ?_ ?c2 ?c3 ?c4 ?c5
  walk_at "=enter"
  intro L h₁ E hexc F N
  have X := C.X
  have T := C.T
  have B := C.B
  walk_at "=go"
  walk_at "=one"
set_option maxHeartbeats 8000000 in
theorem wrapped_3 {o : Value} {ts : List Tk} {d : Dat} {deep high : Nat} {t : Tok} {news0 : List (Addr × Obj)} (C : Cx w (Ar dp un gd fr) base fr mean mg mb s.heap) (H0 : Have s.heap news0) (D0 : DatIn news0 o (oneD ts d deep high)) (hdp : dp + 10 < 1000) (hun : un + 90 < 9900) (hl : ts.length ≤ 1000) :
    CallSpec prog w (Ar dp un gd fr) fr base s 300 [o, .int 3 t] (fun v tl => DatIn (tl ++ news0) v (oneD (wrapT 3 ts) (wrapDat 3 d) (wrapDeep 3 deep) (wrapHigh 3 high))) False := by
  obtain ⟨o, k, r, vs, k2, tv, t1, t2, rfl, hm, hm2, hA, hD⟩ := one_inv D0
  have IT := H0.tup hm
  have IL : s.heap.IsList r vs.toArray := ⟨_, H0 _ hm2, rfl, k2, rfl⟩
  have hvs : vs.length = ts.length := hA.length.trans (List.length_map ..)
  refine' enter (binds := [(Str.ofString "one", .ref o), (Str.ofString "way", .int 3 t)]) C ?k6 ?k7 ?k8 ?k9 ?kB ?_ ?c2 ?c3 ?c4 ?c5
  walk_at "=enter"
  intro L h₁ E hexc F N
  have X := C.X
  have T := C.T
  have B := C.B
  walk_at "=go"
  walk_at "=one"
set_option maxHeartbeats 8000000 in
theorem wrapped_4 {o : Value} {ts : List Tk} {d : Dat} {deep high : Nat} {t : Tok} {news0 : List (Addr × Obj)} (C : Cx w (Ar dp un gd fr) base fr mean mg mb s.heap) (H0 : Have s.heap news0) (D0 : DatIn news0 o (oneD ts d deep high)) (hdp : dp + 10 < 1000) (hun : un + 90 < 9900) (hl : ts.length ≤ 1000) :
    CallSpec prog w (Ar dp un gd fr) fr base s 300 [o, .int 4 t] (fun v tl => DatIn (tl ++ news0) v (oneD (wrapT 4 ts) (wrapDat 4 d) (wrapDeep 4 deep) (wrapHigh 4 high))) False := by
  obtain ⟨o, k, r, vs, k2, tv, t1, t2, rfl, hm, hm2, hA, hD⟩ := one_inv D0
  have IT := H0.tup hm
  have IL : s.heap.IsList r vs.toArray := ⟨_, H0 _ hm2, rfl, k2, rfl⟩
  have hvs : vs.length = ts.length := hA.length.trans (List.length_map ..)
  refine' enter (binds := [(Str.ofString "one", .ref o), (Str.ofString "way", .int 4 t)]) C ?k6 ?k7 ?k8 ?k9 ?kB ?_ ?c2 ?c3 ?c4 ?c5
  walk_at "=enter"
  intro L h₁ E hexc F N
  have X := C.X
  have T := C.T
  have B := C.B
  walk_at "=go"
  walk_at "=one"
set_option maxHeartbeats 8000000 in
theorem wrapped_5 {o : Value} {ts : List Tk} {d : Dat} {deep high : Nat} {t : Tok} {news0 : List (Addr × Obj)} (C : Cx w (Ar dp un gd fr) base fr mean mg mb s.heap) (H0 : Have s.heap news0) (D0 : DatIn news0 o (oneD ts d deep high)) (hdp : dp + 10 < 1000) (hun : un + 90 < 9900) (hl : ts.length ≤ 1000) :
    CallSpec prog w (Ar dp un gd fr) fr base s 300 [o, .int 5 t] (fun v tl => DatIn (tl ++ news0) v (oneD (wrapT 5 ts) (wrapDat 5 d) (wrapDeep 5 deep) (wrapHigh 5 high))) False := by
  obtain ⟨o, k, r, vs, k2, tv, t1, t2, rfl, hm, hm2, hA, hD⟩ := one_inv D0
  have IT := H0.tup hm
  have IL : s.heap.IsList r vs.toArray := ⟨_, H0 _ hm2, rfl, k2, rfl⟩
  have hvs : vs.length = ts.length := hA.length.trans (List.length_map ..)
  refine' enter (binds := [(Str.ofString "one", .ref o), (Str.ofString "way", .int 5 t)]) C ?k6 ?k7 ?k8 ?k9 ?kB ?_ ?c2 ?c3 ?c4 ?c5
  walk_at "=enter"
  intro L h₁ E hexc F N
  have X := C.X
  have T := C.T
  have B := C.B
  walk_at "=go"
  walk_at "=one"
set_option maxHeartbeats 8000000 in
theorem wrapped_6 {o : Value} {ts : List Tk} {d : Dat} {deep high : Nat} {t : Tok} {news0 : List (Addr × Obj)} (C : Cx w (Ar dp un gd fr) base fr mean mg mb s.heap) (H0 : Have s.heap news0) (D0 : DatIn news0 o (oneD ts d deep high)) (hdp : dp + 10 < 1000) (hun : un + 90 < 9900) (hl : ts.length ≤ 1000) :
    CallSpec prog w (Ar dp un gd fr) fr base s 300 [o, .int 6 t] (fun v tl => DatIn (tl ++ news0) v (oneD (wrapT 6 ts) (wrapDat 6 d) (wrapDeep 6 deep) (wrapHigh 6 high))) False := by
  obtain ⟨o, k, r, vs, k2, tv, t1, t2, rfl, hm, hm2, hA, hD⟩ := one_inv D0
  have IT := H0.tup hm
  have IL : s.heap.IsList r vs.toArray := ⟨_, H0 _ hm2, rfl, k2, rfl⟩
  have hvs : vs.length = ts.length := hA.length.trans (List.length_map ..)
  refine' enter (binds := [(Str.ofString "one", .ref o), (Str.ofString "way", .int 6 t)]) C ?k6 ?k7 ?k8 ?k9 ?kB ?_ ?c2 ?c3 ?c4 ?c5
  walk_at "=enter"
  intro L h₁ E hexc F N
  have X := C.X
  have T := C.T
  have B := C.B
  walk_at "=go"
  walk_at "=one"
set_option maxHeartbeats 8000000 in
theorem wrapped_7 {o : Value} {ts : List Tk} {d : Dat} {deep high : Nat} {t : Tok} {news0 : List (Addr × Obj)} (C : Cx w (Ar dp un gd fr) base fr mean mg mb s.heap) (H0 : Have s.heap news0) (D0 : DatIn news0 o (oneD ts d deep high)) (hdp : dp + 10 < 1000) (hun : un + 90 < 9900) (hl : ts.length ≤ 1000) :
    CallSpec prog w (Ar dp un gd fr) fr base s 300 [o, .int 7 t] (fun v tl => DatIn (tl ++ news0) v (oneD (wrapT 7 ts) (wrapDat 7 d) (wrapDeep 7 deep) (wrapHigh 7 high))) False := by
  obtain ⟨o, k, r, vs, k2, tv, t1, t2, rfl, hm, hm2, hA, hD⟩ := one_inv D0
  have IT := H0.tup hm
  have IL : s.heap.IsList r vs.toArray := ⟨_, H0 _ hm2, rfl, k2, rfl⟩
  have hvs : vs.length = ts.length := hA.length.trans (List.length_map ..)
  refine' enter (binds := [(Str.ofString "one", .ref o), (Str.ofString "way", .int 7 t)]) C ?k6 ?k7 ?k8 ?k9 ?kB ?_ ?c2 ?c3 ?c4 ?c5
  walk_at "=enter"
  intro L h₁ E hexc F N
  have X := C.X
  have T := C.T
  have B := C.B
  walk_at "=go"
  walk_at "=one"
set_option maxHeartbeats 8000000 in
theorem wrapped_8 {o : Value} {ts : List Tk} {d : Dat} {deep high : Nat} {t : Tok} {news0 : List (Addr × Obj)} (C : Cx w (Ar dp un gd fr) base fr mean mg mb s.heap) (H0 : Have s.heap news0) (D0 : DatIn news0 o (oneD ts d deep high)) (hdp : dp + 10 < 1000) (hun : un + 90 < 9900) (hl : ts.length ≤ 1000) :
    CallSpec prog w (Ar dp un gd fr) fr base s 300 [o, .int 8 t] (fun v tl => DatIn (tl ++ news0) v (oneD (wrapT 8 ts) (wrapDat 8 d) (wrapDeep 8 deep) (wrapHigh 8 high))) False := by
  obtain ⟨o, k, r, vs, k2, tv, t1, t2, rfl, hm, hm2, hA, hD⟩ := one_inv D0
  have IT := H0.tup hm
  have IL : s.heap.IsList r vs.toArray := ⟨_, H0 _ hm2, rfl, k2, rfl⟩
  have hvs : vs.length = ts.length := hA.length.trans (List.length_map ..)
  refine' enter (binds := [(Str.ofString "one", .ref o), (Str.ofString "way", .int 8 t)]) C ?k6 ?k7 ?k8 ?k9 ?kB ?_ ?c2 ?c3 ?c4 ?c5
  walk_at "=enter"
  intro L h₁ E hexc F N
  have X := C.X
  have T := C.T
  have B := C.B
  walk_at "=go"
  walk_at "=one"
set_option maxHeartbeats 8000000 in
theorem wrapped_9 {o : Value} {ts : List Tk} {d : Dat} {deep high : Nat} {t : Tok} {news0 : List (Addr × Obj)} (C : Cx w (Ar dp un gd fr) base fr mean mg mb s.heap) (H0 : Have s.heap news0) (D0 : DatIn news0 o (oneD ts d deep high)) (hdp : dp + 10 < 1000) (hun : un + 90 < 9900) (hl : ts.length ≤ 1000) :
    CallSpec prog w (Ar dp un gd fr) fr base s 300 [o, .int 9 t] (fun v tl => DatIn (tl ++ news0) v (oneD (wrapT 9 ts) (wrapDat 9 d) (wrapDeep 9 deep) (wrapHigh 9 high))) False := by
  obtain ⟨o, k, r, vs, k2, tv, t1, t2, rfl, hm, hm2, hA, hD⟩ := one_inv D0
  have IT := H0.tup hm
  have IL : s.heap.IsList r vs.toArray := ⟨_, H0 _ hm2, rfl, k2, rfl⟩
  have hvs : vs.length = ts.length := hA.length.trans (List.length_map ..)
  refine' enter (binds := [(Str.ofString "one", .ref o), (Str.ofString "way", .int 9 t)]) C ?k6 ?k7 ?k8 ?k9 ?kB ?_ ?c2 ?c3 ?c4 ?c5
  walk_at "=enter"
  intro L h₁ E hexc F N
  have X := C.X
  have T := C.T
  have B := C.B
  walk_at "=go"
  walk_at "=one"
set_option maxHeartbeats 8000000 in
theorem wrapped_10 {o : Value} {ts : List Tk} {d : Dat} {deep high : Nat} {t : Tok} {news0 : List (Addr × Obj)} (C : Cx w (Ar dp un gd fr) base fr mean mg mb s.heap) (H0 : Have s.heap news0) (D0 : DatIn news0 o (oneD ts d deep high)) (hdp : dp + 10 < 1000) (hun : un + 90 < 9900) (hl : ts.length ≤ 1000) :
    CallSpec prog w (Ar dp un gd fr) fr base s 300 [o, .int 10 t] (fun v tl => DatIn (tl ++ news0) v (oneD (wrapT 10 ts) (wrapDat 10 d) (wrapDeep 10 deep) (wrapHigh 10 high))) False := by
  obtain ⟨o, k, r, vs, k2, tv, t1, t2, rfl, hm, hm2, hA, hD⟩ := one_inv D0
  have IT := H0.tup hm
  have IL : s.heap.IsList r vs.toArray := ⟨_, H0 _ hm2, rfl, k2, rfl⟩
  have hvs : vs.length = ts.length := hA.length.trans (List.length_map ..)
  refine' enter (binds := [(Str.ofString "one", .ref o), (Str.ofString "way", .int 10 t)]) C ?k6 ?k7 ?k8 ?k9 ?kB ?_ ?c2 ?c3 ?c4 ?c5
  walk_at "=enter"
  intro L h₁ E hexc F N
  have X := C.X
  have T := C.T
  have B := C.B
  walk_at "=go"
  walk_at "=one"
theorem wrapped_spec {o : Value} {ts : List Tk} {d : Dat} {deep high way : Nat} {t : Tok} {news0 : List (Addr × Obj)} (C : Cx w (Ar dp un gd fr) base fr mean mg mb s.heap) (H0 : Have s.heap news0) (D0 : DatIn news0 o (oneD ts d deep high)) (hdp : dp + 10 < 1000) (hun : un + 90 < 9900) (hl : ts.length ≤ 1000) (hw : way < 11) :
    CallSpec prog w (Ar dp un gd fr) fr base s 300 [o, .int (way : Int) t] (fun v tl => DatIn (tl ++ news0) v (oneD (wrapT way ts) (wrapDat way d) (wrapDeep way deep) (wrapHigh way high))) False := by
  match way, hw with
  | 0, _ => exact wrapped_0 C H0 D0 hdp hun hl
  | 1, _ => exact wrapped_1 C H0 D0 hdp hun hl
  | 2, _ => exact wrapped_2 C H0 D0 hdp hun hl
  | 3, _ => exact wrapped_3 C H0 D0 hdp hun hl
  | 4, _ => exact wrapped_4 C H0 D0 hdp hun hl
  | 5, _ => exact wrapped_5 C H0 D0 hdp hun hl
  | 6, _ => exact wrapped_6 C H0 D0 hdp hun hl
  | 7, _ => exact wrapped_7 C H0 D0 hdp hun hl
  | 8, _ => exact wrapped_8 C H0 D0 hdp hun hl
  | 9, _ => exact wrapped_9 C H0 D0 hdp hun hl
  | 10, _ => exact wrapped_10 C H0 D0 hdp hun hl
end
section
open PyProof
/-- tuples and lists -/
noncomputable def keepB (o : Obj) : Bool := match o.cls with
  | .type x => x == "tuple" || x == "list"
  | _ => false
noncomputable def keep (l : List (Addr × Obj)) : List (Addr × Obj) := l.filter fun p => keepB p.2
theorem memKeep {l n0 : List (Addr × Obj)} {p : Addr × Obj} (hb : keepB p.2 = true) (h : p ∈ l ++ n0) : p ∈ keep l ++ n0 :=
  List.mem_append.mpr ((List.mem_append.mp h).imp (fun h => List.mem_filter.mpr ⟨h, hb⟩) id)
mutual
theorem datKeep {l n0 : List (Addr × Obj)} : ∀ {v : Value} {d : Dat}, DatIn (l ++ n0) v d → DatIn (keep l ++ n0) v d
  | _, _, .none => .none
  | _, _, .bool _ => .bool _
  | _, _, .int _ _ => .int _ _
  | _, _, .str _ _ => .str _ _
  | _, _, .bytes _ _ => .bytes _ _
  | _, _, .tuple hm ha => .tuple (memKeep rfl hm) (datKeepAll ha)
  | _, _, .list hm ha => .list (memKeep rfl hm) (datKeepAll ha)
theorem datKeepAll {l n0 : List (Addr × Obj)} : ∀ {vs : List Value} {ds : List Dat}, DatAll (l ++ n0) vs ds → DatAll (keep l ++ n0) vs ds
  | _, _, .nil => .nil
  | _, _, .cons h r => .cons (datKeep h) (datKeepAll r)
end
section
variable {prog : Program} {w : World} {A : Around} {E : Value → Shared → Prop} {s : Shared} {env : Env} {h₀ : Heap} {x : Str} {body : List Stmt} {Q : Flow → Shared → Prop}
noncomputable def EndC (h₀ : Heap) (L : Addr) (J : (Str → Option Value) → List (Addr × Obj) → Prop) (own : List (Addr × Obj)) (s₁ s₂ : Shared) : Prop :=
  ∃ h' tk m' news', s₂ = { s₁ with heap := h', toks := tk } ∧ Fr h₀ L h' m' ∧ News h₀ L h' news' ∧ (∀ p ∈ own, p ∈ news') ∧ J m' (keep news')
noncomputable def PostC (h₀ : Heap) (L : Addr) (J : (Str → Option Value) → List (Addr × Obj) → Prop) (own : List (Addr × Obj)) (s₁ : Shared) (f : Flow) (s₂ : Shared) : Prop := f = .next ∧ EndC h₀ L J own s₁ s₂
theorem rangeC {r : Addr} {n : Nat} {k : Int} {t₀ u₀ v₀ : Tok} {m₀ : Str → Option Value} {news : List (Addr × Obj)} (J : Nat → (Str → Option Value) → List (Addr × Obj) → Prop)
    (hh : A.handled = none) (hr : IsRange s.heap r 0 k 1 t₀ u₀ v₀) (hk : k = (n : Int)) (hn : n ≤ 2 ^ 20) (F : Fr h₀ env.locals s.heap m₀) (N : News h₀ env.locals s.heap news) (hj : J 0 m₀ news)
    (turn : ∀ j t m nx h tk own, j < n → J j m nx → (∀ p ∈ own, keepB p.2 = false) → Fr h₀ env.locals h (fun z => if z = x then some (.int ((j : Nat) : Int) t) else m z) → News h₀ env.locals h (nx ++ own) →
      wpAny (model prog w) A (execs body env) (PostC h₀ env.locals (J (j + 1)) own { s with heap := h, toks := tk }) E { s with heap := h, toks := tk })
    (done : ∀ m nx h tk, J n m nx → Fr h₀ env.locals h m → News h₀ env.locals h nx → Q .next { s with heap := h, toks := tk }) :
    wpAny (model prog w) A (pyIter (.ref r)) (fun it s₂ => LoopAtV prog w A h₀ env x body Q E it s₂) E s := by
  subst hk
  have hsz : Builtin.Range.rangeSize (0 : Int) (n : Int) 1 = ((n : Nat) : Int) := by
    unfold Builtin.Range.rangeSize
    simp only [gt_iff_lt]
    (repeat' split) <;> omega
  have hsmall : Builtin.Range.small (0 : Int) (n : Int) 1 = true := by
    have fits : ∀ k : Int, 0 ≤ k → k ≤ 2 ^ 20 → Builtin.Range.rangeFitsLong k = true := fun k h1 h2 => by
      unfold Builtin.Range.rangeFitsLong
      simp only [Bool.and_eq_true, decide_eq_true_eq]
      omega
    unfold Builtin.Range.small
    rw [hsz, fits _ (by omega) (by omega), fits _ (by omega) (by omega), fits _ (by omega) (by omega), if_pos (by decide), fits _ (by omega) (by omega), Bool.or_true]
    rfl
  refine wpAny_pyIter_range hr hsmall ?_
  have W : Walks prog w A s.heap.objs.size [s.heap.objs.size] [s.heap.objs.size] n (fun j v => j < n ∧ ∃ t, v = .int ((0 : Int) + j * 1) t)
      (fun j h => IsRangeIter h s.heap.objs.size ((0 : Int) + (j : Nat) * 1) ((n : Int) - (j : Nat)) 1) := (Walks.range hh _ (0 : Int) 1 n).bound
  refine ⟨_, _, _, n, _, _, m₀, news, J, rfl, W, ?_, ?_, ?_, (by show IsRangeIter _ _ _ _ _; rw [hsz]; simpa using Heap.get?_push_size _ rfl), F.push _, (fun p hp => ⟨Heap.get?_push_of_some _ (N p hp).1, (N p hp).2⟩), hj, ?_, ?_⟩
  · intro hm
    exact absurd F.ns.lt ((List.mem_singleton.mp hm) ▸ Nat.lt_irrefl _)
  · intro b hb
    rw [List.mem_singleton.mp hb]
    exact next_is_new F
  · intro p hp hI
    exact absurd (Heap.lt_size (N p hp).1) ((List.mem_singleton.mp hI) ▸ Nat.lt_irrefl _)
  · rintro j v m₁ news₁ s₁ own ⟨hh', tk', rfl⟩ hin ⟨_, t, rfl⟩ hJ hoff hown hget hmem hst' F₁ N₁
    have N₂ : News h₀ env.locals hh' (news₁ ++ own) := fun p hp => N₁ p ((List.mem_append.mp hp).elim (fun h => List.mem_append.mpr (.inr h)) fun h => List.mem_append.mpr (.inl h))
    have hcl : ∀ p ∈ own, keepB p.2 = false := fun p hp => by
      have h1 := hget p hp
      rw [List.mem_singleton.mp (hown p hp), hst'] at h1
      rw [← Option.some.inj h1]
      rfl
    have e1 : (0 : Int) + (j : Int) * 1 = ((j : Nat) : Int) := by omega
    rw [e1] at F₁
    refine wpAny_mono (turn j t m₁ news₁ hh' tk' own hin hJ hcl F₁ N₂) (fun f s₂ p => ?_) fun _ _ e => e
    obtain ⟨rfl, h', tk, m', news', e, F', N', ho, hm⟩ := p
    refine .next ⟨rfl, h', tk, m', keep news', e, F', fun p hp => N' p ((List.mem_append.mp hp).elim (ho p) fun h => (List.mem_filter.mp h).1), fun p hp hq => ?_, hm⟩
    obtain ⟨o, hbo⟩ : ∃ o, hh'.get? s.heap.objs.size = some o := ⟨_, hst'⟩
    have h1 := hmem _ (List.mem_singleton.mpr rfl) (next_is_new F) o hbo
    have h2 := (N' _ (ho _ h1)).1
    have h3 := (N' _ (List.mem_filter.mp hp).1).1
    rw [List.mem_singleton.mp hq] at h3
    have h4 : p.2 = o := Option.some.inj (h3.symm.trans h2)
    have h5 := (List.mem_filter.mp hp).2
    rw [h4] at h5
    exact absurd ((hcl _ h1).symm.trans h5) Bool.false_ne_true
  · rintro h' tk m' news' F' N' _ hJ
    exact done m' news' h' tk hJ F' N'
end

end
noncomputable def sumT : Nat → List Tk → List Tk
  | 0, ts => ts
  | n + 1, ts => sumT n ts ++ [.plus, .nK]
noncomputable def sumD : Nat → Dat → Dat
  | 0, d => d
  | n + 1, d => dBin (Str.ofString "+") (sumD n d) dK
theorem sumT_length (n : Nat) (ts : List Tk) : (sumT n ts).length = ts.length + 2 * n := by
  induction n with
  | zero => rfl
  | succ n ih => rw [sumT, List.length_append, ih]; simp only [List.length_cons, List.length_nil]; omega
section
variable {prog : Program} {w : World} {dp un : Nat} {gd : Option (List Code)} {fr : List Env} {base : Heap} {s : Shared} {mean : ExcName → Option Value} {mg mb : Str → Option Value}
noncomputable def SumJ (news0 : List (Addr × Obj)) (vh vd vm : Value) (ts : List Tk) (d : Dat) (j : Nat) (m : Str → Option Value) (nx : List (Addr × Obj)) : Prop :=
  ∃ q tv, m (Str.ofString "row") = some (.ref q) ∧ m (Str.ofString "tree") = some tv ∧ m (Str.ofString "high") = some vh ∧ m (Str.ofString "deep") = some vd ∧ m (Str.ofString "many") = some vm ∧
    DatIn (nx ++ news0) (.ref q) (rowD (sumT j ts)) ∧ DatIn (nx ++ news0) tv (sumD j d)
theorem row_inv {n : List (Addr × Obj)} {q : Addr} {ts : List Tk} (D : DatIn n (.ref q) (rowD ts)) : ∃ vs k, (q, W.listOf vs.toArray k) ∈ n ∧ DatAll n vs (ts.map tkD) := by
  unfold rowD at D
  cases D with
  | list hm ha => exact ⟨_, _, hm, ha⟩
set_option maxHeartbeats 8000000 in
theorem summed_spec {o : Value} {ts : List Tk} {d : Dat} {deep high many : Nat} {t : Tok} {news0 : List (Addr × Obj)} (C : Cx w (Ar dp un gd fr) base fr mean mg mb s.heap) (H0 : Have s.heap news0) (D0 : DatIn news0 o (oneD ts d deep high)) (hdp : dp + 10 < 1000) (hun : un + 90 < 9900) (hl : ts.length ≤ 1000) (h0 : ¬ many = 0) (hmy : many ≤ 1000) :
    CallSpec prog w (Ar dp un gd fr) fr base s 293 [o, .int (many : Int) t] (fun v tl => DatIn (tl ++ news0) v (oneD (.lp :: (sumT many ts ++ [.rp])) (sumD many d) (deep + 1) (high + many))) False := by
  obtain ⟨o, k, r, vs, k2, tv, t1, t2, rfl, hm, hm2, hA, hD⟩ := one_inv D0
  have IT := H0.tup hm
  have hvs : vs.length = ts.length := hA.length.trans (List.length_map ..)
  refine' enter (binds := [(Str.ofString "one", .ref o), (Str.ofString "many", .int (many : Int) t)]) C ?k6 ?k7 ?k8 ?k9 ?kB ?_ ?c2 ?c3 ?c4 ?c5
  walk_at "=enter"
  intro L h₁ E hexc F N
  have X := C.X
  have T := C.T
  have B := C.B
  have e0 : (((many : Nat) : Int) == 0) = false := beq_false_of_ne (by omega)
  (k_with "=loop" => (refine Hold.out ?_))
  walk_at "=go"
  k_with_none
  k_with "=end" => (((try dsimp only); (try k_sweep); (try k_fold)))
  k_with "=enter" => (((case k6 | k7 => k_is); (case k8 => ((try dsimp only [Ar, Around.deeper]); simp only [recursionLimit]; omega)); (case k9 => exact BindsTo.of_eq rfl); (case kB => exact locs rfl); (case c2 | c3 | c4 => exact rfl); (case c5 => decide)))
  k_with "=go" => ((show wpAny _ _ _ _ _ _; k_fold; k_steps))
  k_with "=asm" => (((case B | X | F | N => k_asm); (case T | TK => with_reducible assumption); (case hdp | hun => omega); (case hk => exact rfl); k_whole))
  k_with "my call ref" => ((k_here; (with_reducible show wpAny _ _ (call (Value.ref 60) _) _ _ _); k_dflt (apply is_op_use; walk_at "=asm"); intro _ _ _ _; walk_at "=end"))
  k_with "my call ref" => ((k_here; (with_reducible show wpAny _ _ (call (Value.ref 53) _) _ _ _); k_dflt (apply kind_at_use; walk_at "=asm"); intro _ _ _ _ _; walk_at "=end"))
  k_with "=ret" => (((try dsimp only); (try (k_unfold; dsimp only)); (show Back _ _ _ _ _)))
  k_with "my call ref" => ((k_here; (with_reducible show wpAny _ _ (call (Value.ref 159) _) _ _ _); k_dflt (apply part_end_use; walk_at "=asm"); intro _ _ _ _ _; walk_at "=end"))
  k_with "my call ref" => ((k_here; (with_reducible show wpAny _ _ (call (Value.ref 96) _) _ _ _); k_dflt (apply priority_at_use; walk_at "=asm"); intro _ _ _ _ _; walk_at "=end"))
  k_with "my call ref" => ((k_here; (with_reducible show wpAny _ _ (call (Value.ref 67) _) _ _ _); k_dflt (apply need_op_use; (case ho => with_reducible assumption); walk_at "=asm"); intro _ _ _ _ _; walk_at "=end"))
  k_with "my call ref" => ((k_here; (with_reducible show wpAny _ _ (call (Value.ref 74) _) _ _ _); k_dflt (apply need_name_use; (case ho => with_reducible assumption); walk_at "=asm"); intro _ _ _ _ _ _ _; walk_at "=end"))
  k_with "my call ref" => ((k_here; (with_reducible show wpAny _ _ (call (Value.ref 166) _) _ _ _); k_dflt (apply is_complex_use; walk_at "=asm"); intro _ _ _ _; walk_at "=end"))
  k_with "my call ref" => ((k_here; (with_reducible show wpAny _ _ (call (Value.ref 44) [_]) (RaisableX _ _) _ _); k_dflt (apply call44_use; (case X => k_asm); (case T => with_reducible assumption); (case F => k_asm); (case hdp => omega); k_whole); intro _ _ _ _; (try dsimp only)))
  k_with "my call ref" => ((k_here; (with_reducible show wpAny _ _ (call (Value.ref 88) _) _ _ _); k_dflt (apply close_at_use; (case hi | hc => assumption); walk_at "=asm"); intro _ _ _ _ _; walk_at "=end"))
  k_with "my call ref" => ((k_here; (with_reducible show wpAny _ _ (call (Value.ref 187) _) _ _ _); k_dflt (apply holds_mark_use; (case ho | hb => assumption); walk_at "=asm"); intro _ _ _ _; walk_at "=end"))
  k_with "my call ref" => ((k_here; (with_reducible show wpAny _ _ (call (Value.ref 272) _) _ _ _); k_dflt (apply law_k_use; walk_at "=asm2"); (intro _ _ _ _ _ _ _ _; walk_at "=end")))
  k_with "my call ref" => ((k_here; (with_reducible show wpAny _ _ (call (Value.ref 279) _) _ _ _); k_dflt (apply law_op_use; walk_at "=asm2"); (intro _ _ _ _ _ _ _ _; walk_at "=end")))
  k_with "=lst" => (first | exact Fr.lst (by assumption) (by assumption) | exact memList (by assumption) (by k_mem) | exact memList (by assumption) (memIn (by assumption) (fun p hp => by simp only [List.mem_cons, List.mem_append, hp, true_or, or_true])))
  k_with "=len" => (((try simp only [List.length_append, List.length_cons, List.length_nil]); omega))
  k_with "my call ref" => ((k_here; (with_reducible show wpAny _ _ (call (Value.ref 286) _) _ _ _); k_dflt (apply law_in_use; walk_at "=asm2"; (case IL => walk_at "=lst"); (case hvs => walk_at "=len")); (intro _ _ _ _ _ _ _ _ _ _ _; walk_at "=end")))
  k_with "=one" => (((try dsimp only); (try (k_unfold; dsimp only)); (show Back _ _ _ _ _); (refine ⟨_, _, _, _, rfl, by assumption, NewIn.of (by assumption), ?_⟩); (simp only [wrapT, wrapDat, wrapDeep, wrapHigh, dK, oneD, rowD, dBin, dUn, dName, dRef, dSub, List.map_cons, List.map_append, List.map_nil, tkD, List.cons_append, List.nil_append, List.append_assoc, Tk.kind, Tk.isName, Tk.text, if_true, if_false, Bool.false_eq_true]); (kd_in)))
  show wpAny _ _ _ _ _ _
  refine rangeC (SumJ news0 (.int (high : Int) t2) (.int (deep : Int) t1) (.int (many : Int) t) ts d) rfl (by assumption) rfl (by omega) (by assumption) (by assumption) ?hj ?turn ?done
  case hj => exact ⟨r, tv, rfl, rfl, rfl, rfl, rfl, DatIn.list hm2 hA, hD⟩
  case turn =>
    rintro j t' m nx h tk own hj ⟨q, tv1, hq, htv, hh, hd, hmn, DR, DT⟩ hown F1 N1
    have F2 := frSet (Str.ofString "row") (frSet (Str.ofString "tree") F1 ((if_neg (by decide +kernel)).trans htv)) ((if_neg (by decide +kernel)).trans ((if_neg (by decide +kernel)).trans hq))
    obtain ⟨vs1, k1, hmx, hA1⟩ := row_inv DR
    have hvs1 : vs1.length ≤ 3000 := by
      have := hA1.length
      rw [List.length_map, sumT_length] at this
      omega
    clear F1
    rcases List.mem_append.mp hmx with hm1 | hm1
    all_goals clear hmx
    · k_steps
      refine ⟨rfl, _, _, _, _, rfl, by assumption, by assumption, fun p hp => by simp only [List.mem_cons, List.mem_append, hp, or_true], _, _, rfl, rfl, by with_unfolding_all exact hh, by with_unfolding_all exact hd, by with_unfolding_all exact hmn, ?_, ?_⟩
      · refine datKeep ?_
        simp only [sumT, rowD, List.map_cons, List.map_append, List.map_nil, tkD, List.cons_append, List.nil_append, List.append_assoc, Tk.kind, Tk.isName, Tk.text, if_true, if_false, Bool.false_eq_true]
        kd_in
      · refine datKeep ?_
        simp only [sumD, dBin, dK, dName, List.cons_append, List.append_assoc]
        kd_in
    · have IL1 : s.heap.IsList q vs1.toArray := ⟨_, H0 _ hm1, rfl, k1, rfl⟩
      k_steps
      refine ⟨rfl, _, _, _, _, rfl, by assumption, by assumption, fun p hp => by simp only [List.mem_cons, List.mem_append, hp, or_true], _, _, rfl, rfl, by with_unfolding_all exact hh, by with_unfolding_all exact hd, by with_unfolding_all exact hmn, ?_, ?_⟩
      · refine datKeep ?_
        simp only [sumT, rowD, List.map_cons, List.map_append, List.map_nil, tkD, List.cons_append, List.nil_append, List.append_assoc, Tk.kind, Tk.isName, Tk.text, if_true, if_false, Bool.false_eq_true]
        kd_in
      · refine datKeep ?_
        simp only [sumD, dBin, dK, dName, List.cons_append, List.append_assoc]
        kd_in
  case done =>
    rintro m nx h tk ⟨q, tv1, hq, htv, hh, hd, hmn, DR, DT⟩ F1 N1
    have F2 := frSet (Str.ofString "row") (frSet (Str.ofString "tree") (frSet (Str.ofString "high") (frSet (Str.ofString "deep") (frSet (Str.ofString "many") F1 hmn) hd) hh) htv) hq
    obtain ⟨vs1, k1, hmx, hA1⟩ := row_inv DR
    have hvs1 : vs1.length ≤ 3000 := by
      have := hA1.length
      rw [List.length_map, sumT_length] at this
      omega
    clear F1
    rcases List.mem_append.mp hmx with hm1 | hm1
    all_goals clear hmx
    · k_steps
      walk_at "=ret"
      refine ⟨_, _, _, _, rfl, by assumption, NewIn.of (by assumption), ?_⟩
      have hA2 := hA1
      simp only [oneD, rowD, List.map_cons, List.map_append, List.map_nil, tkD, List.cons_append, List.nil_append, List.append_assoc, Tk.kind, Tk.isName, Tk.text, if_true, if_false, Bool.false_eq_true]
      kd_in
    · have IL1 : s.heap.IsList q vs1.toArray := ⟨_, H0 _ hm1, rfl, k1, rfl⟩
      k_steps
      walk_at "=ret"
      refine ⟨_, _, _, _, rfl, by assumption, NewIn.of (by assumption), ?_⟩
      have hA2 := hA1
      simp only [oneD, rowD, List.map_cons, List.map_append, List.map_nil, tkD, List.cons_append, List.nil_append, List.append_assoc, Tk.kind, Tk.isName, Tk.text, if_true, if_false, Bool.false_eq_true]
      kd_in
end
noncomputable def lawP : { p : DefRec // defOf gen.view_1_40 (Str.ofString "law") = some (p, []) } := ⟨_, by rfl⟩
noncomputable def lawFd : DefRec := lawP.1
noncomputable def lawBody : List Stmt := lawFd.body
/-- what the law builds, and how many wraps -/
inductive Built : Nat → List Tk → Dat → Nat → Nat → Prop
  | k : Built 0 [.nK] dK 0 0
  | wrap {n : Nat} {ts : List Tk} {d : Dat} {deep high : Nat} (way : Nat) : way < 11 → Built n ts d deep high → Built (n + 1) (wrapT way ts) (wrapDat way d) (wrapDeep way deep) (wrapHigh way high)
  | sum {n : Nat} {ts : List Tk} {d : Dat} {deep high : Nat} (many : Nat) : many ≤ 101 → Built n ts d deep high → Built (n + 1) (.lp :: (sumT many ts ++ [.rp])) (sumD many d) (deep + 1) (high + many)
theorem wrapT_length (way : Nat) (ts : List Tk) : (wrapT way ts).length ≤ ts.length + 8 := by
  unfold wrapT
  split <;> simp only [List.length_cons, List.length_append, List.length_nil] <;> omega
section
variable {prog : Program} {w : World} {dp un : Nat} {gd : Option (List Code)} {fr : List Env} {base : Heap} {s : Shared} {mean : ExcName → Option Value} {mg mb : Str → Option Value}
theorem haveN {h₀ h : Heap} {L : Addr} {news : List (Addr × Obj)} (N : News h₀ L h news) : Have h news := fun p hp => (N p hp).1
theorem wrapped_use {h₀ : Heap} {L f : Addr} {m : Str → Option Value} {news : List (Addr × Obj)} {cn : Str} {cs : Scope} {cd : Value} {o : Value} {ts : List Tk} {d : Dat} {deep high way : Nat} {kw : Int} {t : Tok} {Q E : Value → Shared → Prop}
    (B : Below (Ar dp un gd fr) base fr h₀) (X : (gen.heap_1_39 w.params).In h₀) (T : Top gen.view_1_40 (looseW gen.view_1_40 [Str.ofString "PRIORITIES"]) mean mg mb h₀) (F : Fr h₀ L s.heap m) (N : News h₀ L s.heap news)
    (D0 : DatIn news o (oneD ts d deep high)) (hdp : dp + 11 < 1000) (hun : un + 93 < 9900) (hk : cs.kind = .function) (hl : ts.length ≤ 1000) (hkw : kw = (way : Int)) (hw : way < 11)
    (ret : ∀ v tl h' tk', Fr h₀ L h' m → News h₀ L h' (tl ++ news) → NewIn s.heap h' tl → DatIn (tl ++ news) v (oneD (wrapT way ts) (wrapDat way d) (wrapDeep way deep) (wrapHigh way high)) → Q v { s with heap := h', toks := tk' }) :
    wpAny (model prog w) ((Ar dp un gd fr).deeper (envOf cn cs L f cd)) (call (.ref 300) [o, .int kw t]) Q E s := by
  subst hkw
  exact CallSpec.use (wrapped_spec (Cx.inn (a := f) (cd := cd) B X T F hk) (haveN N) D0 (by omega) (by omega) hl hw) F N ret fun x => x.elim
/-- where the law stands -/
noncomputable def LJ (b : Bool) (ns : List Int) (p N len : Nat) (m : Str → Option Value) (news : List (Addr × Obj)) : Prop :=
  ∃ c ws k tp v n ts d deep high, m (Str.ofString "cells") = some (.ref c) ∧ (c, W.listOf ws.toArray k) ∈ news ∧ IntsAre ws ns ∧ m (Str.ofString "plain") = some (.int ((p : Nat) : Int) tp) ∧ m (Str.ofString "is_inner") = some (.bool b) ∧
    m (Str.ofString "one") = some v ∧ DatIn news v (oneD ts d deep high) ∧ Built n ts d deep high ∧ n ≤ N ∧ ts.length ≤ len
noncomputable def LPost (s : Shared) (h₀ : Heap) (L : Addr) (J : (Str → Option Value) → List (Addr × Obj) → Prop) (f : Flow) (s' : Shared) : Prop :=
  f = .next ∧ ∃ h tk m news, s' = { s with heap := h, toks := tk } ∧ Fr h₀ L h m ∧ News h₀ L h news ∧ J m news

noncomputable abbrev LE (L fa : Addr) (cd : Value) : Env := envOf lawFd.name lawFd.scope L fa cd
abbrev POwn (prog : Program) (w : World) (L fa : Addr) (cd : Value) (E : Value → Shared → Prop) : Prop := PassesOwn (model prog w) ((Ar 301 4 (some []) []).deeper (LE L fa cd)) (LE L fa cd) E
theorem LJ.mono {b : Bool} {ns : List Int} {p N N' len len' : Nat} {m : Str → Option Value} {news : List (Addr × Obj)} (h : LJ b ns p N len m news) (h1 : N ≤ N') (h2 : len ≤ len') : LJ b ns p N' len' m news := by
  obtain ⟨c, ws, k, tp, v, n, ts, d, deep, high, hc, hcn, hI, hpl, hin, hone, hD, hB, hn, hts⟩ := h
  exact ⟨c, ws, k, tp, v, n, ts, d, deep, high, hc, hcn, hI, hpl, hin, hone, hD, hB, Nat.le_trans hn h1, Nat.le_trans hts h2⟩
theorem datKeep0 {l : List (Addr × Obj)} {v : Value} {d : Dat} (h : DatIn l v d) : DatIn (keep l) v d := by
  have := datKeep (l := l) (n0 := []) (by simpa using h)
  simpa using this
end
theorem word22 : True := by
  k_with "my call ref" => ((k_here; (with_reducible first | show wpAny _ _ (call (Value.ref 300) _) _ _ _ | show wpAny _ _ (call (Value.ref 293) _) _ _ _ | show wpAny _ _ (call (Value.ref 307) _) _ _ _ | show wpAny _ _ (call (Value.ref 314) _) _ _ _); refine Hold.out ?_))
  trivial
section
variable {prog : Program} {w : World} {dp un : Nat} {gd : Option (List Code)} {fr : List Env} {base : Heap} {s : Shared} {mean : ExcName → Option Value} {mg mb : Str → Option Value}
end
theorem word23 : True := by
  k_with "=lj" => ((first | with_unfolding_all rfl | with_unfolding_all assumption))
  trivial
section
variable {prog : Program} {w : World} {dp un : Nat} {gd : Option (List Code)} {fr : List Env} {base : Heap} {s : Shared} {mean : ExcName → Option Value} {mg mb : Str → Option Value}
set_option maxHeartbeats 8000000 in
theorem seg2 {h₀ : Heap} {L fa : Addr} {cd : Value} {b : Bool} {ns : List Int} {p N len : Nat} {m : Str → Option Value} {news : List (Addr × Obj)} {E : Value → Shared → Prop} (hE : POwn prog w L fa cd E)
    (B : Below (Ar 301 4 (some []) []) base [] h₀) (X : (gen.heap_1_39 w.params).In h₀) (T : Top gen.view_1_40 (looseW gen.view_1_40 [Str.ofString "PRIORITIES"]) mean mg mb h₀) (F : Fr h₀ L s.heap m) (NN : News h₀ L s.heap news) (hJ : LJ b ns p N len m news) (hp : p ≤ 41) (hlen : len ≤ 500) :
    wpAny (model prog w) ((Ar 301 4 (some []) []).deeper (LE L fa cd)) (execs ((lawBody.drop 4).take 1) (LE L fa cd)) (LPost s h₀ L (LJ b ns p (if b then N + 41 else N) (len + 328))) E s := by
  unfold POwn at hE
  unfold LE at hE ⊢
  dsimp only [lawBody, lawFd, lawP, List.drop, List.take] at hE ⊢
  obtain ⟨c, ws, k, tp, v, n, ts, d, deep, high, hc, hcn, hI, hpl, hin, hone, hD, hB, hn, hts⟩ := hJ
  have F2 := frSet (Str.ofString "one") (frSet (Str.ofString "is_inner") (frSet (Str.ofString "plain") (frSet (Str.ofString "cells") F hc) hpl) hin) hone
  clear F
  (k_with "=loop" => (refine Hold.out ?_))
  cases b with
  | true =>
    walk_at "=go"
    k_with_none
    k_with "=end" => (((try dsimp only); (try k_sweep); (try k_fold)))
    k_with "=enter" => (((case k6 | k7 => k_is); (case k8 => ((try dsimp only [Ar, Around.deeper]); simp only [recursionLimit]; omega)); (case k9 => exact BindsTo.of_eq rfl); (case kB => exact locs rfl); (case c2 | c3 | c4 => exact rfl); (case c5 => decide)))
    k_with "=go" => ((show wpAny _ _ _ _ _ _; k_fold; k_steps))
    k_with "=asm" => (((case B | X | F | N => k_asm); (case T | TK => with_reducible assumption); (case hdp | hun => omega); (case hk => exact rfl); k_whole))
    k_with "my call ref" => ((k_here; (with_reducible show wpAny _ _ (call (Value.ref 60) _) _ _ _); k_dflt (apply is_op_use; walk_at "=asm"); intro _ _ _ _; walk_at "=end"))
    k_with "my call ref" => ((k_here; (with_reducible show wpAny _ _ (call (Value.ref 53) _) _ _ _); k_dflt (apply kind_at_use; walk_at "=asm"); intro _ _ _ _ _; walk_at "=end"))
    k_with "=ret" => (((try dsimp only); (try (k_unfold; dsimp only)); (show Back _ _ _ _ _)))
    k_with "my call ref" => ((k_here; (with_reducible show wpAny _ _ (call (Value.ref 159) _) _ _ _); k_dflt (apply part_end_use; walk_at "=asm"); intro _ _ _ _ _; walk_at "=end"))
    k_with "my call ref" => ((k_here; (with_reducible show wpAny _ _ (call (Value.ref 96) _) _ _ _); k_dflt (apply priority_at_use; walk_at "=asm"); intro _ _ _ _ _; walk_at "=end"))
    k_with "my call ref" => ((k_here; (with_reducible show wpAny _ _ (call (Value.ref 67) _) _ _ _); k_dflt (apply need_op_use; (case ho => with_reducible assumption); walk_at "=asm"); intro _ _ _ _ _; walk_at "=end"))
    k_with "my call ref" => ((k_here; (with_reducible show wpAny _ _ (call (Value.ref 74) _) _ _ _); k_dflt (apply need_name_use; (case ho => with_reducible assumption); walk_at "=asm"); intro _ _ _ _ _ _ _; walk_at "=end"))
    k_with "my call ref" => ((k_here; (with_reducible show wpAny _ _ (call (Value.ref 166) _) _ _ _); k_dflt (apply is_complex_use; walk_at "=asm"); intro _ _ _ _; walk_at "=end"))
    k_with "my call ref" => ((k_here; (with_reducible show wpAny _ _ (call (Value.ref 44) [_]) (RaisableX _ _) _ _); k_dflt (apply call44_use; (case X => k_asm); (case T => with_reducible assumption); (case F => k_asm); (case hdp => omega); k_whole); intro _ _ _ _; (try dsimp only)))
    k_with "my call ref" => ((k_here; (with_reducible show wpAny _ _ (call (Value.ref 88) _) _ _ _); k_dflt (apply close_at_use; (case hi | hc => assumption); walk_at "=asm"); intro _ _ _ _ _; walk_at "=end"))
    k_with "my call ref" => ((k_here; (with_reducible show wpAny _ _ (call (Value.ref 187) _) _ _ _); k_dflt (apply holds_mark_use; (case ho | hb => assumption); walk_at "=asm"); intro _ _ _ _; walk_at "=end"))
    k_with "my call ref" => ((k_here; (with_reducible show wpAny _ _ (call (Value.ref 272) _) _ _ _); k_dflt (apply law_k_use; walk_at "=asm2"); (intro _ _ _ _ _ _ _ _; walk_at "=end")))
    k_with "my call ref" => ((k_here; (with_reducible show wpAny _ _ (call (Value.ref 279) _) _ _ _); k_dflt (apply law_op_use; walk_at "=asm2"); (intro _ _ _ _ _ _ _ _; walk_at "=end")))
    k_with "=lst" => (first | exact Fr.lst (by assumption) (by assumption) | exact memList (by assumption) (by k_mem) | exact memList (by assumption) (memIn (by assumption) (fun p hp => by simp only [List.mem_cons, List.mem_append, hp, true_or, or_true])))
    k_with "=len" => (((try simp only [List.length_append, List.length_cons, List.length_nil]); omega))
    k_with "my call ref" => ((k_here; (with_reducible show wpAny _ _ (call (Value.ref 286) _) _ _ _); k_dflt (apply law_in_use; walk_at "=asm2"; (case IL => walk_at "=lst"); (case hvs => walk_at "=len")); (intro _ _ _ _ _ _ _ _ _ _ _; walk_at "=end")))
    k_with "=one" => (((try dsimp only); (try (k_unfold; dsimp only)); (show Back _ _ _ _ _); (refine ⟨_, _, _, _, rfl, by assumption, NewIn.of (by assumption), ?_⟩); (simp only [wrapT, wrapDat, wrapDeep, wrapHigh, dK, oneD, rowD, dBin, dUn, dName, dRef, dSub, List.map_cons, List.map_append, List.map_nil, tkD, List.cons_append, List.nil_append, List.append_assoc, Tk.kind, Tk.isName, Tk.text, if_true, if_false, Bool.false_eq_true]); (kd_in)))
    k_with "my call ref" => ((k_here; (with_reducible first | show wpAny _ _ (call (Value.ref 300) _) _ _ _ | show wpAny _ _ (call (Value.ref 293) _) _ _ _ | show wpAny _ _ (call (Value.ref 307) _) _ _ _ | show wpAny _ _ (call (Value.ref 314) _) _ _ _); refine Hold.out ?_))
    k_with "=lj" => ((first | with_unfolding_all rfl | with_unfolding_all assumption))
    show wpAny _ _ _ _ _ _
    refine rangeC (fun j => LJ true ns p (N + j) (len + 8 * j)) rfl (by assumption) rfl (by omega) (by assumption) (by assumption) ?hj ?turn ?done
    case hj => exact ⟨c, ws, k, tp, v, n, ts, d, deep, high, rfl, hcn, hI, rfl, rfl, rfl, hD, hB, hn, hts⟩
    case turn =>
      clear hc hcn hI hpl hin hone hD hB hn hts
      rintro j t' m nx h tk own hj ⟨c, ws, k, tp, v, n, ts, d, deep, high, hc, hcn, hI, hpl, hin, hone, hD, hB, hn, hts⟩ hown F1 N1
      have F2 := frSet (Str.ofString "one") F1 ((if_neg (by decide +kernel)).trans hone)
      clear F1
      k_steps
      show wpAny _ _ _ _ _ _
      refine wrapped_use (way := 0) (news := nx ++ own) B X T (by assumption) (by assumption) (hD.mono fun p hp => List.mem_append.mpr (.inl hp)) (by omega) (by omega) rfl (by omega) rfl (by omega) ?_
      intro v' tl h' tk' F' N' NI DD
      k_steps
      refine ⟨rfl, _, _, _, _, rfl, by assumption, by assumption, fun p hp => by simp only [List.mem_append, hp, or_true], ?_⟩
      exact ⟨c, ws, k, tp, v', n + 1, _, _, _, _, by with_unfolding_all exact hc, List.mem_filter.mpr ⟨by simp only [List.mem_append, hcn, true_or, or_true], rfl⟩, hI, by with_unfolding_all exact hpl, by with_unfolding_all exact hin, rfl, datKeep0 DD, Built.wrap 0 (by omega) hB, by omega, by have := wrapT_length 0 ts; omega⟩
    case done =>
      rintro m nx h tk hJ F1 N1
      k_steps
      exact ⟨rfl, _, _, m, nx, rfl, by assumption, by assumption, hJ.mono (by simp only [if_true]; omega) (by omega)⟩
  | false =>
    walk_at "=go"
    k_with_none
    k_with "=end" => (((try dsimp only); (try k_sweep); (try k_fold)))
    k_with "=enter" => (((case k6 | k7 => k_is); (case k8 => ((try dsimp only [Ar, Around.deeper]); simp only [recursionLimit]; omega)); (case k9 => exact BindsTo.of_eq rfl); (case kB => exact locs rfl); (case c2 | c3 | c4 => exact rfl); (case c5 => decide)))
    k_with "=go" => ((show wpAny _ _ _ _ _ _; k_fold; k_steps))
    k_with "=asm" => (((case B | X | F | N => k_asm); (case T | TK => with_reducible assumption); (case hdp | hun => omega); (case hk => exact rfl); k_whole))
    k_with "my call ref" => ((k_here; (with_reducible show wpAny _ _ (call (Value.ref 60) _) _ _ _); k_dflt (apply is_op_use; walk_at "=asm"); intro _ _ _ _; walk_at "=end"))
    k_with "my call ref" => ((k_here; (with_reducible show wpAny _ _ (call (Value.ref 53) _) _ _ _); k_dflt (apply kind_at_use; walk_at "=asm"); intro _ _ _ _ _; walk_at "=end"))
    k_with "=ret" => (((try dsimp only); (try (k_unfold; dsimp only)); (show Back _ _ _ _ _)))
    k_with "my call ref" => ((k_here; (with_reducible show wpAny _ _ (call (Value.ref 159) _) _ _ _); k_dflt (apply part_end_use; walk_at "=asm"); intro _ _ _ _ _; walk_at "=end"))
    k_with "my call ref" => ((k_here; (with_reducible show wpAny _ _ (call (Value.ref 96) _) _ _ _); k_dflt (apply priority_at_use; walk_at "=asm"); intro _ _ _ _ _; walk_at "=end"))
    k_with "my call ref" => ((k_here; (with_reducible show wpAny _ _ (call (Value.ref 67) _) _ _ _); k_dflt (apply need_op_use; (case ho => with_reducible assumption); walk_at "=asm"); intro _ _ _ _ _; walk_at "=end"))
    k_with "my call ref" => ((k_here; (with_reducible show wpAny _ _ (call (Value.ref 74) _) _ _ _); k_dflt (apply need_name_use; (case ho => with_reducible assumption); walk_at "=asm"); intro _ _ _ _ _ _ _; walk_at "=end"))
    k_with "my call ref" => ((k_here; (with_reducible show wpAny _ _ (call (Value.ref 166) _) _ _ _); k_dflt (apply is_complex_use; walk_at "=asm"); intro _ _ _ _; walk_at "=end"))
    k_with "my call ref" => ((k_here; (with_reducible show wpAny _ _ (call (Value.ref 44) [_]) (RaisableX _ _) _ _); k_dflt (apply call44_use; (case X => k_asm); (case T => with_reducible assumption); (case F => k_asm); (case hdp => omega); k_whole); intro _ _ _ _; (try dsimp only)))
    k_with "my call ref" => ((k_here; (with_reducible show wpAny _ _ (call (Value.ref 88) _) _ _ _); k_dflt (apply close_at_use; (case hi | hc => assumption); walk_at "=asm"); intro _ _ _ _ _; walk_at "=end"))
    k_with "my call ref" => ((k_here; (with_reducible show wpAny _ _ (call (Value.ref 187) _) _ _ _); k_dflt (apply holds_mark_use; (case ho | hb => assumption); walk_at "=asm"); intro _ _ _ _; walk_at "=end"))
    k_with "my call ref" => ((k_here; (with_reducible show wpAny _ _ (call (Value.ref 272) _) _ _ _); k_dflt (apply law_k_use; walk_at "=asm2"); (intro _ _ _ _ _ _ _ _; walk_at "=end")))
    k_with "my call ref" => ((k_here; (with_reducible show wpAny _ _ (call (Value.ref 279) _) _ _ _); k_dflt (apply law_op_use; walk_at "=asm2"); (intro _ _ _ _ _ _ _ _; walk_at "=end")))
    k_with "=lst" => (first | exact Fr.lst (by assumption) (by assumption) | exact memList (by assumption) (by k_mem) | exact memList (by assumption) (memIn (by assumption) (fun p hp => by simp only [List.mem_cons, List.mem_append, hp, true_or, or_true])))
    k_with "=len" => (((try simp only [List.length_append, List.length_cons, List.length_nil]); omega))
    k_with "my call ref" => ((k_here; (with_reducible show wpAny _ _ (call (Value.ref 286) _) _ _ _); k_dflt (apply law_in_use; walk_at "=asm2"; (case IL => walk_at "=lst"); (case hvs => walk_at "=len")); (intro _ _ _ _ _ _ _ _ _ _ _; walk_at "=end")))
    k_with "=one" => (((try dsimp only); (try (k_unfold; dsimp only)); (show Back _ _ _ _ _); (refine ⟨_, _, _, _, rfl, by assumption, NewIn.of (by assumption), ?_⟩); (simp only [wrapT, wrapDat, wrapDeep, wrapHigh, dK, oneD, rowD, dBin, dUn, dName, dRef, dSub, List.map_cons, List.map_append, List.map_nil, tkD, List.cons_append, List.nil_append, List.append_assoc, Tk.kind, Tk.isName, Tk.text, if_true, if_false, Bool.false_eq_true]); (kd_in)))
    k_with "my call ref" => ((k_here; (with_reducible first | show wpAny _ _ (call (Value.ref 300) _) _ _ _ | show wpAny _ _ (call (Value.ref 293) _) _ _ _ | show wpAny _ _ (call (Value.ref 307) _) _ _ _ | show wpAny _ _ (call (Value.ref 314) _) _ _ _); refine Hold.out ?_))
    k_with "=lj" => ((first | with_unfolding_all rfl | with_unfolding_all assumption))
    exact ⟨rfl, _, _, _, _, rfl, by assumption, by assumption, c, ws, k, tp, v, n, ts, d, deep, high, rfl, hcn, hI, rfl, rfl, rfl, hD, hB, hn, by omega⟩
end
section
variable {prog : Program} {w : World} {dp un : Nat} {gd : Option (List Code)} {fr : List Env} {base : Heap} {s : Shared} {mean : ExcName → Option Value} {mg mb : Str → Option Value}
set_option maxHeartbeats 8000000 in
theorem seg7 {h₀ : Heap} {L fa : Addr} {cd : Value} {b : Bool} {ns : List Int} {p N len : Nat} {m : Str → Option Value} {news : List (Addr × Obj)} {E : Value → Shared → Prop} (hE : POwn prog w L fa cd E)
    (B : Below (Ar 301 4 (some []) []) base [] h₀) (X : (gen.heap_1_39 w.params).In h₀) (T : Top gen.view_1_40 (looseW gen.view_1_40 [Str.ofString "PRIORITIES"]) mean mg mb h₀) (F : Fr h₀ L s.heap m) (NN : News h₀ L s.heap news) (hJ : LJ b ns p N len m news) (hp : p ≤ 41) (hlen : len ≤ 600) :
    wpAny (model prog w) ((Ar 301 4 (some []) []).deeper (LE L fa cd)) (execs ((lawBody.drop 7).take 1) (LE L fa cd)) (LPost s h₀ L (LJ b ns p (if b then N else N + 41) (len + 328))) E s := by
  unfold POwn at hE
  unfold LE at hE ⊢
  dsimp only [lawBody, lawFd, lawP, List.drop, List.take] at hE ⊢
  obtain ⟨c, ws, k, tp, v, n, ts, d, deep, high, hc, hcn, hI, hpl, hin, hone, hD, hB, hn, hts⟩ := hJ
  have F2 := frSet (Str.ofString "one") (frSet (Str.ofString "is_inner") (frSet (Str.ofString "plain") (frSet (Str.ofString "cells") F hc) hpl) hin) hone
  clear F
  (k_with "=loop" => (refine Hold.out ?_))
  cases b with
  | false =>
    walk_at "=go"
    k_with_none
    k_with "=end" => (((try dsimp only); (try k_sweep); (try k_fold)))
    k_with "=enter" => (((case k6 | k7 => k_is); (case k8 => ((try dsimp only [Ar, Around.deeper]); simp only [recursionLimit]; omega)); (case k9 => exact BindsTo.of_eq rfl); (case kB => exact locs rfl); (case c2 | c3 | c4 => exact rfl); (case c5 => decide)))
    k_with "=go" => ((show wpAny _ _ _ _ _ _; k_fold; k_steps))
    k_with "=asm" => (((case B | X | F | N => k_asm); (case T | TK => with_reducible assumption); (case hdp | hun => omega); (case hk => exact rfl); k_whole))
    k_with "my call ref" => ((k_here; (with_reducible show wpAny _ _ (call (Value.ref 60) _) _ _ _); k_dflt (apply is_op_use; walk_at "=asm"); intro _ _ _ _; walk_at "=end"))
    k_with "my call ref" => ((k_here; (with_reducible show wpAny _ _ (call (Value.ref 53) _) _ _ _); k_dflt (apply kind_at_use; walk_at "=asm"); intro _ _ _ _ _; walk_at "=end"))
    k_with "=ret" => (((try dsimp only); (try (k_unfold; dsimp only)); (show Back _ _ _ _ _)))
    k_with "my call ref" => ((k_here; (with_reducible show wpAny _ _ (call (Value.ref 159) _) _ _ _); k_dflt (apply part_end_use; walk_at "=asm"); intro _ _ _ _ _; walk_at "=end"))
    k_with "my call ref" => ((k_here; (with_reducible show wpAny _ _ (call (Value.ref 96) _) _ _ _); k_dflt (apply priority_at_use; walk_at "=asm"); intro _ _ _ _ _; walk_at "=end"))
    k_with "my call ref" => ((k_here; (with_reducible show wpAny _ _ (call (Value.ref 67) _) _ _ _); k_dflt (apply need_op_use; (case ho => with_reducible assumption); walk_at "=asm"); intro _ _ _ _ _; walk_at "=end"))
    k_with "my call ref" => ((k_here; (with_reducible show wpAny _ _ (call (Value.ref 74) _) _ _ _); k_dflt (apply need_name_use; (case ho => with_reducible assumption); walk_at "=asm"); intro _ _ _ _ _ _ _; walk_at "=end"))
    k_with "my call ref" => ((k_here; (with_reducible show wpAny _ _ (call (Value.ref 166) _) _ _ _); k_dflt (apply is_complex_use; walk_at "=asm"); intro _ _ _ _; walk_at "=end"))
    k_with "my call ref" => ((k_here; (with_reducible show wpAny _ _ (call (Value.ref 44) [_]) (RaisableX _ _) _ _); k_dflt (apply call44_use; (case X => k_asm); (case T => with_reducible assumption); (case F => k_asm); (case hdp => omega); k_whole); intro _ _ _ _; (try dsimp only)))
    k_with "my call ref" => ((k_here; (with_reducible show wpAny _ _ (call (Value.ref 88) _) _ _ _); k_dflt (apply close_at_use; (case hi | hc => assumption); walk_at "=asm"); intro _ _ _ _ _; walk_at "=end"))
    k_with "my call ref" => ((k_here; (with_reducible show wpAny _ _ (call (Value.ref 187) _) _ _ _); k_dflt (apply holds_mark_use; (case ho | hb => assumption); walk_at "=asm"); intro _ _ _ _; walk_at "=end"))
    k_with "my call ref" => ((k_here; (with_reducible show wpAny _ _ (call (Value.ref 272) _) _ _ _); k_dflt (apply law_k_use; walk_at "=asm2"); (intro _ _ _ _ _ _ _ _; walk_at "=end")))
    k_with "my call ref" => ((k_here; (with_reducible show wpAny _ _ (call (Value.ref 279) _) _ _ _); k_dflt (apply law_op_use; walk_at "=asm2"); (intro _ _ _ _ _ _ _ _; walk_at "=end")))
    k_with "=lst" => (first | exact Fr.lst (by assumption) (by assumption) | exact memList (by assumption) (by k_mem) | exact memList (by assumption) (memIn (by assumption) (fun p hp => by simp only [List.mem_cons, List.mem_append, hp, true_or, or_true])))
    k_with "=len" => (((try simp only [List.length_append, List.length_cons, List.length_nil]); omega))
    k_with "my call ref" => ((k_here; (with_reducible show wpAny _ _ (call (Value.ref 286) _) _ _ _); k_dflt (apply law_in_use; walk_at "=asm2"; (case IL => walk_at "=lst"); (case hvs => walk_at "=len")); (intro _ _ _ _ _ _ _ _ _ _ _; walk_at "=end")))
    k_with "=one" => (((try dsimp only); (try (k_unfold; dsimp only)); (show Back _ _ _ _ _); (refine ⟨_, _, _, _, rfl, by assumption, NewIn.of (by assumption), ?_⟩); (simp only [wrapT, wrapDat, wrapDeep, wrapHigh, dK, oneD, rowD, dBin, dUn, dName, dRef, dSub, List.map_cons, List.map_append, List.map_nil, tkD, List.cons_append, List.nil_append, List.append_assoc, Tk.kind, Tk.isName, Tk.text, if_true, if_false, Bool.false_eq_true]); (kd_in)))
    k_with "my call ref" => ((k_here; (with_reducible first | show wpAny _ _ (call (Value.ref 300) _) _ _ _ | show wpAny _ _ (call (Value.ref 293) _) _ _ _ | show wpAny _ _ (call (Value.ref 307) _) _ _ _ | show wpAny _ _ (call (Value.ref 314) _) _ _ _); refine Hold.out ?_))
    k_with "=lj" => ((first | with_unfolding_all rfl | with_unfolding_all assumption))
    show wpAny _ _ _ _ _ _
    refine rangeC (fun j => LJ false ns p (N + j) (len + 8 * j)) rfl (by assumption) rfl (by omega) (by assumption) (by assumption) ?hj ?turn ?done
    case hj => exact ⟨c, ws, k, tp, v, n, ts, d, deep, high, rfl, hcn, hI, rfl, rfl, rfl, hD, hB, hn, hts⟩
    case turn =>
      clear hc hcn hI hpl hin hone hD hB hn hts
      rintro j t' m nx h tk own hj ⟨c, ws, k, tp, v, n, ts, d, deep, high, hc, hcn, hI, hpl, hin, hone, hD, hB, hn, hts⟩ hown F1 N1
      have F2 := frSet (Str.ofString "one") F1 ((if_neg (by decide +kernel)).trans hone)
      clear F1
      k_steps
      show wpAny _ _ _ _ _ _
      refine wrapped_use (way := 0) (news := nx ++ own) B X T (by assumption) (by assumption) (hD.mono fun p hp => List.mem_append.mpr (.inl hp)) (by omega) (by omega) rfl (by omega) rfl (by omega) ?_
      intro v' tl h' tk' F' N' NI DD
      k_steps
      refine ⟨rfl, _, _, _, _, rfl, by assumption, by assumption, fun p hp => by simp only [List.mem_append, hp, or_true], ?_⟩
      exact ⟨c, ws, k, tp, v', n + 1, _, _, _, _, by with_unfolding_all exact hc, List.mem_filter.mpr ⟨by simp only [List.mem_append, hcn, true_or, or_true], rfl⟩, hI, by with_unfolding_all exact hpl, by with_unfolding_all exact hin, rfl, datKeep0 DD, Built.wrap 0 (by omega) hB, by omega, by have := wrapT_length 0 ts; omega⟩
    case done =>
      rintro m nx h tk hJ F1 N1
      k_steps
      exact ⟨rfl, _, _, m, nx, rfl, by assumption, by assumption, hJ.mono (by simp only [Bool.false_eq_true, if_false]; omega) (by omega)⟩
  | true =>
    walk_at "=go"
    k_with_none
    k_with "=end" => (((try dsimp only); (try k_sweep); (try k_fold)))
    k_with "=enter" => (((case k6 | k7 => k_is); (case k8 => ((try dsimp only [Ar, Around.deeper]); simp only [recursionLimit]; omega)); (case k9 => exact BindsTo.of_eq rfl); (case kB => exact locs rfl); (case c2 | c3 | c4 => exact rfl); (case c5 => decide)))
    k_with "=go" => ((show wpAny _ _ _ _ _ _; k_fold; k_steps))
    k_with "=asm" => (((case B | X | F | N => k_asm); (case T | TK => with_reducible assumption); (case hdp | hun => omega); (case hk => exact rfl); k_whole))
    k_with "my call ref" => ((k_here; (with_reducible show wpAny _ _ (call (Value.ref 60) _) _ _ _); k_dflt (apply is_op_use; walk_at "=asm"); intro _ _ _ _; walk_at "=end"))
    k_with "my call ref" => ((k_here; (with_reducible show wpAny _ _ (call (Value.ref 53) _) _ _ _); k_dflt (apply kind_at_use; walk_at "=asm"); intro _ _ _ _ _; walk_at "=end"))
    k_with "=ret" => (((try dsimp only); (try (k_unfold; dsimp only)); (show Back _ _ _ _ _)))
    k_with "my call ref" => ((k_here; (with_reducible show wpAny _ _ (call (Value.ref 159) _) _ _ _); k_dflt (apply part_end_use; walk_at "=asm"); intro _ _ _ _ _; walk_at "=end"))
    k_with "my call ref" => ((k_here; (with_reducible show wpAny _ _ (call (Value.ref 96) _) _ _ _); k_dflt (apply priority_at_use; walk_at "=asm"); intro _ _ _ _ _; walk_at "=end"))
    k_with "my call ref" => ((k_here; (with_reducible show wpAny _ _ (call (Value.ref 67) _) _ _ _); k_dflt (apply need_op_use; (case ho => with_reducible assumption); walk_at "=asm"); intro _ _ _ _ _; walk_at "=end"))
    k_with "my call ref" => ((k_here; (with_reducible show wpAny _ _ (call (Value.ref 74) _) _ _ _); k_dflt (apply need_name_use; (case ho => with_reducible assumption); walk_at "=asm"); intro _ _ _ _ _ _ _; walk_at "=end"))
    k_with "my call ref" => ((k_here; (with_reducible show wpAny _ _ (call (Value.ref 166) _) _ _ _); k_dflt (apply is_complex_use; walk_at "=asm"); intro _ _ _ _; walk_at "=end"))
    k_with "my call ref" => ((k_here; (with_reducible show wpAny _ _ (call (Value.ref 44) [_]) (RaisableX _ _) _ _); k_dflt (apply call44_use; (case X => k_asm); (case T => with_reducible assumption); (case F => k_asm); (case hdp => omega); k_whole); intro _ _ _ _; (try dsimp only)))
    k_with "my call ref" => ((k_here; (with_reducible show wpAny _ _ (call (Value.ref 88) _) _ _ _); k_dflt (apply close_at_use; (case hi | hc => assumption); walk_at "=asm"); intro _ _ _ _ _; walk_at "=end"))
    k_with "my call ref" => ((k_here; (with_reducible show wpAny _ _ (call (Value.ref 187) _) _ _ _); k_dflt (apply holds_mark_use; (case ho | hb => assumption); walk_at "=asm"); intro _ _ _ _; walk_at "=end"))
    k_with "my call ref" => ((k_here; (with_reducible show wpAny _ _ (call (Value.ref 272) _) _ _ _); k_dflt (apply law_k_use; walk_at "=asm2"); (intro _ _ _ _ _ _ _ _; walk_at "=end")))
    k_with "my call ref" => ((k_here; (with_reducible show wpAny _ _ (call (Value.ref 279) _) _ _ _); k_dflt (apply law_op_use; walk_at "=asm2"); (intro _ _ _ _ _ _ _ _; walk_at "=end")))
    k_with "=lst" => (first | exact Fr.lst (by assumption) (by assumption) | exact memList (by assumption) (by k_mem) | exact memList (by assumption) (memIn (by assumption) (fun p hp => by simp only [List.mem_cons, List.mem_append, hp, true_or, or_true])))
    k_with "=len" => (((try simp only [List.length_append, List.length_cons, List.length_nil]); omega))
    k_with "my call ref" => ((k_here; (with_reducible show wpAny _ _ (call (Value.ref 286) _) _ _ _); k_dflt (apply law_in_use; walk_at "=asm2"; (case IL => walk_at "=lst"); (case hvs => walk_at "=len")); (intro _ _ _ _ _ _ _ _ _ _ _; walk_at "=end")))
    k_with "=one" => (((try dsimp only); (try (k_unfold; dsimp only)); (show Back _ _ _ _ _); (refine ⟨_, _, _, _, rfl, by assumption, NewIn.of (by assumption), ?_⟩); (simp only [wrapT, wrapDat, wrapDeep, wrapHigh, dK, oneD, rowD, dBin, dUn, dName, dRef, dSub, List.map_cons, List.map_append, List.map_nil, tkD, List.cons_append, List.nil_append, List.append_assoc, Tk.kind, Tk.isName, Tk.text, if_true, if_false, Bool.false_eq_true]); (kd_in)))
    k_with "my call ref" => ((k_here; (with_reducible first | show wpAny _ _ (call (Value.ref 300) _) _ _ _ | show wpAny _ _ (call (Value.ref 293) _) _ _ _ | show wpAny _ _ (call (Value.ref 307) _) _ _ _ | show wpAny _ _ (call (Value.ref 314) _) _ _ _); refine Hold.out ?_))
    k_with "=lj" => ((first | with_unfolding_all rfl | with_unfolding_all assumption))
    exact ⟨rfl, _, _, _, _, rfl, by assumption, by assumption, c, ws, k, tp, v, n, ts, d, deep, high, rfl, hcn, hI, rfl, rfl, rfl, hD, hB, hn, by omega⟩
theorem wrapped_use2 {h₀ : Heap} {L f : Addr} {m : Str → Option Value} {news news0 : List (Addr × Obj)} {cn : Str} {cs : Scope} {cd : Value} {o : Value} {ts : List Tk} {d : Dat} {deep high way : Nat} {kw : Int} {t : Tok} {Q E : Value → Shared → Prop}
    (B : Below (Ar dp un gd fr) base fr h₀) (X : (gen.heap_1_39 w.params).In h₀) (T : Top gen.view_1_40 (looseW gen.view_1_40 [Str.ofString "PRIORITIES"]) mean mg mb h₀) (F : Fr h₀ L s.heap m) (N : News h₀ L s.heap news)
    (hs : ∀ p ∈ news0, p ∈ news) (D0 : DatIn news0 o (oneD ts d deep high)) (hdp : dp + 11 < 1000) (hun : un + 93 < 9900) (hk : cs.kind = .function) (hl : ts.length ≤ 1000) (hkw : kw = (way : Int)) (hw : way < 11)
    (ret : ∀ v tl h' tk', Fr h₀ L h' m → News h₀ L h' (tl ++ news) → NewIn s.heap h' tl → DatIn (tl ++ news0) v (oneD (wrapT way ts) (wrapDat way d) (wrapDeep way deep) (wrapHigh way high)) → Q v { s with heap := h', toks := tk' }) :
    wpAny (model prog w) ((Ar dp un gd fr).deeper (envOf cn cs L f cd)) (call (.ref 300) [o, .int kw t]) Q E s := by
  subst hkw
  exact CallSpec.use (wrapped_spec (Cx.inn (a := f) (cd := cd) B X T F hk) (fun p hp => haveN N p (hs p hp)) D0 (by omega) (by omega) hl hw) F N ret fun x => x.elim
theorem len_ints {h₀ : Heap} {L : Addr} {news : List (Addr × Obj)} {A : Around} {c : Addr} {ws : List Value} {k : Nat} {ns : List Int} {Q E : Value → Shared → Prop} (N : News h₀ L s.heap news) (hm : (c, W.listOf ws.toArray k) ∈ news) (hI : IntsAre ws ns) (hl : ns.length ≤ 2 ^ 20)
    (h : Q (.int (ns.length : Int) (s.toks + 1)) { s with toks := s.toks + 1 + 1 }) : wpAny (model prog w) A (call (.builtin "len") [.ref c]) Q E s := by
  have e : (ws.toArray.size : Int) = (ns.length : Int) := by simp [hI.length]
  refine len_list (memList N hm) ?_ (by rw [e]; exact h)
  rw [e]
  omega
end
local macro_rules | `(tactic| walk_at "call builtin:len") => `(tactic| (k_here; (with_reducible show wpAny _ _ (call (Value.builtin "len") [Value.ref _]) _ _ _); (refine' len_ints ?N ?hm ?hI ?hl ?_; (case N => k_asm); (case hm => first | assumption | k_mem); (case hI => assumption); (case hl => omega); k_whole)))
section
variable {prog : Program} {w : World} {dp un : Nat} {gd : Option (List Code)} {fr : List Env} {base : Heap} {s : Shared} {mean : ExcName → Option Value} {mg mb : Str → Option Value}
theorem summed_zero {o : Addr} {t : Tok} {l : List Value} (C : Cx w (Ar dp un gd fr) base fr mean mg mb s.heap) (IT : IsTup s.heap o l.toArray) (h4 : l.length = 4) (hdp : dp + 10 < 1000) (hun : un + 90 < 9900) :
    CallSpec prog w (Ar dp un gd fr) fr base s 293 [.ref o, .int 0 t] (fun v tl => v = .ref o ∧ tl = []) False := by
  obtain ⟨x1, l1, rfl⟩ := List.exists_cons_of_length_eq_add_one h4
  obtain ⟨x2, l2, rfl⟩ := List.exists_cons_of_length_eq_add_one (Nat.succ.inj h4)
  obtain ⟨x3, l3, rfl⟩ := List.exists_cons_of_length_eq_add_one (Nat.succ.inj (Nat.succ.inj h4))
  obtain ⟨x4, l4, rfl⟩ := List.exists_cons_of_length_eq_add_one (Nat.succ.inj (Nat.succ.inj (Nat.succ.inj h4)))
  obtain rfl := List.eq_nil_of_length_eq_zero (Nat.succ.inj (Nat.succ.inj (Nat.succ.inj (Nat.succ.inj h4))))
  refine' enter (binds := [(Str.ofString "one", .ref o), (Str.ofString "many", .int 0 t)]) C ?k6 ?k7 ?k8 ?k9 ?kB ?_ ?c2 ?c3 ?c4 ?c5
  walk_at "=enter"
  intro L h₁ E hexc F N
  have X := C.X
  have T := C.T
  have B := C.B
  walk_at "=go"
  walk_at "=ret"
  exact ⟨_, _, _, [], rfl, by assumption, NewIn.nil, rfl, rfl⟩
/-- the sum, or nothing -/
noncomputable def sT (many : Nat) (ts : List Tk) : List Tk := if many = 0 then ts else .lp :: (sumT many ts ++ [.rp])
noncomputable def sH (many deep : Nat) : Nat := if many = 0 then deep else deep + 1
theorem summed_use {h₀ : Heap} {L f : Addr} {m : Str → Option Value} {news : List (Addr × Obj)} {cn : Str} {cs : Scope} {cd : Value} {o : Value} {ts : List Tk} {d : Dat} {deep high many : Nat} {km : Int} {t : Tok} {Q E : Value → Shared → Prop}
    (B : Below (Ar dp un gd fr) base fr h₀) (X : (gen.heap_1_39 w.params).In h₀) (T : Top gen.view_1_40 (looseW gen.view_1_40 [Str.ofString "PRIORITIES"]) mean mg mb h₀) (F : Fr h₀ L s.heap m) (N : News h₀ L s.heap news)
    (D0 : DatIn news o (oneD ts d deep high)) (hdp : dp + 11 < 1000) (hun : un + 93 < 9900) (hk : cs.kind = .function) (hl : ts.length ≤ 1000) (hkm : km = (many : Int)) (hmy : many ≤ 101)
    (ret : ∀ v tl h' tk', Fr h₀ L h' m → News h₀ L h' (tl ++ news) → DatIn (tl ++ news) v (oneD (sT many ts) (sumD many d) (sH many deep) (high + many)) → Q v { s with heap := h', toks := tk' }) :
    wpAny (model prog w) ((Ar dp un gd fr).deeper (envOf cn cs L f cd)) (call (.ref 293) [o, .int km t]) Q E s := by
  subst hkm
  by_cases h0 : many = 0
  · subst h0
    obtain ⟨o, k, r, vs, k2, tv, t1, t2, rfl, hm, _⟩ := one_inv D0
    refine CallSpec.use (summed_zero (Cx.inn (a := f) (cd := cd) B X T F hk) ((haveN N).tup hm) rfl (by omega) (by omega)) F N (fun v tl h' tk' F' N' _ p => ?_) fun x => x.elim
    obtain ⟨rfl, rfl⟩ := p
    exact ret _ [] h' tk' F' N' D0
  · refine CallSpec.use (summed_spec (Cx.inn (a := f) (cd := cd) B X T F hk) (haveN N) D0 (by omega) (by omega) hl h0 (by omega)) F N (fun v tl h' tk' F' N' _ p => ?_) fun x => x.elim
    refine ret v tl h' tk' F' N' ?_
    rw [sT, sH, if_neg h0, if_neg h0]
    exact p
theorem many_of (i : Nat) : ∃ many : Nat, ([0, 1, 3, 93, 96, 97, 98, 99, 100, 101] : List Int).getD i 0 = (many : Int) ∧ many ≤ 101 := by
  match i with
  | 0 => exact ⟨0, rfl, by omega⟩
  | 1 => exact ⟨1, rfl, by omega⟩
  | 2 => exact ⟨3, rfl, by omega⟩
  | 3 => exact ⟨93, rfl, by omega⟩
  | 4 => exact ⟨96, rfl, by omega⟩
  | 5 => exact ⟨97, rfl, by omega⟩
  | 6 => exact ⟨98, rfl, by omega⟩
  | 7 => exact ⟨99, rfl, by omega⟩
  | 8 => exact ⟨100, rfl, by omega⟩
  | 9 => exact ⟨101, rfl, by omega⟩
  | i + 10 => exact ⟨0, rfl, by omega⟩
set_option maxHeartbeats 8000000 in
theorem seg5 {h₀ : Heap} {L fa : Addr} {cd : Value} {b : Bool} {ns : List Int} {p N len : Nat} {m : Str → Option Value} {news : List (Addr × Obj)} {E : Value → Shared → Prop} (hE : POwn prog w L fa cd E)
    (B : Below (Ar 301 4 (some []) []) base [] h₀) (X : (gen.heap_1_39 w.params).In h₀) (T : Top gen.view_1_40 (looseW gen.view_1_40 [Str.ofString "PRIORITIES"]) mean mg mb h₀) (F : Fr h₀ L s.heap m) (NN : News h₀ L s.heap news) (hJ : LJ b ns p N len m news) (hns : 2 ≤ ns.length) (hns8 : ns.length ≤ 8) (hlen : len ≤ 500) :
    wpAny (model prog w) ((Ar 301 4 (some []) []).deeper (LE L fa cd)) (execs ((lawBody.drop 5).take 1) (LE L fa cd)) (LPost s h₀ L (LJ b ns p (N + 4) (len + 32))) E s := by
  unfold POwn at hE
  unfold LE at hE ⊢
  dsimp only [lawBody, lawFd, lawP, List.drop, List.take] at hE ⊢
  obtain ⟨c, ws, k, tp, v, n, ts, d, deep, high, hc, hcn, hI, hpl, hin, hone, hD, hB, hn, hts⟩ := hJ
  have F2 := frSet (Str.ofString "one") (frSet (Str.ofString "is_inner") (frSet (Str.ofString "plain") (frSet (Str.ofString "cells") F hc) hpl) hin) hone
  clear F
  (k_with "=loop" => (refine Hold.out ?_))
  show wpAny _ _ _ _ _ _
  k_fold
  refine wpAny_execs_cons ?_
  refine' For_invV h₀ ?k1 ?k2 ?k3 (hs := ?ks) (hE := hE)
  (case k1 => exact rfl)
  (case k2 => exact rfl)
  (case ks => (intro _; rfl))
  k_steps
  k_with_none
  k_with "=end" => (((try dsimp only); (try k_sweep); (try k_fold)))
  k_with "=enter" => (((case k6 | k7 => k_is); (case k8 => ((try dsimp only [Ar, Around.deeper]); simp only [recursionLimit]; omega)); (case k9 => exact BindsTo.of_eq rfl); (case kB => exact locs rfl); (case c2 | c3 | c4 => exact rfl); (case c5 => decide)))
  k_with "=go" => ((show wpAny _ _ _ _ _ _; k_fold; k_steps))
  k_with "=asm" => (((case B | X | F | N => k_asm); (case T | TK => with_reducible assumption); (case hdp | hun => omega); (case hk => exact rfl); k_whole))
  k_with "my call ref" => ((k_here; (with_reducible show wpAny _ _ (call (Value.ref 60) _) _ _ _); k_dflt (apply is_op_use; walk_at "=asm"); intro _ _ _ _; walk_at "=end"))
  k_with "my call ref" => ((k_here; (with_reducible show wpAny _ _ (call (Value.ref 53) _) _ _ _); k_dflt (apply kind_at_use; walk_at "=asm"); intro _ _ _ _ _; walk_at "=end"))
  k_with "=ret" => (((try dsimp only); (try (k_unfold; dsimp only)); (show Back _ _ _ _ _)))
  k_with "my call ref" => ((k_here; (with_reducible show wpAny _ _ (call (Value.ref 159) _) _ _ _); k_dflt (apply part_end_use; walk_at "=asm"); intro _ _ _ _ _; walk_at "=end"))
  k_with "my call ref" => ((k_here; (with_reducible show wpAny _ _ (call (Value.ref 96) _) _ _ _); k_dflt (apply priority_at_use; walk_at "=asm"); intro _ _ _ _ _; walk_at "=end"))
  k_with "my call ref" => ((k_here; (with_reducible show wpAny _ _ (call (Value.ref 67) _) _ _ _); k_dflt (apply need_op_use; (case ho => with_reducible assumption); walk_at "=asm"); intro _ _ _ _ _; walk_at "=end"))
  k_with "my call ref" => ((k_here; (with_reducible show wpAny _ _ (call (Value.ref 74) _) _ _ _); k_dflt (apply need_name_use; (case ho => with_reducible assumption); walk_at "=asm"); intro _ _ _ _ _ _ _; walk_at "=end"))
  k_with "my call ref" => ((k_here; (with_reducible show wpAny _ _ (call (Value.ref 166) _) _ _ _); k_dflt (apply is_complex_use; walk_at "=asm"); intro _ _ _ _; walk_at "=end"))
  k_with "my call ref" => ((k_here; (with_reducible show wpAny _ _ (call (Value.ref 44) [_]) (RaisableX _ _) _ _); k_dflt (apply call44_use; (case X => k_asm); (case T => with_reducible assumption); (case F => k_asm); (case hdp => omega); k_whole); intro _ _ _ _; (try dsimp only)))
  k_with "my call ref" => ((k_here; (with_reducible show wpAny _ _ (call (Value.ref 88) _) _ _ _); k_dflt (apply close_at_use; (case hi | hc => assumption); walk_at "=asm"); intro _ _ _ _ _; walk_at "=end"))
  k_with "my call ref" => ((k_here; (with_reducible show wpAny _ _ (call (Value.ref 187) _) _ _ _); k_dflt (apply holds_mark_use; (case ho | hb => assumption); walk_at "=asm"); intro _ _ _ _; walk_at "=end"))
  k_with "my call ref" => ((k_here; (with_reducible show wpAny _ _ (call (Value.ref 272) _) _ _ _); k_dflt (apply law_k_use; walk_at "=asm2"); (intro _ _ _ _ _ _ _ _; walk_at "=end")))
  k_with "my call ref" => ((k_here; (with_reducible show wpAny _ _ (call (Value.ref 279) _) _ _ _); k_dflt (apply law_op_use; walk_at "=asm2"); (intro _ _ _ _ _ _ _ _; walk_at "=end")))
  k_with "=lst" => (first | exact Fr.lst (by assumption) (by assumption) | exact memList (by assumption) (by k_mem) | exact memList (by assumption) (memIn (by assumption) (fun p hp => by simp only [List.mem_cons, List.mem_append, hp, true_or, or_true])))
  k_with "=len" => (((try simp only [List.length_append, List.length_cons, List.length_nil]); omega))
  k_with "my call ref" => ((k_here; (with_reducible show wpAny _ _ (call (Value.ref 286) _) _ _ _); k_dflt (apply law_in_use; walk_at "=asm2"; (case IL => walk_at "=lst"); (case hvs => walk_at "=len")); (intro _ _ _ _ _ _ _ _ _ _ _; walk_at "=end")))
  k_with "=one" => (((try dsimp only); (try (k_unfold; dsimp only)); (show Back _ _ _ _ _); (refine ⟨_, _, _, _, rfl, by assumption, NewIn.of (by assumption), ?_⟩); (simp only [wrapT, wrapDat, wrapDeep, wrapHigh, dK, oneD, rowD, dBin, dUn, dName, dRef, dSub, List.map_cons, List.map_append, List.map_nil, tkD, List.cons_append, List.nil_append, List.append_assoc, Tk.kind, Tk.isName, Tk.text, if_true, if_false, Bool.false_eq_true]); (kd_in)))
  k_with "my call ref" => ((k_here; (with_reducible first | show wpAny _ _ (call (Value.ref 300) _) _ _ _ | show wpAny _ _ (call (Value.ref 293) _) _ _ _ | show wpAny _ _ (call (Value.ref 307) _) _ _ _ | show wpAny _ _ (call (Value.ref 314) _) _ _ _); refine Hold.out ?_))
  k_with "=lj" => ((first | with_unfolding_all rfl | with_unfolding_all assumption))
  show wpAny _ _ _ _ _ _
  rename IntsAre _ (List.take _ _) => hI3
  have hl3 := hI3.length
  have hl4 : (List.take (min ((ns.length : Int) - 2).toNat ns.length - 2) (List.drop 2 ns)).length ≤ 4 := by
    rw [List.length_take, List.length_drop]
    omega
  refine kdl_iter (fun j => LJ b ns p (N + j) (len + 8 * j)) rfl (.head _) (by assumption) (by assumption) ?hj ?turn ?done
  case hj => exact ⟨c, ws, k, tp, v, n, ts, d, deep, high, rfl, .tail _ hcn, hI, rfl, rfl, rfl, hD.mono fun p hp => .tail _ hp, hB, hn, hts⟩
  case turn =>
    clear hc hcn hI hpl hin hone hD hB hn hts
    rintro j v1 m nx h tk own hj hoff hl5 ⟨c, ws, k, tp, v, n, ts, d, deep, high, hc, hcn, hI, hpl, hin, hone, hD, hB, hn, hts⟩ F1 N1
    obtain ⟨x, hx⟩ : ∃ x, (List.take (min ((ns.length : Int) - 2).toNat ns.length - 2) (List.drop 2 ns))[j]? = some x := by
      have hlt := (List.getElem?_eq_some_iff.mp hj).1
      rw [hl3] at hlt
      exact ⟨_, List.getElem?_eq_getElem hlt⟩
    obtain ⟨t1, hv1⟩ := hI3.get j x hx
    obtain rfl : v1 = .int x t1 := Option.some.inj (hj.symm.trans hv1)
    have F2 := frSet (Str.ofString "one") F1 ((if_neg (by decide +kernel)).trans hone)
    have w1 : 0 ≤ x.fmod 11 := Int.fmod_nonneg_of_pos _ (by omega)
    have w2 : x.fmod 11 < 11 := Int.fmod_lt_of_pos _ (by omega)
    have hj4 : j < 4 := by
      have hlt := (List.getElem?_eq_some_iff.mp hx).1
      omega
    clear F1 hj hx hv1
    k_steps
    show wpAny _ _ _ _ _ _
    have hNh := haveN N1
    refine wrapped_use2 (way := (x.fmod 11).toNat) (news := nx ++ own) (news0 := nx) B X T (by assumption) (by assumption) (fun p hp => List.mem_append.mpr (.inl hp)) hD (by omega) (by omega) rfl (by omega) (by omega) (by omega) ?_
    intro v' tl h' tk' F' N' NI DD
    k_steps
    refine InvEndG.intro (nx := tl ++ nx) (by assumption) (by assumption) ⟨List.mem_append.mpr (.inr hl5), c, ws, k, tp, v', n + 1, _, _, _, _, by with_unfolding_all exact hc, List.mem_append.mpr (.inr hcn), hI, by with_unfolding_all exact hpl, by with_unfolding_all exact hin, rfl, DD, Built.wrap _ (by omega) hB, by omega, by have := wrapT_length (x.fmod 11).toNat ts; omega⟩ ?_ (fun p hp => by simp only [List.mem_append] at hp ⊢; rcases hp with hp | hp <;> simp only [hp, true_or, or_true]) (fun p hp => by simp only [List.mem_append, hp, or_true])
    intro p hp b' hb' e
    obtain ⟨q, hq, rfl⟩ := List.mem_map.mp hb'
    rcases List.mem_append.mp hq with hq | hq
    · have h1 := (NI q hq).2
      have h2 := hNh p (List.mem_append.mpr (.inr hp))
      rw [e] at h2
      exact absurd (h2.symm.trans h1) (by simp)
    · exact hoff p hp q.1 (List.mem_map.mpr ⟨q, hq, rfl⟩) e
  case done =>
    rintro m nx h tk hJ F1 N1
    k_steps
    exact ⟨rfl, _, _, m, nx, rfl, by assumption, by assumption, hJ.mono (by omega) (by omega)⟩
set_option maxHeartbeats 8000000 in
theorem seg6 {h₀ : Heap} {L fa : Addr} {cd : Value} {b : Bool} {ns : List Int} {p N len : Nat} {m : Str → Option Value} {news : List (Addr × Obj)} {E : Value → Shared → Prop} (hE : POwn prog w L fa cd E)
    (B : Below (Ar 301 4 (some []) []) base [] h₀) (X : (gen.heap_1_39 w.params).In h₀) (T : Top gen.view_1_40 (looseW gen.view_1_40 [Str.ofString "PRIORITIES"]) mean mg mb h₀) (F : Fr h₀ L s.heap m) (NN : News h₀ L s.heap news) (hJ : LJ b ns p N len m news) (hns : 2 ≤ ns.length) (hns8 : ns.length ≤ 8) (hlen : len ≤ 500) :
    wpAny (model prog w) ((Ar 301 4 (some []) []).deeper (LE L fa cd)) (execs ((lawBody.drop 6).take 1) (LE L fa cd)) (LPost s h₀ L (LJ b ns p (N + 1) (len + 204))) E s := by
  unfold POwn at hE
  unfold LE at hE ⊢
  dsimp only [lawBody, lawFd, lawP, List.drop, List.take] at hE ⊢
  obtain ⟨c, ws, k, tp, v, n, ts, d, deep, high, hc, hcn, hI, hpl, hin, hone, hD, hB, hn, hts⟩ := hJ
  have F2 := frSet (Str.ofString "one") (frSet (Str.ofString "is_inner") (frSet (Str.ofString "plain") (frSet (Str.ofString "cells") F hc) hpl) hin) hone
  clear F
  cases b with
  | true =>
    walk_at "=go"
    show wpAny _ _ _ _ _ _
    obtain ⟨many, hmy, hml⟩ := many_of ((ns.getD (Int.toNat 1) 0).fmod 3).toNat
    refine summed_use (news := news) B X T (by assumption) (by assumption) hD (by omega) (by omega) rfl (by omega) hmy hml ?_
    intro v' tl h' tk' F' N' DD
    k_steps
    have hB2 : ∃ n', n' ≤ N + 1 ∧ Built n' (sT many ts) (sumD many d) (sH many deep) (high + many) := by
      by_cases h0 : many = 0
      · subst h0
        exact ⟨n, by omega, hB⟩
      · rw [sT, sH, if_neg h0, if_neg h0]
        exact ⟨n + 1, by omega, hB.sum many hml⟩
    obtain ⟨n', hn', hB2⟩ := hB2
    have hlen2 : (sT many ts).length ≤ ts.length + 204 := by
      unfold sT
      split
      · omega
      · simp only [List.length_cons, List.length_append, List.length_nil, sumT_length]
        omega
    exact ⟨rfl, _, _, _, _, rfl, by assumption, by assumption, c, ws, k, tp, v', n', _, _, _, _, rfl, List.mem_append.mpr (.inr hcn), hI, rfl, rfl, rfl, DD, hB2, hn', by omega⟩
  | false =>
    walk_at "=go"
    show wpAny _ _ _ _ _ _
    obtain ⟨many, hmy, hml⟩ := many_of ((ns.getD (Int.toNat 1) 0).fmod 10).toNat
    refine summed_use (news := news) B X T (by assumption) (by assumption) hD (by omega) (by omega) rfl (by omega) hmy hml ?_
    intro v' tl h' tk' F' N' DD
    k_steps
    have hB2 : ∃ n', n' ≤ N + 1 ∧ Built n' (sT many ts) (sumD many d) (sH many deep) (high + many) := by
      by_cases h0 : many = 0
      · subst h0
        exact ⟨n, by omega, hB⟩
      · rw [sT, sH, if_neg h0, if_neg h0]
        exact ⟨n + 1, by omega, hB.sum many hml⟩
    obtain ⟨n', hn', hB2⟩ := hB2
    have hlen2 : (sT many ts).length ≤ ts.length + 204 := by
      unfold sT
      split
      · omega
      · simp only [List.length_cons, List.length_append, List.length_nil, sumT_length]
        omega
    exact ⟨rfl, _, _, _, _, rfl, by assumption, by assumption, c, ws, k, tp, v', n', _, _, _, _, rfl, List.mem_append.mpr (.inr hcn), hI, rfl, rfl, rfl, DD, hB2, hn', by omega⟩
end
section
variable {prog : Program} {w : World} {dp un : Nat} {gd : Option (List Code)} {fr : List Env} {base : Heap} {s : Shared} {mean : ExcName → Option Value} {mg mb : Str → Option Value}
theorem seg0_end {h₀ h : Heap} {L c : Addr} {m : Str → Option Value} {news : List (Addr × Obj)} {ws : List Value} {k tk : Nat} {ns : List Int} {X : Int} {tp : Tok} {b : Bool} {v : Value} (F : Fr h₀ L h m) (N : News h₀ L h news) (hc : m (Str.ofString "cells") = some (.ref c)) (hcn : (c, W.listOf ws.toArray k) ∈ news) (hI : IntsAre ws ns)
    (hX : m (Str.ofString "plain") = some (.int X tp)) (h0 : 0 ≤ X) (h1 : X ≤ 41) (hin : m (Str.ofString "is_inner") = some (.bool b)) (hone : m (Str.ofString "one") = some v) (hD : DatIn news v (oneD [.nK] dK 0 0)) (hl : 2 ≤ ns.length ∧ ns.length ≤ 8) :
    LPost s h₀ L (fun m news => ∃ b ns p, LJ b ns p 0 1 m news ∧ p ≤ 41 ∧ 2 ≤ ns.length ∧ ns.length ≤ 8) .next { s with heap := h, toks := tk } :=
  ⟨rfl, h, tk, m, news, rfl, F, N, b, ns, X.toNat, ⟨c, ws, k, tp, v, 0, _, _, _, _, hc, hcn, hI, by rw [hX, Int.toNat_of_nonneg h0], hin, hone, hD, Built.k, Nat.le_refl _, Nat.le_refl _⟩, by omega, hl⟩
set_option maxHeartbeats 8000000 in
theorem seg0 {h₀ : Heap} {L fa a : Addr} {cd : Value} {vs : List Value} {xs : List Int} {E : Value → Shared → Prop} (hE : POwn prog w L fa cd E)
    (B : Below (Ar 301 4 (some []) []) base [] h₀) (X : (gen.heap_1_39 w.params).In h₀) (T : Top gen.view_1_40 (looseW gen.view_1_40 [Str.ofString "PRIORITIES"]) mean mg mb h₀) (F : Fr h₀ L s.heap (fun y => List.lookup y [(Str.ofString "script", Value.ref a)].reverse)) (NN : News h₀ L s.heap []) (IL : h₀.IsList a vs.toArray) (hI : IntsAre vs xs) (hx : xs.length ≤ 63) :
    wpAny (model prog w) ((Ar 301 4 (some []) []).deeper (LE L fa cd)) (execs (lawBody.take 4) (LE L fa cd)) (LPost s h₀ L (fun m news => ∃ b ns p, LJ b ns p 0 1 m news ∧ p ≤ 41 ∧ 2 ≤ ns.length ∧ ns.length ≤ 8)) E s := by
  unfold POwn at hE
  unfold LE at hE ⊢
  dsimp only [lawBody, lawFd, lawP, List.drop, List.take] at hE ⊢
  walk_at "=go"
  all_goals refine seg0_end (by assumption) (by assumption) (by with_unfolding_all rfl) (by k_mem) (by assumption) (by with_unfolding_all rfl) ?_ ?_ (by with_unfolding_all rfl) (by with_unfolding_all rfl) ?_ ?_
  · exact Int.fmod_nonneg_of_pos _ (by decide)
  · exact Int.le_of_lt_add_one (Int.fmod_lt_of_pos _ (by decide))
  · simp only [oneD, rowD, dK, dName, List.map_cons, List.map_nil, tkD, Tk.kind, Tk.isName, Tk.text, if_true]
    kd_in
  · simp only [List.length_append, List.length_map, List.length_take, List.length_cons, List.length_nil]
    omega
  · exact Int.add_nonneg (by decide) (Int.fmod_nonneg_of_pos _ (by decide))
  · exact Int.add_le_add_left (c := 34) (Int.le_of_lt_add_one (b := 7) (Int.fmod_lt_of_pos _ (by decide)))
  · simp only [oneD, rowD, dK, dName, List.map_cons, List.map_nil, tkD, Tk.kind, Tk.isName, Tk.text, if_true]
    kd_in
  · simp only [List.length_append, List.length_map, List.length_take, List.length_cons, List.length_nil]
    omega
noncomputable def RJ2 (ts : List Tk) (d : Dat) (deep high : Nat) (ns : List Int) (m : Str → Option Value) (news : List (Addr × Obj)) : Prop :=
  ∃ c ws k r tv, m (Str.ofString "cells") = some (.ref c) ∧ (c, W.listOf ws.toArray k) ∈ news ∧ IntsAre ws ns ∧ m (Str.ofString "row") = some (.ref r) ∧ DatIn news (.ref r) (rowD ts) ∧ m (Str.ofString "tree") = some tv ∧ DatIn news tv d ∧ m (Str.ofString "is_right") = some (.bool (decide (deep ≤ 40) && decide (high ≤ 100)))
set_option maxHeartbeats 8000000 in
theorem seg8 {h₀ : Heap} {L fa : Addr} {cd : Value} {b : Bool} {ns : List Int} {p N len : Nat} {m : Str → Option Value} {news : List (Addr × Obj)} {E : Value → Shared → Prop} (hE : POwn prog w L fa cd E)
    (B : Below (Ar 301 4 (some []) []) base [] h₀) (X : (gen.heap_1_39 w.params).In h₀) (T : Top gen.view_1_40 (looseW gen.view_1_40 [Str.ofString "PRIORITIES"]) mean mg mb h₀) (F : Fr h₀ L s.heap m) (NN : News h₀ L s.heap news) (hJ : LJ b ns p N len m news) :
    wpAny (model prog w) ((Ar 301 4 (some []) []).deeper (LE L fa cd)) (execs ((lawBody.drop 8).take 2) (LE L fa cd)) (LPost s h₀ L (fun m news => ∃ n ts d deep high, RJ2 ts d deep high ns m news ∧ Built n ts d deep high ∧ n ≤ N ∧ ts.length ≤ len)) E s := by
  unfold POwn at hE
  unfold LE at hE ⊢
  dsimp only [lawBody, lawFd, lawP, List.drop, List.take] at hE ⊢
  obtain ⟨c, ws, k, tp, v, n, ts, d, deep, high, hc, hcn, hI, hpl, hin, hone, hD, hB, hn, hts⟩ := hJ
  obtain ⟨o, k0, r, vs, k2, tv, t1, t2, rfl, hm, hm2, hA, hDt⟩ := one_inv hD
  have F2 := frSet (Str.ofString "one") (frSet (Str.ofString "is_inner") (frSet (Str.ofString "plain") (frSet (Str.ofString "cells") F hc) hpl) hin) hone
  clear F
  walk_at "=go"
  · have h1 : (deep : Int) ≤ 40 := by assumption
    refine ⟨rfl, _, _, _, _, rfl, by assumption, by assumption, n, ts, d, deep, high, ⟨c, ws, k, r, tv, rfl, hcn, hI, rfl, DatIn.list hm2 hA, rfl, hDt, ?_⟩, hB, hn, hts⟩
    have e : decide ((high : Int) ≤ 100) = (decide (deep ≤ 40) && decide (high ≤ 100)) := by
      rw [decide_eq_true (show deep ≤ 40 by omega), Bool.true_and]
      exact decide_eq_decide.mpr (by omega)
    with_unfolding_all exact congrArg (fun z => some (Value.bool z)) e
  · have h1 : ¬ (deep : Int) ≤ 40 := by assumption
    refine ⟨rfl, _, _, _, _, rfl, by assumption, by assumption, n, ts, d, deep, high, ⟨c, ws, k, r, tv, rfl, hcn, hI, rfl, DatIn.list hm2 hA, rfl, hDt, ?_⟩, hB, hn, hts⟩
    have e : decide ((deep : Int) ≤ 40) = (decide (deep ≤ 40) && decide (high ≤ 100)) := by
      rw [decide_eq_false h1, decide_eq_false (show ¬ deep ≤ 40 by omega), Bool.false_and]
    with_unfolding_all exact congrArg (fun z => some (Value.bool z)) e
end
section
open PyProof LCg LCp
section
variable {prog : Program} {w : World} {A : Around} {E : Value → Shared → Prop} {s : Shared} {h₀ : Heap} {L : Addr} {m : Str → Option Value} {env : Env}
noncomputable def EndE (h₀ : Heap) (L : Addr) (m : Str → Option Value) (s₁ : Shared) (led : List (Addr × Obj)) (P : Obj → Prop) (y : Value) (s₂ : Shared) : Prop :=
  ∃ h' tk q o, s₂ = { s₁ with heap := h', toks := tk } ∧ y = .ref q ∧ Fr h₀ L h' m ∧ News h₀ L h' ((q, o) :: led) ∧ (∀ p ∈ led, p.1 ≠ q) ∧ P o
theorem fr_but2 {h h' : Heap} {e it : Addr} (F : Fr h₀ L h m) (hk : ∀ b o, b ∉ [e, it] → h.get? b = some o → h'.get? b = some o) (hLe : L ≠ e) (hLi : L ≠ it) (he : h₀.get? e = none) (hi : h₀.get? it = none) : Fr h₀ L h' m :=
  ⟨F.ns.at' fun o x => hk L o (by simp [hLe, hLi]) x, fun b o x => hk b o (fun hm => by
    rcases List.mem_cons.mp hm with rfl | hm
    · rw [he] at x; cases x
    · rw [List.mem_singleton.mp hm, hi] at x; cases x) (F.keep b o x), F.above⟩
theorem news_but2 {h h' : Heap} {e it : Addr} {news : List (Addr × Obj)} (N : News h₀ L h news) (hk : ∀ b o, b ∉ [e, it] → h.get? b = some o → h'.get? b = some o) (off : ∀ p ∈ news, p.1 ≠ e ∧ p.1 ≠ it) : News h₀ L h' news :=
  fun p hp => ⟨hk _ _ (by simp [off p hp]) (N p hp).1, (N p hp).2⟩
theorem notYet {g : Heap} (F : Fr h₀ L g m) {a : Addr} (ha : g.objs.size ≤ a) : h₀.get? a = none :=
  Heap.get?_none_of_le (Nat.le_trans F.above (Nat.le_trans (Nat.le_of_lt F.ns.lt) ha))
/-- a list and a frame, made one behind the other -/
theorem listFrame {g H h₁ : Heap} {o o2 : Obj} (ho : o.isFreed = false) (e : g.push o = H) (hs : Heap.SameBut H.objs.size (H.push o2) h₁) :
    (∀ b, b < g.objs.size → b ≠ H.objs.size ∧ b ≠ g.objs.size) ∧ (∀ b x, g.get? b = some x → h₁.get? b = some x) ∧ h₁.get? g.objs.size = some o ∧ g.objs.size < H.objs.size := by
  subst e
  have lt : g.objs.size < (g.push o).objs.size := by
    rw [Heap.size_push]
    exact Nat.lt_succ_self _
  refine ⟨fun b q => ⟨Nat.ne_of_lt (Nat.lt_trans q lt), Nat.ne_of_lt q⟩, fun b x y => ?_, ?_, lt⟩
  · exact hs.extBut _ _ (Nat.ne_of_lt (Nat.lt_trans (Heap.lt_size y) lt)) (Heap.get?_push_of_some _ (Heap.get?_push_of_some _ y))
  · exact hs.extBut _ _ (Nat.ne_of_lt lt) (Heap.get?_push_of_some _ (Heap.get?_push_size _ ho))
set_option maxHeartbeats 4000000 in
theorem block_E {elt iter : PySem.Expr} {x x₂ : Str} {px px₂ tp : Pos} {tk : Nat} {scope : Scope} {cl : List (Str × Addr)} {pos : Pos} {s₂ : Shared} {e it l : Addr} {vs : List Value} {k2 : Nat} {news : List (Addr × Obj)} {P : Nat → Obj → Prop} {RR : Value → Addr → Result → Shared → Prop}
    (hh : A.handled = none) (hei : e ≠ it) (hle : l ≠ e) (hli : l ≠ it) (hsz : vs.length ≤ sizeLine)
    (hcell : ∀ y ∈ scope.names, y.2 ≠ .cell) (hkind : scope.kind = .function) (hx : scope.names.lookup x = some .local) (hx₂ : scope.names.lookup x₂ = some .local) (hxx : x ≠ x₂)
    (he : IsEnum s₂.heap e it 0 .none) (hit : s₂.heap.IsListIter it l 0) (hlm : (l, W.listOf vs.toArray k2) ∈ news)
    (F : Fr h₀ L s₂.heap m) (N : News h₀ L s₂.heap news) (hLe : L ≠ e) (hLi : L ≠ it) (he₀ : h₀.get? e = none) (hi₀ : h₀.get? it = none) (off : ∀ p ∈ news, p.1 ≠ e ∧ p.1 ≠ it)
    (ev : ∀ (i : Nat) t v C D oe oi oC oD m₂ acc h tk (E' : Value → Shared → Prop), vs[i]? = some v → NsObj oC m₂ → m₂ x = some (.int (i : Int) t) → m₂ x₂ = some v → Fr h₀ L h m → News h₀ L h ((e, oe) :: (it, oi) :: (C, oC) :: (D, oD) :: (acc ++ news)) →
      wpAny (model prog w) A (eval elt (compEnvC scope cl C env)) (EndE h₀ L m { s₂ with heap := h, toks := tk } ((e, oe) :: (it, oi) :: (C, oC) :: (D, oD) :: (acc ++ news)) (P i)) E' { s₂ with heap := h, toks := tk })
    (hRR : ∀ D C h tk m' ys acc, Fr h₀ L h m → News h₀ L h ((D, lst ys) :: (acc ++ news)) → h.Ns C m' → h₀.get? C = none → C ≠ L → C ≠ D → (∀ p ∈ acc ++ news, p.1 ≠ C) → ys.length = vs.length →
      (∀ j, j < vs.length → ∃ q o, ys[j]? = some (.ref q) ∧ (q, o) ∈ acc ∧ P j o) → RR (.ref D) C (.ok .next) { s₂ with heap := h, toks := tk }) :
    wpAny (model prog w) A (newList []) (fun acc s₃ => wpAny (model prog w) A (newFunctionEnv scope env.globals cl [] env.qual none .none (some env)) (fun cenv s₄ =>
      codeAny (model prog w) A (.compStart (.ListComp elt [⟨.Tuple [.Name x px, .Name x₂ px₂] tk tp, iter, [], 0⟩] scope pos) 0 (.ref e) acc { cenv with scope := relabel scope env }) (RR acc cenv.locals) s₄) E s₃) E s₂ := by
  have W := WalksT.enumerate (prog := prog) (w := w) hh e it l hei hle hli vs.toArray
  have hsiz : vs.toArray.size = vs.length := by simp
  rw [hsiz] at W
  have hl : s₂.heap.IsList l vs.toArray := memList N hlm
  refine wpAny_newObj_type (wpAny_newFunctionEnv hcell (by intro y hy; simp at hy) (fun h₁ hns₁ hsb₁ => ?_) hkind)
  dsimp only at hns₁ hsb₁ ⊢
  generalize hH2 : s₂.heap.push { cls := .type "list", dict := none, data := .seq ([] : List Value).toArray } = H2 at hns₁ hsb₁ ⊢
  obtain ⟨below, old, hacc, hDC⟩ := listFrame rfl hH2 hsb₁
  have hllt : l < s₂.heap.objs.size := by obtain ⟨_, y, _⟩ := id hl; exact Heap.lt_size y
  obtain ⟨hCe, hDe⟩ := below e (Heap.lt_size he)
  obtain ⟨hCi, hDi⟩ := below it (by obtain ⟨_, y, _⟩ := id hit; exact Heap.lt_size y)
  obtain ⟨hLC, hLD⟩ := below L F.ns.lt
  have hCL := Ne.symm hLC
  have hDL := Ne.symm hLD
  have hD₀ : h₀.get? s₂.heap.objs.size = none := notYet F (Nat.le_refl _)
  have hC₀ : h₀.get? H2.objs.size = none := notYet F (Nat.le_of_lt hDC)
  replace hDC := Nat.ne_of_lt hDC
  have hst₁ := W.frame 0 _ h₁ ⟨⟨.none, he⟩, hit, hl⟩ fun b _ o y => old b o y
  have loop : ∀ s₃ : Shared, s₃ = { s₂ with heap := h₁, toks := s₂.toks + ([] : List (Str × Value)).length } →
      codeAny (model prog w) A (.compLoop (.ListComp elt [⟨.Tuple [.Name x px, .Name x₂ px₂] tk tp, iter, [], 0⟩] scope pos) 0 (.ref e) (.ref s₂.heap.objs.size) (compEnvC scope cl H2.objs.size env))
        (RR (.ref s₂.heap.objs.size) H2.objs.size) s₃ := by
    rintro s₃ rfl
    refine codeAny_compLoop_pair
      (fun k s' => ∃ h' tk i ys m' acc, s' = { s₂ with heap := h', toks := tk } ∧ i ≤ vs.length ∧ k = vs.length + 1 - i ∧ ys.length = i ∧ ((∃ old, IsEnum h' e it i old) ∧ h'.IsListIter it l i ∧ h'.IsList l vs.toArray) ∧ Fr h₀ L h' m ∧ h'.Ns H2.objs.size m' ∧ News h₀ L h' ((s₂.heap.objs.size, lst ys) :: (acc ++ news)) ∧
        (∀ p ∈ acc ++ news, (p.1 ≠ e ∧ p.1 ≠ it) ∧ p.1 ≠ H2.objs.size ∧ p.1 ≠ s₂.heap.objs.size) ∧ (∀ j, j < i → ∃ q o, ys[j]? = some (.ref q) ∧ (q, o) ∈ acc ∧ P j o)) ?_ (vs.length + 1)
      ⟨h₁, _, 0, [], _, [], rfl, Nat.zero_le _, rfl, rfl, hst₁, F.keeps old, hns₁, fun p hp => ?_, fun p hp => ⟨off p hp, below _ (Heap.lt_size (N p hp).1)⟩, fun j hj => absurd hj (Nat.not_lt_zero _)⟩
    · rintro k s' ⟨h', tk, i, ys, m', acc, rfl, hi, rfl, hyl, hst', F', hn', N', off', hP⟩
      have offD : ∀ p ∈ (s₂.heap.objs.size, lst ys) :: (acc ++ news), p.1 ≠ e ∧ p.1 ≠ it := fun p hp => by
        rcases List.mem_cons.mp hp with rfl | hp
        · exact ⟨Ne.symm hDe, Ne.symm hDi⟩
        · exact (off' p hp).1
      by_cases hlt : i < vs.length
      · refine W.item i _ _ _ hlt hst' fun Tt vals h₂ tk₂ hPv hTn hT hMid hk₂ => ?_
        obtain ⟨t, v, hv, rfl⟩ := hPv
        have hv' : vs[i]? = some v := by simpa using hv
        refine W.go _ _ _ i Tt _ _ _ hMid fun h₄ hst₄ hk₄ => ?_
        have hTw := W.apart i Tt h₂ hMid
        have hk24 : ∀ b o, b ∉ [e, it] → h'.get? b = some o → h₄.get? b = some o := fun b o hb y => hk₄ b o hb (hk₂ b o hb y)
        have ht : PyProof.Rows.IsTup h₄ Tt #[.int i t, v] := by
          obtain ⟨ot, y, r⟩ := hT
          exact ⟨ot, hk₄ _ _ hTw y, r⟩
        refine assign_Tuple_tuple hh ht rfl rfl fun h₅ hex => ?_
        have he' : ∀ b o, h₄.get? b = some o → h₅.get? b = some o := fun b o y => hex b o (Nat.ne_of_lt (Heap.lt_size y)) y
        have nCw : H2.objs.size ∉ [e, it] := by simp [Ne.symm hCe, Ne.symm hCi]
        refine assignInOrder_cons (wpAny_assign_Name (wpAny_storeName_local (lookup_relabel_local hx) ((hn'.at' fun o y => hk24 _ o nCw y).at' fun o y => he' _ o y) (fun h₆ hn₆ hs₆ => ?_) (by simp [compEnvC, relabel, hkind])))
        refine assignInOrder_cons (wpAny_assign_Name (wpAny_storeName_local (lookup_relabel_local hx₂) hn₆ (fun h₃ hn₃ hs₃ => ?_) (by simp [compEnvC, relabel, hkind])))
        refine assignInOrder_nil ?_
        have old3 : ∀ b o, b ≠ H2.objs.size → h₄.get? b = some o → h₃.get? b = some o := fun b o hb y => hs₃.extBut b o hb (hs₆.extBut b o hb (he' b o y))
        have hst₃ := W.frame (i + 1) _ h₃ hst₄ fun b hb o y => old3 b o (fun q => by
          have q' : b = H2.objs.size := q
          subst q'
          rcases List.mem_cons.mp hb with z | hb
          · exact hCe z.symm
          rcases List.mem_cons.mp hb with z | hb
          · exact hCi z.symm
          · exact (below l hllt).1 (List.mem_singleton.mp hb).symm) y
        obtain ⟨⟨olde, he₃⟩, hit₃, hl₃⟩ := id hst₃
        obtain ⟨oi, hoi, _⟩ := id hit₃
        obtain ⟨oC, heC, hoC⟩ := ns_obj hn₃
        have F₃ : Fr h₀ L h₃ m := (((fr_but2 F' hk24 hLe hLi he₀ hi₀).keeps he').change hs₆ hCL hC₀).change hs₃ hCL hC₀
        have N₂ := news_but2 N' hk24 offD
        have N₃ : News h₀ L h₃ ((e, _) :: (it, oi) :: (H2.objs.size, oC) :: (s₂.heap.objs.size, lst ys) :: (acc ++ news)) := fun p hp => by
          rcases List.mem_cons.mp hp with rfl | hp
          · exact ⟨he₃, Ne.symm hLe, he₀⟩
          rcases List.mem_cons.mp hp with rfl | hp
          · exact ⟨hoi, Ne.symm hLi, hi₀⟩
          rcases List.mem_cons.mp hp with rfl | hp
          · exact ⟨heC, hCL, hC₀⟩
          have z := N₂ p hp
          refine ⟨old3 _ _ ?_ z.1, z.2⟩
          rcases List.mem_cons.mp hp with rfl | hp
          · exact hDC
          · exact (off' p hp).2.1
        refine wpAny_mono (ev i t v H2.objs.size s₂.heap.objs.size _ oi oC (lst ys) _ acc h₃ _ _ hv' hoC (by simp [hxx]) (by simp) F₃ N₃) (fun y s₅ h₅' => ?_) fun _ _ y => y
        obtain ⟨h₇, tk₇, q, o, rfl, rfl, F₇, N₇, off₇, hPo⟩ := h₅'
        have ze := (N₇ _ (.tail _ (.head _))).1
        have zi := (N₇ (it, oi) (.tail _ (.tail _ (.head _)))).1
        have zC := (N₇ (H2.objs.size, oC) (.tail _ (.tail _ (.tail _ (.head _))))).1
        have zD := (N₇ (s₂.heap.objs.size, lst ys) (.tail _ (.tail _ (.tail _ (.tail _ (.head _)))))).1
        have hl₇ : h₇.IsList l vs.toArray := memList N₇ (.tail _ (.tail _ (.tail _ (.tail _ (.tail _ (List.mem_append.mpr (.inr hlm)))))))
        have hit₇ : h₇.IsListIter it l (i + 1) := hit₃.at fun o' y => by
          rw [hoi] at y
          cases y
          exact zi
        refine append_at (hsz := by show ys.toArray.size ≤ sizeLine; rw [List.size_toArray, hyl]; exact Nat.le_trans hi hsz) zD fun h₈ hs₈ hD₈ => ?_
        have qe : e ≠ q := off₇ _ (.head _)
        have qi : it ≠ q := off₇ _ (.tail _ (.head _))
        have qC : H2.objs.size ≠ q := off₇ _ (.tail _ (.tail _ (.head _)))
        have qD : s₂.heap.objs.size ≠ q := off₇ _ (.tail _ (.tail _ (.tail _ (.head _))))
        have ext := hs₈.extBut
        refine ⟨vs.length + 1 - (i + 1), by omega, h₈, tk₇, i + 1, ys ++ [.ref q], _, (q, o) :: acc, rfl, hlt, rfl, by rw [List.length_append, List.length_singleton, hyl],
          ⟨⟨_, ext _ _ hDe ze⟩, hit₇.at fun o' y => ext _ _ hDi y, hl₇.at fun o' y => ext _ _ (below l hllt).2 y⟩, F₇.change hs₈ hDL hD₀, (hoC.ns zC).sameBut hs₈ (Ne.symm hDC), fun p hp => ?_, fun p hp => ?_, fun j hj => ?_⟩
        · rcases List.mem_cons.mp hp with rfl | hp
          · exact ⟨hD₈.trans (congrArg some (lst_snoc ys (.ref q))), hDL, hD₀⟩
          rcases List.mem_cons.mp hp with rfl | hp
          · exact ⟨ext _ _ (Ne.symm qD) (N₇ _ (.head _)).1, (N₇ _ (.head _)).2⟩
          · have z := N₇ p (.tail _ (.tail _ (.tail _ (.tail _ (.tail _ hp)))))
            exact ⟨ext _ _ (off' p hp).2.2 z.1, z.2⟩
        · rcases List.mem_cons.mp hp with rfl | hp
          · exact ⟨⟨Ne.symm qe, Ne.symm qi⟩, Ne.symm qC, Ne.symm qD⟩
          · exact off' p hp
        · rcases Nat.lt_succ_iff_lt_or_eq.mp hj with hj | rfl
          · obtain ⟨q', o', h1, h2, h3⟩ := hP j hj
            exact ⟨q', o', by rw [List.getElem?_append_left (by omega)]; exact h1, .tail _ h2, h3⟩
          · exact ⟨q, o, by rw [List.getElem?_append_right (by omega), hyl, Nat.sub_self]; rfl, .head _, hPo⟩
      · obtain rfl : i = vs.length := Nat.le_antisymm hi (Nat.not_lt.mp hlt)
        refine W.done _ _ _ hst' fun h₂ tk₂ hk₂ => ?_
        exact hRR _ _ h₂ tk₂ _ ys acc (fr_but2 F' hk₂ hLe hLi he₀ hi₀) (news_but2 N' hk₂ offD) (hn'.at' fun o y => hk₂ _ o (by simp [Ne.symm hCe, Ne.symm hCi]) y) hC₀ hCL (Ne.symm hDC) (fun p hp => (off' p hp).2.1) hyl hP
    · rcases List.mem_cons.mp hp with rfl | hp
      · exact ⟨hacc, hDL, hD₀⟩
      · exact ⟨old _ _ (N p hp).1, (N p hp).2⟩
  exact codeAny_compStart_list (loop _ rfl) (W.self 0 _ _ _ hst₁ (loop _ rfl))
noncomputable def SrcE (h₀ : Heap) (L : Addr) (m : Str → Option Value) (news : List (Addr × Obj)) (l : Addr) (s : Shared) (xv : Value) (s₁ : Shared) : Prop :=
  ∃ e it g tk, s₁ = { s with heap := g, toks := tk } ∧ xv = .ref e ∧ e ≠ it ∧ l ≠ e ∧ l ≠ it ∧ IsEnum g e it 0 .none ∧ g.IsListIter it l 0 ∧ Fr h₀ L g m ∧ News h₀ L g news ∧ L ≠ e ∧ L ≠ it ∧ h₀.get? e = none ∧ h₀.get? it = none ∧ (∀ p ∈ news, p.1 ≠ e ∧ p.1 ≠ it)
theorem enum_call {l : Addr} {vs : List Value} {k : Nat} {news : List (Addr × Obj)} {s₀ : Shared} (F : Fr h₀ L s.heap m) (N : News h₀ L s.heap news) (hlm : (l, W.listOf vs.toArray k) ∈ news) (hs : ∀ g, ∃ g' tk', ({ s with heap := g } : Shared) = { s₀ with heap := g', toks := tk' }) :
    wpAny (model prog w) A (call (.type "enumerate") [.ref l]) (SrcE h₀ L m news l s₀) E s := by
  have hl := memList N hlm
  have hlt : l < s.heap.objs.size := Heap.lt_size (N _ hlm).1
  refine call_enumerate_list hl fun h' he hit hz hk => ?_
  have new0 : ∀ a, s.heap.objs.size ≤ a → h₀.get? a = none := fun a ha => notYet F ha
  have hLlt : L < s.heap.objs.size := F.ns.lt
  obtain ⟨g', tk', hs'⟩ := hs h'
  have hg : g' = h' := by
    have := congrArg Shared.heap hs'
    exact this.symm
  subst hg
  refine ⟨_, _, g', tk', hs', rfl, Nat.succ_ne_self _, Nat.ne_of_lt (Nat.lt_succ_of_lt hlt), Nat.ne_of_lt hlt, he, hit, F.keeps hk, N.grown hk, Nat.ne_of_lt (Nat.lt_succ_of_lt hLlt), Nat.ne_of_lt hLlt, new0 _ (Nat.le_succ _), new0 _ (Nat.le_refl _), fun p hp => ?_⟩
  have := Heap.lt_size (N p hp).1
  exact ⟨Nat.ne_of_lt (Nat.lt_succ_of_lt this), Nat.ne_of_lt this⟩
set_option maxHeartbeats 4000000 in
theorem Assign_E {elt iter : PySem.Expr} {x x₂ y : Str} {px px₂ tp py : Pos} {tk : Nat} {scope : Scope} {cl : List (Str × Addr)} {pos spos : Pos} {Q : Flow → Shared → Prop} {l : Addr} {vs : List Value} {k2 : Nat} {news : List (Addr × Obj)} {P : Nat → Obj → Prop}
    (_F₀ : Fr h₀ L s.heap m) (hh : A.handled = none) (hLe : env.locals = L)
    (hsw : swapsWith (.ListComp elt [⟨.Tuple [.Name x px, .Name x₂ px₂] tk tp, iter, [], 0⟩] scope pos) (some (.Name y py)) spos.line env = pure true)
    (hclos : closureFor scope env = pure cl) (hcell : ∀ z ∈ scope.names, z.2 ≠ .cell) (hkind : scope.kind = .function)
    (hnames : ∀ z ∈ scope.names, z.2 = .local → scope.names.lookup z.1 = some .local) (hx : scope.names.lookup x = some .local) (hx₂ : scope.names.lookup x₂ = some .local) (hxx : x ≠ x₂)
    (hy : env.kindOf y = some .local) (hp : (env.scope.kind == .class || (env.scope.kind == .module && env.locals != env.globals)) = false)
    (hs : ∀ x, foldedSetIterable iter env x = pure x) (hsz : vs.length ≤ sizeLine) (hlm : (l, W.listOf vs.toArray k2) ∈ news)
    (h : wpAny (model prog w) A (eval iter env) (SrcE h₀ L m news l s) E s)
    (ev : ∀ (i : Nat) t v e it C D oe oi oC oD m₂ acc h tk (E' : Value → Shared → Prop), vs[i]? = some v → NsObj oC m₂ → m₂ x = some (.int (i : Int) t) → m₂ x₂ = some v → Fr h₀ L h m → News h₀ L h ((e, oe) :: (it, oi) :: (C, oC) :: (D, oD) :: (acc ++ news)) →
      wpAny (model prog w) A (eval elt (compEnvC scope cl C env)) (EndE h₀ L m { s with heap := h, toks := tk } ((e, oe) :: (it, oi) :: (C, oC) :: (D, oD) :: (acc ++ news)) (P i)) E' { s with heap := h, toks := tk })
    (post : ∀ D h tk ys acc, Fr h₀ L h (fun z => if z = y then some (.ref D) else m z) → News h₀ L h ((D, lst ys) :: (acc ++ news)) → ys.length = vs.length →
      (∀ j, j < vs.length → ∃ q o, ys[j]? = some (.ref q) ∧ (q, o) ∈ acc ∧ P j o) → Q .next { s with heap := h, toks := tk }) :
    wpAny (model prog w) A (exec (.Assign [.Name y py] (.ListComp elt [⟨.Tuple [.Name x px, .Name x₂ px₂] tk tp, iter, [], 0⟩] scope pos) spos) env) Q E s := by
  subst hLe
  rw [exec_Assign_Name_used _ _ _ _ hsw]
  refine wpAny_bind (wpAny_standAt (wpAny_bind ?_))
  show wpAny _ A (do let _ ← comprehension (.ListComp elt [⟨.Tuple [.Name x px, .Name x₂ px₂] tk tp, iter, [], 0⟩] scope pos) scope env _ (newList []) false (eval iter env) (some (assign (.Name y py) env))) _ _ s
  refine wpAny_bind (wpAny_mono (wpAny_comprehension_free (use := some (assign (.Name y py) env)) (Q := fun _ s' => Q .next s') rfl hs hclos hkind hnames
    (wpAny_mono h (fun xv s₁ h₁ => ?_) fun _ _ e => e)) (fun _ s' hq => wpAny_pure (wpAny_pure hq)) fun _ _ e => e)
  obtain ⟨e, it, g, tk1, rfl, rfl, h1, h2, h3, he, hit, F, N, h4, h5, h6, h7, off⟩ := h₁
  refine wpAny_pyIter_enum he ?_
  refine block_E (P := P) hh h1 h2 h3 hsz hcell hkind hx hx₂ hxx he hit hlm F N h4 h5 h6 h7 off (fun i t v C D oe oi oC oD m₂ acc h tk E' a1 a2 a3 a4 a5 a6 => ev i t v e it C D oe oi oC oD m₂ acc h tk E' a1 a2 a3 a4 a5 a6) ?_
  intro D C h' tk m' ys acc F' N' hn hC₀ hCL hCD offC hyl hP
  show wpAny _ A (assign (.Name y py) env (.ref D)) _ _ _
  refine wpAny_assign_Name (wpAny_storeName_local hy F'.ns (fun h₂ hn₂ hs₂ => ?_) hp)
  have hL₀ : h₀.get? env.locals = none := Heap.get?_none_of_le F'.above
  have F₂ : Fr h₀ env.locals h₂ (fun z => if z = y then some (.ref D) else m z) := ⟨hn₂, fun b o e => hs₂.extBut b o (fun q => by rw [q, hL₀] at e; cases e) (F'.keep b o e), F'.above⟩
  refine ⟨m', hn.sameBut hs₂ hCL, fun h'' hs'' => post D h'' _ ys acc (F₂.change hs'' hCL hC₀) (fun p hp => ?_) hyl hP⟩
  have z : h₂.get? p.1 = some p.2 := hs₂.extBut _ _ (N' p hp).2.1 (N' p hp).1
  refine ⟨hs''.extBut _ _ ?_ z, (N' p hp).2⟩
  rcases List.mem_cons.mp hp with rfl | hp
  · exact Ne.symm hCD
  · exact offC p hp
end

end
section
open PyProof.Rows.LCg
/-- the tokens on the ledger -/
noncomputable def TokL (news : List (Addr × Obj)) (ys : List Value) (ts : List Tk) : Prop :=
  ys.length = ts.length ∧ ∀ (i : Nat) (t : Tk), ts[i]? = some t → ∃ b t1 t2 n t3, ys[i]? = some (.ref b) ∧ (b, tupO [.str t.kind t1, .str t.text t2, .int n t3]) ∈ news
theorem TokL.at {h : Heap} {news : List (Addr × Obj)} {q : Addr} {ys : List Value} {ts : List Tk} {k : Nat} (x : TokL news ys ts) (H : Have h news) (hq : h.get? q = some (W.listOf ys.toArray k)) (hl : ts.length ≤ 2 ^ 20) : ToksAt h q ts :=
  ⟨hl, ys, ⟨_, hq, rfl, k, rfl⟩, x.1, fun i t e => by
    obtain ⟨b, t1, t2, n, t3, h1, h2⟩ := x.2 i t e
    exact ⟨b, t1, t2, n, t3, h1, H.tup h2⟩⟩
noncomputable def RJ3 (ts : List Tk) (d : Dat) (deep high : Nat) (ns : List Int) (m : Str → Option Value) (news : List (Addr × Obj)) : Prop :=
  RJ2 ts d deep high ns m news ∧ ∃ q ys k, m (Str.ofString "tokens") = some (.ref q) ∧ (q, W.listOf ys.toArray k) ∈ news ∧ TokL news ys ts
end
local macro_rules | `(tactic| walk_at "call type:enumerate") => `(tactic| (k_here; refine Hold.out ?_))
section
open PyProof.Rows.LCg
section
variable {prog : Program} {w : World} {dp un : Nat} {gd : Option (List Code)} {fr : List Env} {base : Heap} {s : Shared} {mean : ExcName → Option Value} {mg mb : Str → Option Value}
theorem tup_item2 {A : Around} {E : Value → Shared → Prop} {h₀ : Heap} {L : Addr} {news : List (Addr × Obj)} {value slice : PySem.Expr} {b : Addr} {l : List Value} {kk : Nat} {k : Int} {u : Tok} {j : Nat} {x : Value} {Q : Value → Shared → Prop} (N : News h₀ L s.heap news) (hm : (b, ({ cls := .type "tuple", data := .seq l.toArray kk } : Obj)) ∈ news)
    (hlo : -(2 ^ 63) ≤ k) (hhi : k < 2 ^ 63) (hj : seqIndex? k l.length = some j) (hx : l[j]? = some x) (h : Q x s)
    (hs : subscripted slice false (.ref b) (.int k u) = operate [.ref b, .int k u] (getItem (.ref b) (.int k u)) := by with_unfolding_all rfl) :
    wpAny (model prog w) A (subscriptTail value slice (.ref b) (.int k u)) Q E s :=
  item_tupleT ((haveN N).tup hm) hlo hhi hj hx h hs
end
end
theorem word24 : True := by
  k_with "=mem" => (exact memIn (by assumption) (fun p hp => by simp only [List.mem_cons, List.mem_append, hp, or_true]))
  trivial
section
open PyProof.Rows.LCg
section
variable {prog : Program} {w : World} {dp un : Nat} {gd : Option (List Code)} {fr : List Env} {base : Heap} {s : Shared} {mean : ExcName → Option Value} {mg mb : Str → Option Value}
end
end
local macro_rules | `(tactic| walk_at "subscriptTail") => `(tactic| (k_here; (with_reducible show wpAny _ _ (subscriptTail _ _ (Value.ref _) (Value.int _ _)) _ _ _); (refine' tup_item2 ?N ?hm ?h1 ?h2 ?hj ?hx ?_ ?hs; (case N => k_asm); (case hm => walk_at "=mem"); (case h1 | h2 => decide); (case hj | hx => rfl); (case hs => with_unfolding_all rfl); k_whole)))
section
open PyProof.Rows.LCg
section
variable {prog : Program} {w : World} {dp un : Nat} {gd : Option (List Code)} {fr : List Env} {base : Heap} {s : Shared} {mean : ExcName → Option Value} {mg mb : Str → Option Value}
set_option maxHeartbeats 2000000 in
theorem seg10 {h₀ : Heap} {L fa : Addr} {cd : Value} {ns : List Int} {ts : List Tk} {d : Dat} {deep high : Nat} {m : Str → Option Value} {news : List (Addr × Obj)} {E : Value → Shared → Prop} (hE : POwn prog w L fa cd E)
    (B : Below (Ar 301 4 (some []) []) base [] h₀) (X : (gen.heap_1_39 w.params).In h₀) (T : Top gen.view_1_40 (looseW gen.view_1_40 [Str.ofString "PRIORITIES"]) mean mg mb h₀) (F : Fr h₀ L s.heap m) (NN : News h₀ L s.heap news) (hJ : RJ2 ts d deep high ns m news) (hlen : ts.length ≤ 2000) :
    wpAny (model prog w) ((Ar 301 4 (some []) []).deeper (LE L fa cd)) (execs ((lawBody.drop 10).take 1) (LE L fa cd)) (LPost s h₀ L (RJ3 ts d deep high ns)) E s := by
  unfold POwn at hE
  unfold LE at hE ⊢
  dsimp only [lawBody, lawFd, lawP, List.drop, List.take] at hE ⊢
  obtain ⟨c, ws, k, r, tv, hc, hcn, hI, hr, hD, ht, hDt, hir⟩ := hJ
  obtain ⟨vs, k2, hm2, hA⟩ := row_inv hD
  have hvs : vs.length = ts.length := hA.length.trans (List.length_map ..)
  have F2 := frSet (Str.ofString "is_right") (frSet (Str.ofString "tree") (frSet (Str.ofString "row") (frSet (Str.ofString "cells") F hc) hr) ht) hir
  clear F
  show wpAny _ _ _ _ _ _
  k_fold
  refine wpAny_execs_cons ?_
  refine' Assign_E (L := L) (h₀ := h₀) (l := r) (vs := vs) (k2 := k2) (news := news) (P := fun i o => ∃ t t1 t2 t3, ts[i]? = some t ∧ o = tupO [.str t.kind t1, .str t.text t2, .int (i : Int) t3]) F2 ?a1 ?a2 ?a3 ?a4 ?a5 ?a6 ?a7 ?a8 ?a9 ?b1 ?b2 ?b3 ?b4 ?b5 hm2 ?hit ?ev ?post
  case a1 => rfl
  case a2 => rfl
  case a3 => with_unfolding_all rfl
  case a4 => with_unfolding_all rfl
  case a5 => decide
  case a6 => rfl
  case a7 => decide
  case a8 => rfl
  case a9 => rfl
  case b1 => decide
  case b2 => rfl
  case b3 => rfl
  case b4 => (intro _; rfl)
  case b5 => rw [hvs, sizeLine_eq]; omega
  case hit =>
    k_steps
    show wpAny _ _ _ _ _ _
    exact enum_call F2 (by assumption) hm2 fun g => ⟨g, _, rfl⟩
  case ev =>
    intro i t v e it C D oe oi oC oD m₂ acc h tk E' hv hC hx hx2 F1 N1
    have hi : i < ts.length := by rw [← hvs]; exact (List.getElem?_eq_some_iff.mp hv).1
    obtain ⟨v', hv', hDv⟩ := hA.get (k := i) (by rw [List.length_map]; exact hi)
    obtain rfl : v' = v := Option.some.inj (hv'.symm.trans hv)
    rw [List.getElem_map] at hDv
    generalize hti : ts[i] = tk0 at hDv
    have hti' : ts[i]? = some tk0 := by rw [← hti]; exact List.getElem?_eq_getElem hi
    unfold tkD at hDv
    cases hDv with
    | tuple hmb hab =>
      cases hab with
      | cons h1 hab => cases hab with
        | cons h2 hab => cases hab with
          | nil =>
            cases h1
            cases h2
            k_steps
            rename (_ ∧ _ ∧ _ ∧ _ ∧ AllLt _ _) => hall
            refine ⟨_, _, _, _, rfl, rfl, by assumption, by assumption, ?_, tk0, _, _, _, hti', rfl⟩
            intro p hp
            rcases List.mem_cons.mp hp with rfl | hp
            · exact Nat.ne_of_lt hall.1
            rcases List.mem_cons.mp hp with rfl | hp
            · exact Nat.ne_of_lt hall.2.1
            rcases List.mem_cons.mp hp with rfl | hp
            · exact Nat.ne_of_lt hall.2.2.1
            rcases List.mem_cons.mp hp with rfl | hp
            · exact Nat.ne_of_lt hall.2.2.2.1
            · exact Nat.ne_of_lt (ktn_ltOf hall.2.2.2.2 p hp)
  case post =>
    intro D h tk ys acc F1 N1 hyl hP
    k_steps
    refine ⟨rfl, h, tk, _, _, rfl, F1, N1, ⟨c, ws, k, r, tv, rfl, .tail _ (List.mem_append.mpr (.inr hcn)), hI, rfl, hD.mono fun p hp => .tail _ (List.mem_append.mpr (.inr hp)), rfl, hDt.mono fun p hp => .tail _ (List.mem_append.mpr (.inr hp)), rfl⟩, D, ys, ys.length, rfl, .head _, hyl.trans hvs, fun i t hi => ?_⟩
    obtain ⟨q, o, h1, h2, t', t1, t2, t3, h3, rfl⟩ := hP i (by rw [hvs]; exact (List.getElem?_eq_some_iff.mp hi).1)
    obtain rfl : t' = t := Option.some.inj (h3.symm.trans hi)
    exact ⟨q, t1, t2, i, t3, h1, .tail _ (List.mem_append.mpr (.inl h2))⟩
end

end
section
variable {prog : Program} {w : World} {dp un : Nat} {gd : Option (List Code)} {fr : List Env} {base : Heap} {s : Shared} {mean : ExcName → Option Value} {mg mb : Str → Option Value}
/-- heard: the answer, or None -/
noncomputable def Heard (P : Value → List (Addr × Obj) → Prop) (X : Prop) (v : Value) (tl : List (Addr × Obj)) : Prop := P v tl ∨ (X ∧ v = .none ∧ tl = [])
theorem raised_more {g G h : Heap} {l : List Env} {e t L : Addr} {cls : Value} {vs : List Value} {news : List (Addr × Obj)} {m : Str → Option Value} (R : RaisedS base G l e cls t vs [] h) (U : G.UpToSlots h) (F : Fr g L G m) (N : News g L G news) (hb : ∀ b o, base.get? b = some o → g.get? b = some o) (hl : ∀ p ∈ news, p.1 ∉ l.filterMap (·.frame)) :
    ∃ G', RaisedS base G' l e cls t vs news h ∧ G'.UpToSlots h ∧ Fr g L G' m := by
  obtain ⟨⟨B, hB, hBG, _, hfl, hnew⟩, htup⟩ := R
  have nm : ∀ b o, g.get? b = some o → b ∉ news.map (·.1) := fun b o e q => by
    obtain ⟨p, hp, rfl⟩ := List.mem_map.mp q
    rw [(N p hp).2.2] at e
    cases e
  have nL : L ∉ news.map (·.1) := fun q => by
    obtain ⟨p, hp, e⟩ := List.mem_map.mp q
    exact (N p hp).2.1 e
  refine ⟨hideAll G (news.map (·.1)), ⟨⟨B, hB, fun b o x nf => hBG b o (of_hideAll _ x) nf, fun q hq => ⟨hBG _ _ (N q hq).1 (hl q hq), hideAll_none _ (List.mem_map_of_mem hq), ?_⟩, hfl, hnew⟩, htup⟩, fun b o x => U b o (of_hideAll _ x), ?_⟩
  · cases y : base.get? q.1 with
    | none => rfl
    | some o =>
      have := (N q hq).2.2
      rw [hb _ _ y] at this
      cases this
  · obtain ⟨oL, es, ep, hoL, r⟩ := F.ns
    exact ⟨⟨oL, es, ep, hideAll_get _ hoL nL, r⟩, fun b o x => hideAll_get _ (F.keep b o x) (nm b o x), F.above⟩
end
theorem word25 : True := by
  k_with "=entS" => ((
    (case k1 | k2 | k3 | k4 | k5 | cK => assumption)
    (case kA => exact rfl)
    walk_at "=enter"))
  trivial
section
variable {prog : Program} {w : World} {dp un : Nat} {gd : Option (List Code)} {fr : List Env} {base : Heap} {s : Shared} {mean : ExcName → Option Value} {mg mb : Str → Option Value}
set_option maxHeartbeats 2000000 in
theorem plain_use {h₀ : Heap} {L f a : Addr} {m : Str → Option Value} {news : List (Addr × Obj)} {cn : Str} {cs : Scope} {cd : Value} {ts : List Tk} {rb : Rb} {D U : Nat} {Q E : Value → Shared → Prop}
    (XB : (gen.heap_1_39 w.params).In base) (TB : Top gen.view_1_40 (looseW gen.view_1_40 [Str.ofString "PRIORITIES"]) mean mg mb base)
    (B : Below (Ar dp un gd []) base [] h₀) (X : (gen.heap_1_39 w.params).In h₀) (T : Top gen.view_1_40 (looseW gen.view_1_40 [Str.ofString "PRIORITIES"]) mean mg mb h₀) (F : Fr h₀ L s.heap m) (N : News h₀ L s.heap news) (TK : ∀ h' : Heap, Have h' news → ToksAt h' a ts) (H : RBc prog w ts rb D U)
    (hdp : dp + 3 + D < 1000) (hun : un + 9 + U < 9900) (hdp2 : dp + 10 < 1000) (hun2 : un + 90 < 9900) (hk : cs.kind = .function) (hne : rb 0 1 0 ≠ .out)
    (ret : ∀ v tl h' tk', Fr h₀ L h' m → News h₀ L h' (tl ++ news) → Heard (Pair (rb 0 1 0)) (rb 0 1 0 = .fault) v tl → Q v { s with heap := h', toks := tk' }) :
    wpAny (model prog w) ((Ar dp un gd []).deeper (envOf cn cs L f cd)) (call (.ref 314) [.ref a]) Q E s := by
  refine wpAny_call ?_
  refine' code_defS0 (binds := [(Str.ofString "tokens", .ref a)]) ?k1 ?k2 ?k3 ?k4 ?k5 ?kA ?k6 ?k7 ?k8 ?k9 ?kB ?_ ?cK ?c2 ?c3 ?c4 ?c5
  walk_at "=entS"
  intro g L' h₁ FG F' N' B' X' T' D'
  walk_at "=go"
  refine CallSpec.use (parse_expr_spec (dp := dp + 2) (un := un + 6) (gd := gd) (i := 0) (Cx.inn (dp := dp + 1) (un := un + 3) (gd := gd) (fr := [envOf cn cs L f cd]) B' X' T' F' rfl) (TK _ (haveN N')) H (by omega) (by omega) (by omega) (by omega) hne) F' N' ?_ ?_
  · intro v tl h' tk' F2 N2 NI p
    (try dsimp only)
    (try (k_unfold; dsimp only))
    show LeaveS0 _ _ _ _ _ _ _ _
    exact leaveS0_ F2 N2 KtsTurn.refl fun kF kN => ret v tl h' tk' kF kN (.inl p)
  · intro hr e h' tk' Fl
    obtain ⟨t, vs, R, U⟩ := Fl
    obtain ⟨G3, R, U, F3⟩ := raised_more R U F' N' B'.stays fun p hp q => by
      rcases kts_mem q with z | z
      · exact (N' p hp).2.1 z
      · rcases kts_mem z with z | z
        · exact (N p hp).2.1 z
        · simp at z
    refine caught_SO0 R F3 B' U XB TB D' KtsTurn.refl (by k_is) (by kts_isx) ?_
    intro h2 g' news2 T2 F2 N2 G2 N2' B2 X2 P2 D2
    k_steps
    exact ret .none [] _ _ (by assumption) (by assumption) (.inr ⟨hr, rfl, rfl⟩)
theorem arguments_use {ts : List Tk} {rb : Rb} {D U : Nat} {h₀ : Heap} {L f a : Addr} {m : Str → Option Value} {news : List (Addr × Obj)} {cn : Str} {cs : Scope} {cd : Value} {i : Nat} {t1 : Tok} {Q E : Value → Shared → Prop}
    (H : RBc prog w ts rb D U) (B : Below (Ar dp un gd fr) base fr h₀) (X : (gen.heap_1_39 w.params).In h₀) (T : Top gen.view_1_40 (looseW gen.view_1_40 [Str.ofString "PRIORITIES"]) mean mg mb h₀) (F : Fr h₀ L s.heap m) (N : News h₀ L s.heap news) (TK : ToksAt h₀ a ts)
    (hdp : dp + 3 + D < 1000) (hun : un + 9 + U < 9900) (hdp2 : dp + 6 < 1000) (hun2 : un + 66 < 9900) (hk : cs.kind = .function) (hne : rArgs ts rb i 0 ≠ .out)
    (ret : ∀ rows e h q tv t tl h' tk', rArgs ts rb i 0 = .ok (rows, e, h) → Fr h₀ L h' m → News h₀ L h' ((q, tupO [tv, .int ((e : Nat) : Int) t]) :: (tl ++ news)) → DatIn tl tv (.list rows) → Q (.ref q) { s with heap := h', toks := tk' })
    (exc : rArgs ts rb i 0 = .fault → ∀ e h' tk', Flies base s.heap (envOf cn cs L f cd :: fr) e h' → E (.ref e) { s with heap := h', toks := tk' }) :
    wpAny (model prog w) ((Ar dp un gd fr).deeper (envOf cn cs L f cd)) (call (.ref 201) [.ref a, .int (i : Int) t1, .bool false]) Q E s :=
  CallSpec.use (parse_arguments_spec (Cx.inn (a := f) (cd := cd) B X T F hk) (TK.keeps F.keep) H (by omega) (by omega) (by omega) (by omega) hne) F N (fun v tl h' tk' F' N' NI p => by
    obtain ⟨d, e, h, hr, q, tv, t, rfl, hm, hd⟩ := p
    exact ret d e h q tv t tl h' tk' hr F' (fun p hp => by
      rcases List.mem_cons.mp hp with rfl | hp
      · exact N' _ (List.mem_append.mpr (.inl hm))
      · exact N' p hp) hd) exc
set_option maxHeartbeats 2000000 in
theorem law_listed_spec {a : Addr} {ts : List Tk} {rb : Rb} {D U i : Nat} {t : Tok} (C : Cx w (Ar dp un gd fr) base fr mean mg mb s.heap) (TK : ToksAt s.heap a ts) (H : RBc prog w ts rb D U) (hdp : dp + 3 + D < 1000) (hun : un + 9 + U < 9900) (hdp2 : dp + 6 < 1000) (hun2 : un + 66 < 9900) (hne : rArgs ts rb i 0 ≠ .out) :
    CallSpec prog w (Ar dp un gd fr) fr base s 321 [.ref a, .int i t] (PairA (rArgs ts rb i 0)) (rArgs ts rb i 0 = .fault) := by
  refine' enter (binds := [(Str.ofString "tokens", .ref a), (Str.ofString "at", .int i t)]) C ?k6 ?k7 ?k8 ?k9 ?kB ?_ ?c2 ?c3 ?c4 ?c5
  walk_at "=enter"
  intro L h₁ E hexc F N
  have X := C.X
  have T := C.T
  have B := C.B
  walk_at "=go"
  refine arguments_use H B X T (by assumption) (by assumption) TK (by omega) (by omega) (by omega) (by omega) rfl hne ?_ ?_
  · intro rows e h q tv t8 tl h2' tk2' hr F2' N2' D2
    walk_at "=ret"
    exact ⟨_, _, _, _, rfl, by assumption, NewIn.of (by assumption), rows, e, h, hr, _, _, _, rfl, by k_mem, by kd_in⟩
  · intro hr e' h' tk' R'
    exact thru (s := s) B (by assumption) R' (hexc hr)
set_option maxHeartbeats 2000000 in
theorem heard_target {h₀ : Heap} {L f a : Addr} {m : Str → Option Value} {news : List (Addr × Obj)} {cn : Str} {cs : Scope} {cd : Value} {ts : List Tk} {rb : Rb} {D U : Nat} {Q E : Value → Shared → Prop}
    (XB : (gen.heap_1_39 w.params).In base) (TB : Top gen.view_1_40 (looseW gen.view_1_40 [Str.ofString "PRIORITIES"]) mean mg mb base)
    (B : Below (Ar dp un gd []) base [] h₀) (X : (gen.heap_1_39 w.params).In h₀) (T : Top gen.view_1_40 (looseW gen.view_1_40 [Str.ofString "PRIORITIES"]) mean mg mb h₀) (F : Fr h₀ L s.heap m) (N : News h₀ L s.heap news) (TK : ∀ h' : Heap, Have h' news → ToksAt h' a ts) (H : RBc prog w ts rb D U)
    (hdp : dp + 8 + D < 1000) (hun : un + 24 + U < 9900) (hdp2 : dp + 20 < 1000) (hun2 : un + 90 < 9900) (hk : cs.kind = .function) (hne : rTarget ts rb 0 ≠ .out)
    (ret : ∀ v tl h' tk', Fr h₀ L h' m → News h₀ L h' (tl ++ news) → Heard (Pair (rTarget ts rb 0)) (rTarget ts rb 0 = .fault) v tl → Q v { s with heap := h', toks := tk' }) :
    wpAny (model prog w) ((Ar dp un gd []).deeper (envOf cn cs L f cd)) (call (.ref 307) [.ref 222, .ref a]) Q E s := by
  refine wpAny_call ?_
  refine' code_defS0 (binds := [(Str.ofString "call", .ref 222), (Str.ofString "tokens", .ref a)]) ?k1 ?k2 ?k3 ?k4 ?k5 ?kA ?k6 ?k7 ?k8 ?k9 ?kB ?_ ?cK ?c2 ?c3 ?c4 ?c5
  walk_at "=entS"
  intro g L' h₁ FG F' N' B' X' T' D'
  walk_at "=go"
  refine CallSpec.use (parse_target_spec (dp := dp + 2) (un := un + 6) (gd := gd) (i := 0) (Cx.inn (dp := dp + 1) (un := un + 3) (gd := gd) (fr := [envOf cn cs L f cd]) B' X' T' F' rfl) (TK _ (haveN N')) H (by omega) (by omega) (by omega) (by omega) hne) F' N' ?_ ?_
  · intro v tl h' tk' F2 N2 NI p
    (try dsimp only)
    (try (k_unfold; dsimp only))
    show LeaveS0 _ _ _ _ _ _ _ _
    exact leaveS0_ F2 N2 KtsTurn.refl fun kF kN => ret v tl h' tk' kF kN (.inl p)
  · intro hr e h' tk' Fl
    obtain ⟨t, vs, R, U⟩ := Fl
    obtain ⟨G3, R, U, F3⟩ := raised_more R U F' N' B'.stays fun p hp q => by
      rcases kts_mem q with z | z
      · exact (N' p hp).2.1 z
      · rcases kts_mem z with z | z
        · exact (N p hp).2.1 z
        · simp at z
    refine caught_SO0 R F3 B' U XB TB D' KtsTurn.refl (by k_is) (by kts_isx) ?_
    intro h2 g' news2 T2 F2 N2 G2 N2' B2 X2 P2 D2
    k_steps
    exact ret .none [] _ _ (by assumption) (by assumption) (.inr ⟨hr, rfl, rfl⟩)
set_option maxHeartbeats 2000000 in
theorem heard_items {h₀ : Heap} {L f a : Addr} {m : Str → Option Value} {news : List (Addr × Obj)} {cn : Str} {cs : Scope} {cd : Value} {ts : List Tk} {rb : Rb} {D U : Nat} {Q E : Value → Shared → Prop}
    (XB : (gen.heap_1_39 w.params).In base) (TB : Top gen.view_1_40 (looseW gen.view_1_40 [Str.ofString "PRIORITIES"]) mean mg mb base)
    (B : Below (Ar dp un gd []) base [] h₀) (X : (gen.heap_1_39 w.params).In h₀) (T : Top gen.view_1_40 (looseW gen.view_1_40 [Str.ofString "PRIORITIES"]) mean mg mb h₀) (F : Fr h₀ L s.heap m) (N : News h₀ L s.heap news) (TK : ∀ h' : Heap, Have h' news → ToksAt h' a ts) (H : RBc prog w ts rb D U)
    (hdp : dp + 8 + D < 1000) (hun : un + 24 + U < 9900) (hdp2 : dp + 20 < 1000) (hun2 : un + 90 < 9900) (hk : cs.kind = .function) (hlen : 0 < ts.length) (hne : rItems ts rb 0 ≠ .out)
    (ret : ∀ v tl h' tk', Fr h₀ L h' m → News h₀ L h' (tl ++ news) → Heard (PairI (rItems ts rb 0)) (rItems ts rb 0 = .fault) v tl → Q v { s with heap := h', toks := tk' }) :
    wpAny (model prog w) ((Ar dp un gd []).deeper (envOf cn cs L f cd)) (call (.ref 307) [.ref 236, .ref a]) Q E s := by
  refine wpAny_call ?_
  refine' code_defS0 (binds := [(Str.ofString "call", .ref 236), (Str.ofString "tokens", .ref a)]) ?k1 ?k2 ?k3 ?k4 ?k5 ?kA ?k6 ?k7 ?k8 ?k9 ?kB ?_ ?cK ?c2 ?c3 ?c4 ?c5
  walk_at "=entS"
  intro g L' h₁ FG F' N' B' X' T' D'
  walk_at "=go"
  refine CallSpec.use (parse_items_spec (dp := dp + 2) (un := un + 6) (gd := gd) (i := 0) (Cx.inn (dp := dp + 1) (un := un + 3) (gd := gd) (fr := [envOf cn cs L f cd]) B' X' T' F' rfl) (TK _ (haveN N')) H (by omega) (by omega) (by omega) (by omega) hlen hne) F' N' ?_ ?_
  · intro v tl h' tk' F2 N2 NI p
    (try dsimp only)
    (try (k_unfold; dsimp only))
    show LeaveS0 _ _ _ _ _ _ _ _
    exact leaveS0_ F2 N2 KtsTurn.refl fun kF kN => ret v tl h' tk' kF kN (.inl p)
  · intro hr e h' tk' Fl
    obtain ⟨t, vs, R, U⟩ := Fl
    obtain ⟨G3, R, U, F3⟩ := raised_more R U F' N' B'.stays fun p hp q => by
      rcases kts_mem q with z | z
      · exact (N' p hp).2.1 z
      · rcases kts_mem z with z | z
        · exact (N p hp).2.1 z
        · simp at z
    refine caught_SO0 R F3 B' U XB TB D' KtsTurn.refl (by k_is) (by kts_isx) ?_
    intro h2 g' news2 T2 F2 N2 G2 N2' B2 X2 P2 D2
    k_steps
    exact ret .none [] _ _ (by assumption) (by assumption) (.inr ⟨hr, rfl, rfl⟩)
set_option maxHeartbeats 2000000 in
theorem heard_listed {h₀ : Heap} {L f a : Addr} {m : Str → Option Value} {news : List (Addr × Obj)} {cn : Str} {cs : Scope} {cd : Value} {ts : List Tk} {rb : Rb} {D U : Nat} {Q E : Value → Shared → Prop}
    (XB : (gen.heap_1_39 w.params).In base) (TB : Top gen.view_1_40 (looseW gen.view_1_40 [Str.ofString "PRIORITIES"]) mean mg mb base)
    (B : Below (Ar dp un gd []) base [] h₀) (X : (gen.heap_1_39 w.params).In h₀) (T : Top gen.view_1_40 (looseW gen.view_1_40 [Str.ofString "PRIORITIES"]) mean mg mb h₀) (F : Fr h₀ L s.heap m) (N : News h₀ L s.heap news) (TK : ∀ h' : Heap, Have h' news → ToksAt h' a ts) (H : RBc prog w ts rb D U)
    (hdp : dp + 8 + D < 1000) (hun : un + 24 + U < 9900) (hdp2 : dp + 20 < 1000) (hun2 : un + 90 < 9900) (hk : cs.kind = .function) (hne : rArgs ts rb 0 0 ≠ .out)
    (ret : ∀ v tl h' tk', Fr h₀ L h' m → News h₀ L h' (tl ++ news) → Heard (PairA (rArgs ts rb 0 0)) (rArgs ts rb 0 0 = .fault) v tl → Q v { s with heap := h', toks := tk' }) :
    wpAny (model prog w) ((Ar dp un gd []).deeper (envOf cn cs L f cd)) (call (.ref 307) [.ref 321, .ref a]) Q E s := by
  refine wpAny_call ?_
  refine' code_defS0 (binds := [(Str.ofString "call", .ref 321), (Str.ofString "tokens", .ref a)]) ?k1 ?k2 ?k3 ?k4 ?k5 ?kA ?k6 ?k7 ?k8 ?k9 ?kB ?_ ?cK ?c2 ?c3 ?c4 ?c5
  walk_at "=entS"
  intro g L' h₁ FG F' N' B' X' T' D'
  walk_at "=go"
  refine CallSpec.use (law_listed_spec (dp := dp + 2) (un := un + 6) (gd := gd) (i := 0) (Cx.inn (dp := dp + 1) (un := un + 3) (gd := gd) (fr := [envOf cn cs L f cd]) B' X' T' F' rfl) (TK _ (haveN N')) H (by omega) (by omega) (by omega) (by omega) hne) F' N' ?_ ?_
  · intro v tl h' tk' F2 N2 NI p
    (try dsimp only)
    (try (k_unfold; dsimp only))
    show LeaveS0 _ _ _ _ _ _ _ _
    exact leaveS0_ F2 N2 KtsTurn.refl fun kF kN => ret v tl h' tk' kF kN (.inl p)
  · intro hr e h' tk' Fl
    obtain ⟨t, vs, R, U⟩ := Fl
    obtain ⟨G3, R, U, F3⟩ := raised_more R U F' N' B'.stays fun p hp q => by
      rcases kts_mem q with z | z
      · exact (N' p hp).2.1 z
      · rcases kts_mem z with z | z
        · exact (N p hp).2.1 z
        · simp at z
    refine caught_SO0 R F3 B' U XB TB D' KtsTurn.refl (by k_is) (by kts_isx) ?_
    intro h2 g' news2 T2 F2 N2 G2 N2' B2 X2 P2 D2
    k_steps
    exact ret .none [] _ _ (by assumption) (by assumption) (.inr ⟨hr, rfl, rfl⟩)
end
theorem TokL.mono {news news' : List (Addr × Obj)} {ys : List Value} {ts : List Tk} (x : TokL news ys ts) (hs : ∀ p ∈ news, p ∈ news') : TokL news' ys ts :=
  ⟨x.1, fun i t e => by
    obtain ⟨b, t1, t2, n, t3, h1, h2⟩ := x.2 i t e
    exact ⟨b, t1, t2, n, t3, h1, hs _ h2⟩⟩
theorem kqd_mono : ∀ (n k : Nat) (d : Dat), n ≤ k → kqdOk n d = true → kqdOk k d = true
  | n, k, .none, _, _ => by cases k <;> rfl
  | n, k, .bool b, _, h => by cases n <;> simp [kqdOk] at h
  | n, k, .int i, _, _ => by cases k <;> rfl
  | n, k, .str x, _, h => by cases n <;> cases k <;> simpa [kqdOk] using h
  | n, k, .bytes b, _, h => by cases n <;> simp [kqdOk] at h
  | 0, k, .tuple ds, _, h => by simp [kqdOk] at h
  | 0, k, .list ds, _, h => by simp [kqdOk] at h
  | n + 1, 0, .tuple ds, hk, _ => absurd hk (by omega)
  | n + 1, 0, .list ds, hk, _ => absurd hk (by omega)
  | n + 1, k + 1, .tuple ds, hk, h => by
    simp only [kqdOk, List.all_eq_true] at h ⊢
    exact fun x hx => kqd_mono n k x (by omega) (h x hx)
  | n + 1, k + 1, .list ds, hk, h => by
    simp only [kqdOk, List.all_eq_true] at h ⊢
    exact fun x hx => kqd_mono n k x (by omega) (h x hx)
section
variable {prog : Program} {w : World} {A : Around} {E : Value → Shared → Prop} {s : Shared} {h₀ : Heap} {L : Addr} {m : Str → Option Value} {news : List (Addr × Obj)}
theorem cmp_ne_same {v1 v2 : Value} {d : Dat} {n : Nat} {Q : Value → Shared → Prop} (N : News h₀ L s.heap news) (D1 : DatIn news v1 d) (D2 : DatIn news v2 d) (hk : kqdOk n d = true) (hu : A.units + n < 9900) (h : Q (.bool false) s) : wpAny (model prog w) A (compareOp .NotEq v1 v2) Q E s := by
  obtain ⟨as, ra⟩ := kqd_in N n D1 hk
  obtain ⟨bs, rb⟩ := kqd_in N n D2 hk
  have l := kqd_lay n d hk
  refine SeqAt.compareNe_reads ra rb l.1 l.1 ?_ (by rw [(kqd_eqv n d d n hk hk).mpr rfl]; exact h)
  have := l.2
  have e : cLine = 9900 := rfl
  rw [e]
  omega
theorem cmp_eq_same {v1 v2 : Value} {d : Dat} {n : Nat} {Q : Value → Shared → Prop} (N : News h₀ L s.heap news) (D1 : DatIn news v1 d) (D2 : DatIn news v2 d) (hk : kqdOk n d = true) (hu : A.units + n < 9900) (h : Q (.bool true) s) : wpAny (model prog w) A (compareOp .Eq v1 v2) Q E s := by
  obtain ⟨as, ra⟩ := kqd_in N n D1 hk
  obtain ⟨bs, rb⟩ := kqd_in N n D2 hk
  have l := kqd_lay n d hk
  refine SeqAt.compareEq_reads ra rb l.1 l.1 ?_ (by rw [(kqd_eqv n d d n hk hk).mpr rfl]; exact h)
  have := l.2
  have e : cLine = 9900 := rfl
  rw [e]
  omega
theorem len_row {c : Addr} {vs : List Value} {k n : Nat} {Q : Value → Shared → Prop} (N : News h₀ L s.heap news) (hm : (c, W.listOf vs.toArray k) ∈ news) (hv : vs.length = n) (hl : n ≤ 2 ^ 20)
    (h : Q (.int (n : Int) (s.toks + 1)) { s with toks := s.toks + 1 + 1 }) : wpAny (model prog w) A (call (.builtin "len") [.ref c]) Q E s := by
  have e : (vs.toArray.size : Int) = (n : Int) := by simp [hv]
  refine len_list (memList N hm) ?_ (by rw [e]; exact h)
  rw [e]
  omega
end
local macro_rules | `(tactic| walk_at "call builtin:len") => `(tactic| (k_here; (with_reducible show wpAny _ _ (call (Value.builtin "len") [Value.ref _]) _ _ _); (refine' len_row ?N ?hm ?hv ?hl ?_; (case N => k_asm); (case hm => walk_at "=mem"); (case hv => assumption); (case hl => omega); k_whole)))
section
variable {prog : Program} {w : World} {A : Around} {E : Value → Shared → Prop} {s : Shared} {h₀ : Heap} {L : Addr} {m : Str → Option Value} {news : List (Addr × Obj)}
end
local macro_rules | `(tactic| walk_at "compareOp NotEq ref ref") => `(tactic| (k_here; refine Hold.out ?_))
section
variable {prog : Program} {w : World} {A : Around} {E : Value → Shared → Prop} {s : Shared} {h₀ : Heap} {L : Addr} {m : Str → Option Value} {news : List (Addr × Obj)}
end
local macro_rules | `(tactic| walk_at "compareOp Eq ref ref") => `(tactic| (k_here; refine Hold.out ?_))
section
variable {prog : Program} {w : World} {A : Around} {E : Value → Shared → Prop} {s : Shared} {h₀ : Heap} {L : Addr} {m : Str → Option Value} {news : List (Addr × Obj)}
end
section
variable {prog : Program} {w : World} {dp un : Nat} {gd : Option (List Code)} {fr : List Env} {base : Heap} {s : Shared} {mean : ExcName → Option Value} {mg mb : Str → Option Value}
set_option maxHeartbeats 2000000 in
theorem seg11 {h₀ : Heap} {L fa : Addr} {cd : Value} {ns : List Int} {ts : List Tk} {d : Dat} {deep high : Nat} {m : Str → Option Value} {news : List (Addr × Obj)} {E : Value → Shared → Prop} {rb : Rb} {D U kd : Nat} (hE : POwn prog w L fa cd E)
    (XB : (gen.heap_1_39 w.params).In base) (TB : Top gen.view_1_40 (looseW gen.view_1_40 [Str.ofString "PRIORITIES"]) mean mg mb base)
    (B : Below (Ar 301 4 (some []) []) base [] h₀) (X : (gen.heap_1_39 w.params).In h₀) (T : Top gen.view_1_40 (looseW gen.view_1_40 [Str.ofString "PRIORITIES"]) mean mg mb h₀) (F : Fr h₀ L s.heap m) (NN : News h₀ L s.heap news) (hJ : RJ3 ts d deep high ns m news) (hlen : ts.length ≤ 2000)
    (H : RBc prog w ts rb D U) (hD : D ≤ 600) (hU : U ≤ 3000) (hk : kqdOk kd d = true) (hkd : kd ≤ 6000)
    (yes : deep ≤ 40 ∧ high ≤ 100 → ∃ h, rb 0 1 0 = .ok (d, ts.length, h)) (no : ¬ (deep ≤ 40 ∧ high ≤ 100) → rb 0 1 0 = .fault) :
    wpAny (model prog w) ((Ar 301 4 (some []) []).deeper (LE L fa cd)) (execs ((lawBody.drop 11).take 1) (LE L fa cd)) (LPost s h₀ L (RJ3 ts d deep high ns)) E s := by
  unfold POwn at hE
  unfold LE at hE ⊢
  dsimp only [lawBody, lawFd, lawP, List.drop, List.take] at hE ⊢
  obtain ⟨⟨c, ws, k, r, tv, hc, hcn, hI, hr, hD1, ht, hDt, hir⟩, q, ys, k3, htok, hq, hTL⟩ := hJ
  obtain ⟨vs, k2, hm2, hA⟩ := row_inv hD1
  have hvs : vs.length = ts.length := hA.length.trans (List.length_map ..)
  have TK : ∀ h' : Heap, Have h' news → ToksAt h' q ts := fun h' H' => hTL.at H' (H' _ hq) (by omega)
  by_cases hg : deep ≤ 40 ∧ high ≤ 100
  · have e1 : (decide (deep ≤ 40) && decide (high ≤ 100)) = true := by simp [hg.1, hg.2]
    obtain ⟨hh, hrb⟩ := yes hg
    rw [e1] at hir
    have F2 := frSet (Str.ofString "is_right") (frSet (Str.ofString "tree") (frSet (Str.ofString "row") (frSet (Str.ofString "cells") (frSet (Str.ofString "tokens") F htok) hc) hr) ht) hir
    clear F
    walk_at "=go"
    show wpAny _ _ _ _ _ _
    refine plain_use XB TB B X T (by assumption) (by assumption) TK H (by omega) (by omega) (by omega) (by omega) rfl (by rw [hrb]; exact fun z => nomatch z) ?_
    intro v tl h' tk' F' N' hv
    rcases hv with ⟨d', e', g', hr', q', tv', t', rfl, hm', hd'⟩ | ⟨hf, _⟩
    · rw [hrb] at hr'
      cases hr'
      k_steps
      show wpAny _ _ _ _ _ _
      refine cmp_ne_same (d := .tuple [d, .int (ts.length : Nat)]) (n := kd + 1) (by assumption) (by kd_in) (by kd_in) (by simp [kqdOk, hk]) (by show 7 + (kd + 1) < 9900; omega) ?_
      k_steps
      have sub : ∀ p ∈ news, ∀ x, p ∈ x :: (tl ++ news) := fun p hp x => .tail _ (List.mem_append.mpr (.inr hp))
      exact ⟨rfl, _, _, _, _, rfl, by assumption, by assumption, ⟨c, ws, k, r, tv, rfl, sub _ hcn _, hI, rfl, hD1.mono fun p hp => sub p hp _, rfl, hDt.mono fun p hp => sub p hp _, by rw [e1]; rfl⟩, q, ys, k3, rfl, sub _ hq _, hTL.mono fun p hp => sub p hp _⟩
    · rw [hrb] at hf
      cases hf
  · have e1 : (decide (deep ≤ 40) && decide (high ≤ 100)) = false := by
      cases q1 : (decide (deep ≤ 40) && decide (high ≤ 100)) with
      | false => rfl
      | true =>
        simp at q1
        exact absurd q1 hg
    have hrb := no hg
    rw [e1] at hir
    have F2 := frSet (Str.ofString "is_right") (frSet (Str.ofString "tree") (frSet (Str.ofString "row") (frSet (Str.ofString "cells") (frSet (Str.ofString "tokens") F htok) hc) hr) ht) hir
    clear F
    walk_at "=go"
    show wpAny _ _ _ _ _ _
    refine plain_use XB TB B X T (by assumption) (by assumption) TK H (by omega) (by omega) (by omega) (by omega) rfl (by rw [hrb]; exact fun z => nomatch z) ?_
    intro v tl h' tk' F' N' hv
    rcases hv with ⟨d', e', g', hr', _⟩ | ⟨hf, rfl, rfl⟩
    · rw [hrb] at hr'
      cases hr'
    · k_steps
      exact ⟨rfl, h', tk', _, news, rfl, F', N', ⟨c, ws, k, r, tv, rfl, hcn, hI, rfl, hD1, rfl, hDt, by rw [e1]; rfl⟩, q, ys, k3, rfl, hq, hTL⟩
end
noncomputable def LRet (s : Shared) (h₀ : Heap) (L : Addr) (f : Flow) (s' : Shared) : Prop := f = .ret (.bool true) ∧ ∃ h tk m, s' = { s with heap := h, toks := tk } ∧ Fr h₀ L h m
/-- what the readers say of the tokens -/
structure Says (ts : List Tk) (d : Dat) (deep high : Nat) (rb rb2 : Rb) : Prop where
  tYes : deep ≤ 40 ∧ high ≤ 100 → (ts[0]?.map Tk.isName) = some true → ∃ h, rTarget ts rb 0 = .ok (d, ts.length, h)
  tNo : ¬ (deep ≤ 40 ∧ high ≤ 100 ∧ (ts[0]?.map Tk.isName) = some true) → rTarget ts rb 0 = .fault
  iYes : deep ≤ 40 ∧ high ≤ 100 → ∃ h, rItems ts rb 0 = .ok (d, ts.length, h)
  iNo : ¬ (deep ≤ 40 ∧ high ≤ 100) → rItems ts rb 0 = .fault
  aYes : deep ≤ 40 ∧ high ≤ 100 → ∃ h, rArgs (.lp :: (ts ++ [.rp])) rb2 0 0 = .ok ([d], ts.length + 2, h)
  aNo : ¬ (deep ≤ 40 ∧ high ≤ 100) → rArgs (.lp :: (ts ++ [.rp])) rb2 0 0 = .fault
section
variable {prog : Program} {w : World} {dp un : Nat} {gd : Option (List Code)} {fr : List Env} {base : Heap} {s : Shared} {mean : ExcName → Option Value} {mg mb : Str → Option Value}
theorem listLen {ys : List Value} {n : Nat} {x y : Value} (h : ys.length = n) : ([x] ++ ys ++ [y]).length = n + 2 := by
  simp only [List.length_append, List.length_cons, List.length_nil, h]
  omega
theorem TokL.wrap {news : List (Addr × Obj)} {ys : List Value} {ts : List Tk} {a b : Addr} {t1 t2 t3 u1 u2 u3 : Tok} {n k : Int} (x : TokL news ys ts) (ha : (a, tupO [.str (Str.ofString "OP") t1, .str (Str.ofString "(") t2, .int n t3]) ∈ news) (hb : (b, tupO [.str (Str.ofString "OP") u1, .str (Str.ofString ")") u2, .int k u3]) ∈ news) :
    TokL news ([Value.ref a] ++ ys ++ [Value.ref b]) (.lp :: (ts ++ [.rp])) := by
  refine ⟨by rw [listLen x.1]; simp only [List.length_cons, List.length_append, List.length_nil], fun i t e => ?_⟩
  cases i with
  | zero =>
    obtain rfl : Tk.lp = t := Option.some.inj e
    exact ⟨a, t1, t2, n, t3, rfl, ha⟩
  | succ i =>
    have e' : (ts ++ [Tk.rp])[i]? = some t := by simpa using e
    by_cases hi : i < ts.length
    · rw [List.getElem?_append_left hi] at e'
      obtain ⟨b', v1, v2, n', v3, h1, h2⟩ := x.2 i t e'
      refine ⟨b', v1, v2, n', v3, ?_, h2⟩
      have hy : i < ys.length := by rw [x.1]; exact hi
      have : ([Value.ref a] ++ ys ++ [Value.ref b])[i + 1]? = ys[i]? := by
        simp only [List.cons_append, List.nil_append, List.getElem?_cons_succ]
        rw [List.getElem?_append_left hy]
      rw [this]
      exact h1
    · rw [List.getElem?_append_right (by omega)] at e'
      have hi2 : i - ts.length = 0 := by
        cases q : i - ts.length with
        | zero => rfl
        | succ j => rw [q] at e'; simp at e'
      rw [hi2] at e'
      obtain rfl : Tk.rp = t := Option.some.inj e'
      refine ⟨b, u1, u2, k, u3, ?_, hb⟩
      have hie : i = ys.length := by rw [x.1]; omega
      simp only [List.cons_append, List.nil_append, List.getElem?_cons_succ]
      rw [hie, List.getElem?_append_right (Nat.le_refl _), Nat.sub_self]
      rfl
theorem listed_use {h₀ : Heap} {L f a b q2 : Addr} {m : Str → Option Value} {news news0 : List (Addr × Obj)} {cn : Str} {cs : Scope} {cd : Value} {ts : List Tk} {ys : List Value} {t1 t2 t3 u1 u2 u3 : Tok} {n k : Int} {kk : Nat} {rb : Rb} {D U : Nat} {Q E : Value → Shared → Prop}
    (XB : (gen.heap_1_39 w.params).In base) (TB : Top gen.view_1_40 (looseW gen.view_1_40 [Str.ofString "PRIORITIES"]) mean mg mb base)
    (B : Below (Ar dp un gd []) base [] h₀) (X : (gen.heap_1_39 w.params).In h₀) (T : Top gen.view_1_40 (looseW gen.view_1_40 [Str.ofString "PRIORITIES"]) mean mg mb h₀) (F : Fr h₀ L s.heap m) (N : News h₀ L s.heap news)
    (hTL : TokL news0 ys ts) (hsub : ∀ p ∈ news0, p ∈ news) (hq2 : (q2, W.listOf ([Value.ref a] ++ ys ++ [Value.ref b]).toArray kk) ∈ news)
    (ha : (a, tupO [.str (Str.ofString "OP") t1, .str (Str.ofString "(") t2, .int n t3]) ∈ news) (hb : (b, tupO [.str (Str.ofString "OP") u1, .str (Str.ofString ")") u2, .int k u3]) ∈ news) (hlen : ts.length ≤ 2000)
    (H : RBc prog w (.lp :: (ts ++ [.rp])) rb D U)
    (hdp : dp + 8 + D < 1000) (hun : un + 24 + U < 9900) (hdp2 : dp + 20 < 1000) (hun2 : un + 90 < 9900) (hk : cs.kind = .function) (hne : rArgs (.lp :: (ts ++ [.rp])) rb 0 0 ≠ .out)
    (ret : ∀ v tl h' tk', Fr h₀ L h' m → News h₀ L h' (tl ++ news) → Heard (PairA (rArgs (.lp :: (ts ++ [.rp])) rb 0 0)) (rArgs (.lp :: (ts ++ [.rp])) rb 0 0 = .fault) v tl → Q v { s with heap := h', toks := tk' }) :
    wpAny (model prog w) ((Ar dp un gd []).deeper (envOf cn cs L f cd)) (call (.ref 307) [.ref 321, .ref q2]) Q E s :=
  heard_listed XB TB B X T F N (fun h' H' => ((hTL.mono hsub).wrap ha hb).at H' (H' _ hq2) (by simp only [List.length_cons, List.length_append, List.length_nil]; omega)) H hdp hun hdp2 hun2 hk hne ret
end
local macro_rules | `(tactic| walk_at "call builtin:len") => `(tactic| (k_here; (with_reducible show wpAny _ _ (call (Value.builtin "len") [Value.ref _]) _ _ _); (refine' len_row ?N ?hm ?hv ?hl ?_; (case N => k_asm); (case hm => k_mem); (case hv => exact listLen (by assumption)); (case hl => omega); k_whole)))
section
variable {prog : Program} {w : World} {dp un : Nat} {gd : Option (List Code)} {fr : List Env} {base : Heap} {s : Shared} {mean : ExcName → Option Value} {mg mb : Str → Option Value}
theorem list_item2 {A : Around} {E : Value → Shared → Prop} {h₀ : Heap} {L : Addr} {news : List (Addr × Obj)} {value slice : PySem.Expr} {r : Addr} {vs : List Value} {kk : Nat} {u : Tok} {x : Value} {Q : Value → Shared → Prop} (N : News h₀ L s.heap news) (hm : (r, W.listOf vs.toArray kk) ∈ news)
    (hx : vs[0]? = some x) (h : Q x s)
    (hs : subscripted slice false (.ref r) (.int 0 u) = operate [.ref r, .int 0 u] (getItem (.ref r) (.int 0 u)) := by with_unfolding_all rfl) :
    wpAny (model prog w) A (subscriptTail value slice (.ref r) (.int 0 u)) Q E s := by
  have hv := memList N hm
  exact tail_any hv.typeIs slot_list_getitem.lookup (wpAny_getItem_list hv (by omega) (by omega) (by simpa using hx) h) hs
end
local macro_rules | `(tactic| walk_at "subscriptTail") => `(tactic| (k_here; (with_reducible show wpAny _ _ (subscriptTail _ _ (Value.ref _) (Value.int 0 _)) _ _ _); (refine' list_item2 ?N ?hm ?hx ?_ ?hs; (case N => k_asm); (case hm => walk_at "=mem"); (case hx => assumption); (case hs => with_unfolding_all rfl); k_whole)))
section
variable {prog : Program} {w : World} {dp un : Nat} {gd : Option (List Code)} {fr : List Env} {base : Heap} {s : Shared} {mean : ExcName → Option Value} {mg mb : Str → Option Value}
set_option maxHeartbeats 2000000 in
theorem seg12 {h₀ : Heap} {L fa : Addr} {cd : Value} {ns : List Int} {ts : List Tk} {d : Dat} {deep high : Nat} {m : Str → Option Value} {news : List (Addr × Obj)} {E : Value → Shared → Prop} {rb rb2 : Rb} {D U kd : Nat} (hE : POwn prog w L fa cd E)
    (XB : (gen.heap_1_39 w.params).In base) (TB : Top gen.view_1_40 (looseW gen.view_1_40 [Str.ofString "PRIORITIES"]) mean mg mb base)
    (B : Below (Ar 301 4 (some []) []) base [] h₀) (X : (gen.heap_1_39 w.params).In h₀) (T : Top gen.view_1_40 (looseW gen.view_1_40 [Str.ofString "PRIORITIES"]) mean mg mb h₀) (F : Fr h₀ L s.heap m) (NN : News h₀ L s.heap news) (hJ : RJ3 ts d deep high ns m news) (hlen : ts.length ≤ 2000) (hns : ns.length ≤ 8)
    (H : RBc prog w ts rb D U) (H2 : RBc prog w (.lp :: (ts ++ [.rp])) rb2 D U) (hD : D ≤ 600) (hU : U ≤ 3000) (hk : kqdOk kd d = true) (hkd : kd ≤ 6000) (hne : 0 < ts.length) (S : Says ts d deep high rb rb2) :
    wpAny (model prog w) ((Ar 301 4 (some []) []).deeper (LE L fa cd)) (execs (lawBody.drop 12) (LE L fa cd)) (LRet s h₀ L) E s := by
  unfold POwn at hE
  unfold LE at hE ⊢
  dsimp only [lawBody, lawFd, lawP, List.drop, List.take] at hE ⊢
  obtain ⟨⟨c, ws, k, r, tv, hc, hcn, hI, hr, hD1, ht, hDt, hir⟩, q, ys, k3, htok, hq, hTL⟩ := hJ
  obtain ⟨vs, k2, hm2, hA⟩ := row_inv hD1
  have hvs : vs.length = ts.length := hA.length.trans (List.length_map ..)
  have TK : ∀ h' : Heap, Have h' news → ToksAt h' q ts := fun h' H' => hTL.at H' (H' _ hq) (by omega)
  have F2 := frSet (Str.ofString "is_right") (frSet (Str.ofString "tree") (frSet (Str.ofString "row") (frSet (Str.ofString "cells") (frSet (Str.ofString "tokens") F htok) hc) hr) ht) hir
  clear F
  have h0' : 0 < vs.length := by omega
  obtain ⟨v0, hv0, hD0⟩ := hA.get (k := 0) (by rw [List.length_map]; exact hne)
  rw [List.getElem_map] at hD0
  generalize hti : ts[0] = t0 at hD0
  have hti' : ts[0]? = some t0 := by rw [← hti]; exact List.getElem?_eq_getElem hne
  have hname : (ts[0]?.map Tk.isName) = some t0.isName := by rw [hti']; rfl
  unfold tkD at hD0
  cases hD0 with
  | tuple hmb hab =>
    cases hab with
    | cons h1 hab => cases hab with
      | cons h2 hab => cases hab with
        | nil =>
          cases h1
          cases h2
          walk_at "=go"
          refine LSm.sum_ints (by assumption) (by assumption) rfl (memList NN hcn) hI ?_
          intro h1' tk1 t1' F1' N1'
          by_cases w0 : ns.sum.fmod 3 = 0
          · have w0a : (ns.sum.fmod 3 == 0) = true := beq_iff_eq.mpr w0
            have w0b : decide (ns.sum.fmod 3 = 0) = true := decide_eq_true w0
            by_cases hg : deep ≤ 40 ∧ high ≤ 100
            · have e1 : (decide (deep ≤ 40) && decide (high ≤ 100)) = true := by simp [hg.1, hg.2]
              rw [e1] at F1'
              cases hn : t0.isName with
              | true =>
                have k1 : (t0.kind == Str.ofString "NAME") = true := by rw [Tk.kind, hn]; decide +kernel
                obtain ⟨hh, hrb⟩ := S.tYes hg (by rw [hname, hn])
                k_steps
                rename Fr _ _ _ _ => fF
                rw [k1] at fF
                show wpAny _ _ _ _ _ _
                refine heard_target XB TB B X T (by assumption) (by assumption) TK H (by omega) (by omega) (by omega) (by omega) rfl (by rw [hrb]; exact fun z => nomatch z) ?_
                intro v tl h' tk' F' N' hv
                rcases hv with ⟨d', e', g', hr', q', tv', t', rfl, hm', hd'⟩ | ⟨hf, _⟩
                · rw [hrb] at hr'
                  cases hr'
                  k_steps
                  show wpAny _ _ _ _ _ _
                  refine cmp_eq_same (d := .tuple [d, .int (ts.length : Nat)]) (n := kd + 1) (by assumption) (by kd_in) (by kd_in) (by simp [kqdOk, hk]) (by show 7 + (kd + 1) < 9900; omega) ?_
                  k_steps
                  exact ⟨rfl, _, _, _, rfl, by assumption⟩
                · rw [hrb] at hf
                  cases hf
              | false =>
                have k1 : (t0.kind == Str.ofString "NAME") = false := by rw [Tk.kind, hn]; decide +kernel
                have hrb := S.tNo (by rw [hname, hn]; simp)
                k_steps
                rename Fr _ _ _ _ => fF
                rw [k1] at fF
                show wpAny _ _ _ _ _ _
                refine heard_target XB TB B X T (by assumption) (by assumption) TK H (by omega) (by omega) (by omega) (by omega) rfl (by rw [hrb]; exact fun z => nomatch z) ?_
                intro v tl h' tk' F' N' hv
                rcases hv with ⟨d', e', g', hr', _⟩ | ⟨hf, rfl, rfl⟩
                · rw [hrb] at hr'
                  cases hr'
                · k_steps
                  exact ⟨rfl, _, _, _, rfl, by assumption⟩
            · have hrb := S.tNo fun z => hg ⟨z.1, z.2.1⟩
              have e1 : (decide (deep ≤ 40) && decide (high ≤ 100)) = false := by
                cases q1 : (decide (deep ≤ 40) && decide (high ≤ 100)) with
                | false => rfl
                | true =>
                  simp at q1
                  exact absurd q1 hg
              rw [e1] at F1'
              k_steps
              show wpAny _ _ _ _ _ _
              refine heard_target XB TB B X T (by assumption) (by assumption) TK H (by omega) (by omega) (by omega) (by omega) rfl (by rw [hrb]; exact fun z => nomatch z) ?_
              intro v tl h' tk' F' N' hv
              rcases hv with ⟨d', e', g', hr', _⟩ | ⟨hf, rfl, rfl⟩
              · rw [hrb] at hr'
                cases hr'
              · k_steps
                exact ⟨rfl, _, _, _, rfl, by assumption⟩
          · have w0a : (ns.sum.fmod 3 == 0) = false := beq_false_of_ne w0
            have w0b : decide (ns.sum.fmod 3 = 0) = false := decide_eq_false w0
            by_cases w1 : ns.sum.fmod 3 = 1
            · have w1a : (ns.sum.fmod 3 == 1) = true := beq_iff_eq.mpr w1
              have w1b : decide (ns.sum.fmod 3 = 1) = true := decide_eq_true w1
              by_cases hg : deep ≤ 40 ∧ high ≤ 100
              · have e1 : (decide (deep ≤ 40) && decide (high ≤ 100)) = true := by simp [hg.1, hg.2]
                rw [e1] at F1'
                obtain ⟨hh, hrb⟩ := S.iYes hg
                k_steps
                show wpAny _ _ _ _ _ _
                refine heard_items XB TB B X T (by assumption) (by assumption) TK H (by omega) (by omega) (by omega) (by omega) rfl hne (by rw [hrb]; exact fun z => nomatch z) ?_
                intro v tl h' tk' F' N' hv
                rcases hv with ⟨d', e', g', hr', q', tv', t', rfl, hm', hd'⟩ | ⟨hf, _⟩
                · rw [hrb] at hr'
                  cases hr'
                  k_steps
                  show wpAny _ _ _ _ _ _
                  refine cmp_eq_same (d := .tuple [.list [d], .int (ts.length : Nat)]) (n := kd + 2) (by assumption) (by kd_in) (by kd_in) (by simp [kqdOk, hk]) (by show 7 + (kd + 2) < 9900; omega) ?_
                  k_steps
                  exact ⟨rfl, _, _, _, rfl, by assumption⟩
                · rw [hrb] at hf
                  cases hf
              · have hrb := S.iNo hg
                have e1 : (decide (deep ≤ 40) && decide (high ≤ 100)) = false := by
                  cases q1 : (decide (deep ≤ 40) && decide (high ≤ 100)) with
                  | false => rfl
                  | true =>
                    simp at q1
                    exact absurd q1 hg
                rw [e1] at F1'
                k_steps
                show wpAny _ _ _ _ _ _
                refine heard_items XB TB B X T (by assumption) (by assumption) TK H (by omega) (by omega) (by omega) (by omega) rfl hne (by rw [hrb]; exact fun z => nomatch z) ?_
                intro v tl h' tk' F' N' hv
                rcases hv with ⟨d', e', g', hr', _⟩ | ⟨hf, rfl, rfl⟩
                · rw [hrb] at hr'
                  cases hr'
                · k_steps
                  exact ⟨rfl, _, _, _, rfl, by assumption⟩
            · have w1a : (ns.sum.fmod 3 == 1) = false := beq_false_of_ne w1
              have w1b : decide (ns.sum.fmod 3 = 1) = false := decide_eq_false w1
              have hys : ys.length = ts.length := hTL.1
              by_cases hg : deep ≤ 40 ∧ high ≤ 100
              · have e1 : (decide (deep ≤ 40) && decide (high ≤ 100)) = true := by simp [hg.1, hg.2]
                rw [e1] at F1'
                obtain ⟨hh, hrb⟩ := S.aYes hg
                k_steps
                show wpAny _ _ _ _ _ _
                refine listed_use XB TB B X T (by assumption) (by assumption) hTL (fun p hp => by simp only [List.mem_cons, List.mem_append, hp, or_true]) (by k_mem) (by k_mem) (by k_mem) hlen H2 (by omega) (by omega) (by omega) (by omega) rfl (by rw [hrb]; exact fun z => nomatch z) ?_
                intro v tl h' tk' F' N' hv
                rcases hv with ⟨d', e', g', hr', q', tv', t', rfl, hm', hd'⟩ | ⟨hf, _⟩
                · rw [hrb] at hr'
                  cases hr'
                  k_steps
                  refine len_row (by assumption) (by first | exact List.mem_append.mpr (.inr (.head _)) | exact .tail _ (List.mem_append.mpr (.inr (.head _))) | exact .tail _ (.tail _ (List.mem_append.mpr (.inr (.head _))))) (listLen hys) (by omega) ?_
                  k_steps
                  show wpAny _ _ _ _ _ _
                  refine cmp_eq_same (d := .tuple [.list [d], .int (ts.length + 2 : Nat)]) (n := kd + 2) (by assumption) (by kd_in) (by kd_in) (by simp [kqdOk, hk]) (by show 7 + (kd + 2) < 9900; omega) ?_
                  k_steps
                  exact ⟨rfl, _, _, _, rfl, by assumption⟩
                · rw [hrb] at hf
                  cases hf
              · have hrb := S.aNo hg
                have e1 : (decide (deep ≤ 40) && decide (high ≤ 100)) = false := by
                  cases q1 : (decide (deep ≤ 40) && decide (high ≤ 100)) with
                  | false => rfl
                  | true =>
                    simp at q1
                    exact absurd q1 hg
                rw [e1] at F1'
                k_steps
                show wpAny _ _ _ _ _ _
                refine listed_use XB TB B X T (by assumption) (by assumption) hTL (fun p hp => by simp only [List.mem_cons, List.mem_append, hp, or_true]) (by k_mem) (by k_mem) (by k_mem) hlen H2 (by omega) (by omega) (by omega) (by omega) rfl (by rw [hrb]; exact fun z => nomatch z) ?_
                intro v tl h' tk' F' N' hv
                rcases hv with ⟨d', e', g', hr', _⟩ | ⟨hf, rfl, rfl⟩
                · rw [hrb] at hr'
                  cases hr'
                · k_steps
                  exact ⟨rfl, _, _, _, rfl, by assumption⟩
end
theorem cut_wp {M : Model} {Γ : PySem.Ctx} {env : Env} {J : Flow → Shared → Prop} {Q : Flow → Shared → Prop} {E : Value → Shared → Prop} (b2 : List Stmt) (kn : ∀ f s', J f s' → f = .next)
    (k : ∀ s', J .next s' → ∀ p, Sem.wp M Γ (execs b2 env) (fun f _ s' => Q f s') (fun e _ s' => E e s') p s') :
    ∀ (b1 : List Stmt) (p : Pos) (s : Shared), Sem.wp M Γ (execs b1 env) (fun f _ s' => J f s') (fun e _ s' => E e s') p s → Sem.wp M Γ (execs (b1 ++ b2) env) (fun f _ s' => Q f s') (fun e _ s' => E e s') p s := by
  intro b1
  induction b1 with
  | nil => exact fun p s h => k s h p
  | cons st b1 ih =>
    intro p s h
    rw [execs_cons, Sem.wp_bind'] at h
    rw [List.cons_append, execs_cons, Sem.wp_bind']
    refine Sem.wp_mono M Γ _ (fun f p' s' h' => ?_) (fun _ _ _ h' => h') _ _ h
    cases f with
    | next => exact ih p' s' h'
    | _ => exact absurd (kn _ _ h') (by simp)
theorem cut {M : Model} {A : Around} {env : Env} {s : Shared} {h₀ : Heap} {L : Addr} {J : (Str → Option Value) → List (Addr × Obj) → Prop} {Q : Flow → Shared → Prop} {E : Value → Shared → Prop} {b b1 b2 : List Stmt} (hb : b = b1 ++ b2)
    (h1 : wpAny M A (execs b1 env) (LPost s h₀ L J) E s) (k : ∀ h tk m news, Fr h₀ L h m → News h₀ L h news → J m news → wpAny M A (execs b2 env) Q E { s with heap := h, toks := tk }) : wpAny M A (execs b env) Q E s := by
  intro Γ p hΓ
  rw [hb]
  refine cut_wp b2 (fun f s' h => h.1) (fun s' h p' => ?_) b1 p s (h1 Γ p hΓ)
  obtain ⟨_, h, tk, m, news, rfl, F, N, hJ⟩ := h
  exact k h tk m news F N hJ Γ p' hΓ
theorem dropCut (b : List Stmt) (k j : Nat) : b.drop k = (b.drop k).take j ++ b.drop (k + j) := by
  rw [← List.drop_drop]
  exact (List.take_append_drop j _).symm
/-- all that the law needs to know of the readers -/
noncomputable def Knows : Prop := ∀ (n : Nat) (ts : List Tk) (d : Dat) (deep high : Nat), Built n ts d deep high → n ≤ 46 →
  0 < ts.length ∧ kqdOk (102 * n + 3) d = true ∧ (deep ≤ 40 ∧ high ≤ 100 → ∃ h, rBin ts 100 0 1 0 = .ok (d, ts.length, h)) ∧ (¬ (deep ≤ 40 ∧ high ≤ 100) → rBin ts 100 0 1 0 = .fault) ∧
    Says ts d deep high (rBin ts 100) (rBin (.lp :: (ts ++ [.rp])) 100)
section
variable {prog : Program} {w : World} {base : Heap} {s : Shared} {mean : ExcName → Option Value} {mg mb : Str → Option Value}
theorem law_body (K : Knows) {h₀ : Heap} {L fa a : Addr} {cd : Value} {vs : List Value} {xs : List Int} {E : Value → Shared → Prop} (hE : POwn prog w L fa cd E)
    (XB : (gen.heap_1_39 w.params).In base) (TB : Top gen.view_1_40 (looseW gen.view_1_40 [Str.ofString "PRIORITIES"]) mean mg mb base)
    (B : Below (Ar 301 4 (some []) []) base [] h₀) (X : (gen.heap_1_39 w.params).In h₀) (T : Top gen.view_1_40 (looseW gen.view_1_40 [Str.ofString "PRIORITIES"]) mean mg mb h₀) (F : Fr h₀ L s.heap (fun y => List.lookup y [(Str.ofString "script", Value.ref a)].reverse)) (NN : News h₀ L s.heap []) (IL : h₀.IsList a vs.toArray) (hI : IntsAre vs xs) (hx : xs.length ≤ 63) :
    wpAny (model prog w) ((Ar 301 4 (some []) []).deeper (LE L fa cd)) (execs lawBody (LE L fa cd)) (LRet s h₀ L) E s := by
  refine cut (b1 := lawBody.take 4) (b2 := lawBody.drop 4) (List.take_append_drop 4 _).symm (seg0 hE B X T F NN IL hI hx) ?_
  rintro h1 k1 m1 n1 F1 N1 ⟨b, ns, p, J1, hp, hn2, hn8⟩
  refine cut (dropCut lawBody 4 1) (seg2 hE B X T F1 N1 J1 hp (by omega)) ?_
  intro h2 k2 m2 n2 F2 N2 J2
  refine cut (dropCut lawBody 5 1) (seg5 hE B X T F2 N2 J2 hn2 hn8 (by omega)) ?_
  intro h3 k3 m3 n3 F3 N3 J3
  refine cut (dropCut lawBody 6 1) (seg6 hE B X T F3 N3 J3 hn2 hn8 (by omega)) ?_
  intro h4 k4 m4 n4 F4 N4 J4
  refine cut (dropCut lawBody 7 1) (seg7 hE B X T F4 N4 J4 hp (by omega)) ?_
  intro h5 k5 m5 n5 F5 N5 J5
  refine cut (dropCut lawBody 8 2) (seg8 hE B X T F5 N5 J5) ?_
  rintro h6 k6 m6 n6 F6 N6 ⟨n, ts, d, deep, high, J6, hB, hn, hl⟩
  have hn46 : n ≤ 46 := by
    cases b with
    | true => simp only [if_true] at hn; omega
    | false => simp only [Bool.false_eq_true, if_false] at hn; omega
  obtain ⟨hpos, hk, yes, no, S⟩ := K n ts d deep high hB hn46
  refine cut (dropCut lawBody 10 1) (seg10 hE B X T F6 N6 J6 (by omega)) ?_
  intro h7 k7 m7 n7 F7 N7 J7
  refine cut (dropCut lawBody 11 1) (seg11 hE XB TB B X T F7 N7 J7 (by omega) (rbc ts 100) (by omega) (by omega) hk (by omega) yes no) ?_
  intro h8 k8 m8 n8 F8 N8 J8
  exact seg12 hE XB TB B X T F8 N8 J8 (by omega) hn8 (rbc ts 100) (rbc _ 100) (by omega) (by omega) hk (by omega) hpos S
end
theorem at_cons {T : List Tk} {p : Nat} {t : Tk} {X : List Tk} (h : T.drop p = t :: X) : T[p]? = some t ∧ T.drop (p + 1) = X := by
  refine ⟨?_, ?_⟩
  · rw [← List.head?_drop, h]; rfl
  · rw [← List.drop_drop, h]; rfl
theorem at_app {T : List Tk} {p : Nat} {ts X : List Tk} (h : T.drop p = ts ++ X) : T.drop (p + ts.length) = X := by
  rw [← List.drop_drop, h]
  simp
theorem at_none {T : List Tk} {p : Nat} (h : T.drop p = []) : T[p]? = none := by
  rw [← List.head?_drop, h]; rfl
theorem opAt_of {T : List Tk} {p : Nat} {t : Tk} (h : T[p]? = some t) (x : Str) : opAt T p x = (!t.isName && t.text == x) := by simp only [opAt, h]
theorem opAt_no {T : List Tk} {p : Nat} (h : T[p]? = none) (x : Str) : opAt T p x = false := by simp only [opAt, h]
theorem kindAt_of {T : List Tk} {p : Nat} {t : Tk} (h : T[p]? = some t) : kindAt T p = t.kind := by simp only [kindAt, h]
theorem textAt_of {T : List Tk} {p : Nat} {t : Tk} (h : T[p]? = some t) : textAt T p = t.text := by simp only [textAt, h]
/-- no bracket comes next -/
noncomputable def NoLp (X : List Tk) : Prop := X.head? ≠ some .lp
theorem opAt_noLp {T : List Tk} {p : Nat} {X : List Tk} (h : T.drop p = X) (n : NoLp X) : opAt T p (Str.ofString "(") = false := by
  cases X with
  | nil => exact opAt_no (at_none h) _
  | cons t X =>
    rw [opAt_of (at_cons h).1]
    cases t <;> first | exact absurd rfl n | decide +kernel
noncomputable def prioT : List Tk → Nat
  | .plus :: _ => 7
  | .minus :: _ => 7
  | .star :: _ => 8
  | .pow :: _ => 9
  | _ => 0
theorem prio_of {T : List Tk} {p : Nat} {X : List Tk} (h : T.drop p = X) : prio T p = prioT X := by
  cases X with
  | nil => rw [prio, at_none h]; rfl
  | cons t X => rw [prio, (at_cons h).1]; cases t <;> rfl
/-- a row's first token -/
noncomputable def Starts (ts : List Tk) : Prop := ∃ t X, ts = t :: X ∧ (t = .nK ∨ t = .nA ∨ t = .nC ∨ t = .lp)
abbrev Ok (k deep high : Nat) : Prop := k + deep ≤ 40 ∧ high ≤ 100
/-- the row is read as it was built -/
noncomputable def Good (N : Nat) (ts : List Tk) (d : Dat) (deep high : Nat) : Prop :=
  ∀ (T : List Tk) (p : Nat) (suf : List Tk) (f k : Nat), T.drop p = ts ++ suf → NoLp suf → N ≤ f → k ≤ 40 → rPrimary T (rBin T f) p k = if Ok k deep high then .ok (d, p + ts.length, high) else .fault
theorem first_primary {T : List Tk} {p : Nat} {ts suf : List Tk} {rb : Rb} {least k : Nat} (h : T.drop p = ts ++ suf) (hs : Starts ts) : rFirst T rb p least k = rPrimary T rb p k := by
  obtain ⟨t, X, rfl, ht⟩ := hs
  have h1 := (at_cons (show T.drop p = t :: (X ++ suf) from h)).1
  unfold rFirst
  rw [opAt_of h1, opAt_of h1, opAt_of h1]
  rcases ht with rfl | rfl | rfl | rfl <;> rfl
theorem rb_row {N : Nat} {ts : List Tk} {d : Dat} {deep high : Nat} (G : Good N ts d deep high) {T : List Tk} {p : Nat} {suf : List Tk} {f k least : Nat} (h : T.drop p = ts ++ suf) (hn : NoLp suf) (hf : N ≤ f) (hk : k ≤ 40) (hs : Starts ts) (hl : 1 ≤ least) (hp : prioT suf < least) :
    rBin T (f + 1) p least k = if Ok k deep high then .ok (d, p + ts.length, high) else .fault := by
  rw [rBin, if_neg (by omega), rBin1, first_primary h hs, G T p suf f k h hn hf hk]
  split
  · simp only [Rs.bind]
    rw [rLoop, prio_of (at_app h), if_neg (by omega)]
  · rfl
theorem goodK : Good 0 [.nK] dK 0 0 := by
  intro T p suf f k h hn hf hk
  have h1 := at_cons (show T.drop p = .nK :: suf from h)
  have e1 : kindAt T p = Str.ofString "NAME" := by rw [kindAt_of h1.1]; rfl
  have e2 := opAt_noLp h1.2 hn
  rw [rPrimary, if_pos e1, rNamed, if_pos e1, if_neg (by rw [e2]; exact Bool.false_ne_true), if_pos ⟨by omega, by omega⟩, textAt_of h1.1]
  rfl
theorem opT {T : List Tk} {p : Nat} {t : Tk} {X : List Tk} {x : Str} {b : Bool} (h : T.drop p = t :: X) (e : (!t.isName && t.text == x) = b) : opAt T p x = b := by
  rw [opAt_of (at_cons h).1]; exact e
theorem opY {T : List Tk} {p : Nat} {t : Tk} {X : List Tk} {x : Str} (h : T.drop p = t :: X) (e : (!t.isName && t.text == x) = true) : opAt T p x = true := opT h e
theorem opN {T : List Tk} {p : Nat} {t : Tk} {X : List Tk} {x : Str} (h : T.drop p = t :: X) (e : (!t.isName && t.text == x) = false) : opAt T p x = false := opT h e
/-- brackets match; a colon stands inside brackets only, or anywhere if c -/
inductive Bl : Bool → List Tk → Prop
  | nil (c : Bool) : Bl c []
  | tok (c : Bool) (t : Tk) : t ≠ .lp → t ≠ .rp → (t = .colon → c = true) → Bl c [t]
  | br {c : Bool} {X : List Tk} : Bl true X → Bl c (.lp :: (X ++ [.rp]))
  | app {c : Bool} {X Y : List Tk} : Bl c X → Bl c Y → Bl c (X ++ Y)
theorem Bl.open {X : List Tk} (h : Bl false X) : Bl true X := by
  generalize hc : false = c at h
  induction h with
  | nil c => exact .nil _
  | tok c t h1 h2 h3 => exact .tok _ _ h1 h2 fun _ => rfl
  | br h ih => exact .br h
  | app h1 h2 i1 i2 => exact .app (i1 hc) (i2 hc)
theorem Bl.any {c : Bool} {X : List Tk} (h : Bl false X) : Bl c X := by
  cases c
  · exact h
  · exact h.open
theorem Bl.cons {c : Bool} {t : Tk} {X : List Tk} (h : Bl c [t]) (h2 : Bl c X) : Bl c (t :: X) := .app h h2
theorem not_lp {t : Tk} (h : t ≠ .lp) : (!t.isName && t.text == Str.ofString "(") = false := by
  cases t <;> first | exact absurd rfl h | rfl
theorem not_rp {t : Tk} (h : t ≠ .rp) : (!t.isName && t.text == Str.ofString ")") = false := by
  cases t <;> first | exact absurd rfl h | rfl
theorem close_pass {c : Bool} {X : List Tk} (h : Bl c X) : ∀ (T : List Tk) (p : Nat) (suf : List Tk) (n : Nat) (d : Int), T.drop p = X ++ suf → 1 ≤ d → closeGo T (X.length + n) p d = closeGo T n (p + X.length) d := by
  induction h with
  | nil c => intro T p suf n d h hd; simp
  | tok c t h1 h2 h3 =>
    intro T p suf n d h hd
    have hl : [t].length + n = n + 1 := by simp only [List.length_cons, List.length_nil]; omega
    rw [hl, closeGo, opT (show T.drop p = t :: suf from h) (not_lp h1), opT (show T.drop p = t :: suf from h) (not_rp h2)]
    rfl
  | @br c X hX ih =>
    intro T p suf n d h hd
    have h' : T.drop p = .lp :: (X ++ (.rp :: suf)) := by rw [h]; simp
    have h1 := (at_cons h').2
    have h2 := at_app h1
    have hl : (Tk.lp :: (X ++ [Tk.rp])).length + n = X.length + (n + 1) + 1 := by simp only [List.length_cons, List.length_append, List.length_nil]; omega
    have hp : p + (Tk.lp :: (X ++ [Tk.rp])).length = p + 1 + X.length + 1 := by simp only [List.length_cons, List.length_append, List.length_nil]; omega
    rw [hl, closeGo, opY h' rfl, if_pos rfl, ih T (p + 1) _ (n + 1) (d + 1) h1 (by omega), closeGo, opN h2 rfl, opY h2 rfl, if_neg Bool.false_ne_true, if_pos rfl, if_neg (by omega), hp]
    congr 1
    omega
  | app h1 h2 i1 i2 =>
    intro T p suf n d h hd
    rw [List.append_assoc] at h
    rw [List.length_append, Nat.add_assoc, i1 T p _ _ d h hd, i2 T _ _ _ d (at_app h) hd, ← Nat.add_assoc]
/-- a mark that only the colon may be -/
noncomputable def MarkX (x : Str) : Prop := ∀ t : Tk, t ≠ .lp → t ≠ .rp → t ≠ .colon → (!t.isName && t.text == x) = false
theorem mark_colon : MarkX (Str.ofString ":") := by
  intro t h1 h2 h3
  cases t <;> first | exact absurd rfl h1 | exact absurd rfl h2 | exact absurd rfl h3 | rfl
theorem mark_eq : MarkX (Str.ofString "=") := by
  intro t h1 h2 h3
  cases t <;> first | exact absurd rfl h1 | exact absurd rfl h2 | exact absurd rfl h3 | rfl
theorem mark_pass {x : Str} (hx : MarkX x) {c : Bool} {X : List Tk} (h : Bl c X) : ∀ (T : List Tk) (p : Nat) (suf : List Tk) (n : Nat) (d : Int), T.drop p = X ++ suf → 0 ≤ d → (c = true → 1 ≤ d) → markGo T x (X.length + n) p d = markGo T x n (p + X.length) d := by
  induction h with
  | nil c => intro T p suf n d h hd hc; simp
  | tok c t h1 h2 h3 =>
    intro T p suf n d h hd hc
    have hl : [t].length + n = n + 1 := by simp only [List.length_cons, List.length_nil]; omega
    have h' : T.drop p = t :: suf := h
    have hm : (decide (d = 0) && opAt T p x) = false := by
      by_cases ht : t = .colon
      · have := hc (h3 ht)
        rw [decide_eq_false (by omega)]; rfl
      · rw [opT h' (hx t h1 h2 ht), Bool.and_false]
    rw [hl, markGo, opT h' (not_lp h1), opT h' (not_rp h2), hm]
    rfl
  | @br c X hX ih =>
    intro T p suf n d h hd hc
    have h' : T.drop p = .lp :: (X ++ (.rp :: suf)) := by rw [h]; simp
    have h1 := (at_cons h').2
    have h2 := at_app h1
    have hl : (Tk.lp :: (X ++ [Tk.rp])).length + n = X.length + (n + 1) + 1 := by simp only [List.length_cons, List.length_append, List.length_nil]; omega
    have hp : p + (Tk.lp :: (X ++ [Tk.rp])).length = p + 1 + X.length + 1 := by simp only [List.length_cons, List.length_append, List.length_nil]; omega
    rw [hl, markGo, opY h' rfl, if_pos rfl, ih T (p + 1) _ (n + 1) (d + 1) h1 (by omega) (by omega), markGo, opN h2 rfl, opY h2 rfl, if_neg Bool.false_ne_true, if_pos rfl, hp]
    congr 1
    omega
  | app h1 h2 i1 i2 =>
    intro T p suf n d h hd hc
    rw [List.append_assoc] at h
    rw [List.length_append, Nat.add_assoc, i1 T p _ _ d h hd hc, i2 T _ _ _ d (at_app h) hd hc, ← Nat.add_assoc]
theorem len_drop {T : List Tk} {p : Nat} {X : List Tk} (h : T.drop p = X) (hX : X ≠ []) : T.length = p + X.length := by
  have := congrArg List.length h
  rw [List.length_drop] at this
  have h2 : X.length ≠ 0 := fun e => hX (List.length_eq_zero_iff.mp e)
  omega
theorem close_row {c : Bool} {X : List Tk} (h : Bl c X) {T : List Tk} {i : Nat} {suf : List Tk} (hT : T.drop i = .lp :: (X ++ (.rp :: suf))) : closeAt T i = some (i + 1 + X.length) := by
  have hl := len_drop hT (by simp)
  have e : T.length - i = X.length + (suf.length + 1) + 1 := by
    rw [hl]; simp only [List.length_cons, List.length_append]; omega
  have h1 := (at_cons hT).2
  have h2 := at_app h1
  rw [closeAt, e, closeGo, opY hT rfl, if_pos rfl, close_pass h T _ _ _ _ h1 (by decide), closeGo, opN h2 rfl, opY h2 rfl, if_neg Bool.false_ne_true, if_pos rfl, if_pos (by decide)]
theorem mark_none {x : Str} (hx : MarkX x) {X : List Tk} (h : Bl false X) {T : List Tk} {i : Nat} {suf : List Tk} (hT : T.drop i = .lp :: (X ++ (.rp :: suf))) : holdsMark T i x = some false := by
  have h1 := (at_cons hT).2
  have e : i + 1 + X.length - (i + 1) = X.length + 0 := by omega
  rw [holdsMark, close_row h hT, Option.map_some, e, mark_pass hx h T _ _ _ _ h1 (by decide) (by simp), markGo]
theorem mark_one {X Y : List Tk} (h : Bl false X) (hy : Bl false Y) {T : List Tk} {i : Nat} {suf : List Tk} (hT : T.drop i = .lp :: (X ++ .colon :: (Y ++ (.rp :: suf)))) : holdsMark T i (Str.ofString ":") = some true := by
  have hb : Bl true (X ++ .colon :: Y) := .app h.open (.cons (.tok _ _ nofun nofun fun _ => rfl) hy.open)
  have h1 := (at_cons hT).2
  have h2 := at_app h1
  have hT' : T.drop i = .lp :: ((X ++ .colon :: Y) ++ (.rp :: suf)) := by rw [hT]; simp
  have e : i + 1 + (X ++ .colon :: Y).length - (i + 1) = X.length + (Y.length + 1) := by simp only [List.length_append, List.length_cons]; omega
  rw [holdsMark, close_row hb hT', Option.map_some, e, mark_pass mark_colon h T _ _ _ _ h1 (by decide) (by simp), markGo, opN h2 rfl, opN h2 rfl, opY h2 rfl, if_neg Bool.false_ne_true, if_neg Bool.false_ne_true]
  rfl
theorem bl_sum {n : Nat} {ts : List Tk} (h : Bl false ts) : Bl false (sumT n ts) := by
  induction n with
  | zero => exact h
  | succ n ih => exact .app ih (.cons (.tok _ _ nofun nofun nofun) (.tok _ _ nofun nofun nofun))
theorem bl_t (t : Tk) (h1 : t ≠ .lp := by nofun) (h2 : t ≠ .rp := by nofun) (h3 : t ≠ .colon := by nofun) : Bl false [t] := .tok _ _ h1 h2 fun e => absurd e h3
theorem bl_c : Bl true [.colon] := .tok _ _ nofun nofun fun _ => rfl
theorem bl_wrap {way : Nat} {ts : List Tk} (hw : way < 11) (h : Bl false ts) : Bl false (wrapT way ts) := by
  have ho := h.open
  obtain rfl | rfl | rfl | rfl | rfl | rfl | rfl | rfl | rfl | rfl | rfl : way = 0 ∨ way = 1 ∨ way = 2 ∨ way = 3 ∨ way = 4 ∨ way = 5 ∨ way = 6 ∨ way = 7 ∨ way = 8 ∨ way = 9 ∨ way = 10 := by omega
  · exact .br ho
  · exact .br (X := .minus :: ts) (.cons (bl_t _).open ho)
  · exact .cons (bl_t _) (.br ho)
  · have : Bl false (.nC :: (.lp :: ((ts ++ [.colon]) ++ [.rp]))) := .cons (bl_t _) (.br (.app ho bl_c))
    simpa [wrapT] using this
  · exact .br (X := .nK :: .pow :: ts) (.cons (bl_t _).open (.cons (bl_t _).open ho))
  · exact .cons (bl_t _) (.br (X := .nK :: .comma :: ts) (.cons (bl_t _).open (.cons (bl_t _).open ho)))
  · exact .br (X := .no :: ts) (.cons (bl_t _).open ho)
  · exact .cons (bl_t _) (.br (X := .colon :: ts) (.cons bl_c ho))
  · have : Bl false (.lp :: ((ts ++ [.pow, .nK]) ++ [.rp])) := .br (.app ho (.cons (bl_t _).open (bl_t _).open))
    simpa [wrapT] using this
  · exact .br (X := .nK :: .star :: ts) (.cons (bl_t _).open (.cons (bl_t _).open ho))
  · have : Bl false (.nC :: ((.lp :: ([.nK] ++ [.rp])) ++ (.lp :: ((ts ++ [.colon, .nK]) ++ [.rp])))) := .cons (bl_t _) (.app (.br (bl_t _).open) (.br (.app ho (.cons bl_c (bl_t _).open))))
    simpa [wrapT] using this
theorem bl_built {n : Nat} {ts : List Tk} {d : Dat} {deep high : Nat} (h : Built n ts d deep high) : Bl false ts := by
  induction h with
  | k => exact bl_t _
  | wrap way hw h ih => exact bl_wrap hw ih
  | sum many hm h ih => exact .br (bl_sum ih).open
theorem drop_len {T : List Tk} {p : Nat} {t : Tk} {X : List Tk} (h : T.drop p = t :: X) : ∃ m, T.length = m + 1 + X.length := ⟨p, by rw [len_drop h (by simp), List.length_cons]; omega⟩
theorem loop_stop {T : List Tk} {p : Nat} {X : List Tk} (h : T.drop p = X) {least : Nat} (hp : prioT X < least) {rb : Rb} {k m : Nat} {d : Dat} {g : Nat} : rLoop T rb least k (m + 1) d p g = .ok (d, p, g) := by
  rw [rLoop, prio_of h, if_neg (by omega)]
theorem rb_nK {T : List Tk} {p f k least : Nat} {suf : List Tk} (h : T.drop p = .nK :: suf) (hn : NoLp suf) (hk : k ≤ 40) (hl : 1 ≤ least) (hp : prioT suf < least) : rBin T (f + 1) p least k = .ok (dK, p + 1, 0) := by
  rw [rb_row goodK (show T.drop p = [.nK] ++ suf from h) hn (Nat.zero_le _) hk ⟨_, _, rfl, .inl rfl⟩ hl hp, if_pos ⟨by omega, by omega⟩]
  rfl
theorem first_nK {T : List Tk} {p f k least : Nat} {suf : List Tk} (h : T.drop p = .nK :: suf) (hn : NoLp suf) (hk : k ≤ 40) : rFirst T (rBin T f) p least k = .ok (dK, p + 1, 0) := by
  rw [first_primary (show T.drop p = [.nK] ++ suf from h) ⟨_, _, rfl, .inl rfl⟩, goodK T p suf f k h hn (Nat.zero_le _) hk, if_pos ⟨by omega, by omega⟩]
  rfl
theorem pure_kind_op {T : List Tk} {p : Nat} {t : Tk} {X : List Tk} (h : T.drop p = t :: X) (ht : t.isName = false) : ¬ kindAt T p = Str.ofString "NAME" := by
  rw [kindAt_of (at_cons h).1]
  cases t <;> first | exact absurd ht (by decide) | decide +kernel
theorem pure_kind_name {T : List Tk} {p : Nat} {t : Tk} {X : List Tk} (h : T.drop p = t :: X) (ht : t.isName = true) : kindAt T p = Str.ofString "NAME" := by
  rw [kindAt_of (at_cons h).1]
  cases t <;> first | exact absurd ht (by decide) | rfl
section
variable {T : List Tk} {p e f k : Nat} {rb : Rb} {P P2 : Prop} [Decidable P] [Decidable P2] {X Y : List Tk} {d d2 : Dat} {h h2 e2 : Nat}
theorem paren (hT : T.drop p = .lp :: X) (hi : k < 40 → rb (p + 1) 1 (k + 1) = if P then .ok (d, e, h) else .fault) (he : T.drop e = .rp :: Y) :
    rPrimary T rb p k = if k < 40 ∧ P then .ok (d, e + 1, h) else .fault := by
  rw [rPrimary, if_neg (pure_kind_op hT rfl), if_pos (opY hT rfl)]
  by_cases hk : 40 ≤ k
  · rw [if_pos hk, if_neg (by omega)]
  · rw [if_neg hk, hi (by omega)]
    by_cases hP : P
    · rw [if_pos hP, if_pos ⟨by omega, hP⟩]
      simp only [Rs.bind]
      rw [if_pos (opY he rfl)]
    · rw [if_neg hP, if_neg (fun q => hP q.2)]
      rfl
theorem minus_row (hT : T.drop p = .minus :: X) (hi : rBin T f (p + 1) 8 k = if P then .ok (d, e, h) else .fault) (he : T.drop e = Y) (hY : prioT Y = 0) :
    rBin T (f + 1) p 1 k = if P ∧ h < 100 then .ok (dUn (Str.ofString "-") d, e, h + 1) else .fault := by
  rw [rBin, if_neg (by decide), rBin1, rFirst, opN hT rfl, if_neg Bool.false_ne_true, opN hT rfl, if_neg Bool.false_ne_true, if_pos (opY hT rfl), if_neg (by decide), rSigned, hi]
  by_cases hP : P
  · rw [if_pos hP]
    simp only [Rs.bind]
    by_cases hh : 100 ≤ h
    · rw [if_pos hh, if_neg (by omega)]
    · rw [if_neg hh, if_pos ⟨hP, by omega⟩, textAt_of (at_cons hT).1]
      simp only []
      rw [loop_stop he (by omega)]
      rfl
  · rw [if_neg hP, if_neg (fun q => hP q.1)]
    rfl
theorem not_row (hT : T.drop p = .no :: X) (hi : rBin T f (p + 1) 5 k = if P then .ok (d, e, h) else .fault) (he : T.drop e = Y) (hY : prioT Y = 0) :
    rBin T (f + 1) p 1 k = if P ∧ h < 100 then .ok (dUn (Str.ofString ".NOT.") d, e, h + 1) else .fault := by
  rw [rBin, if_neg (by decide), rBin1, rFirst, if_pos (opY hT rfl), if_neg (by decide), rSigned, hi]
  by_cases hP : P
  · rw [if_pos hP]
    simp only [Rs.bind]
    by_cases hh : 100 ≤ h
    · rw [if_pos hh, if_neg (by omega)]
    · rw [if_neg hh, if_pos ⟨hP, by omega⟩, textAt_of (at_cons hT).1]
      simp only []
      rw [loop_stop he (by omega)]
      rfl
  · rw [if_neg hP, if_neg (fun q => hP q.1)]
    rfl
theorem bin_row {t : Tk} (hf : rFirst T (rBin T f) p 1 k = if P then .ok (d, e, h) else .fault) (ho : T.drop e = t :: X) (hp : 1 ≤ prioT (t :: X))
    (hr : rRight T (rBin T f) e k = if P2 then .ok (d2, e2, h2) else .fault) (he : T.drop e2 = Y) (hY : prioT Y = 0) :
    rBin T (f + 1) p 1 k = if P ∧ P2 ∧ max h h2 < 100 then .ok (dBin t.text d d2, e2, max h h2 + 1) else .fault := by
  obtain ⟨m, hm⟩ := drop_len ho
  have hm' : T.length = (m + X.length) + 1 := by omega
  rw [rBin, if_neg (by decide), rBin1, hf]
  by_cases hP : P
  · rw [if_pos hP]
    simp only [Rs.bind]
    rw [rLoop, prio_of ho, if_pos hp, hr]
    by_cases hP2 : P2
    · rw [if_pos hP2]
      simp only [Rs.bind]
      by_cases hh : 100 ≤ max h h2
      · rw [if_pos hh, if_neg (by omega)]
      · rw [if_neg hh, if_pos ⟨hP, hP2, by omega⟩, textAt_of (at_cons ho).1, hm', loop_stop he (by omega)]
    · rw [if_neg hP2, if_neg (fun q => hP2 q.2.1)]
      rfl
  · rw [if_neg hP, if_neg (fun q => hP q.1)]
    rfl
/-- a row's first token closes nothing -/
theorem start_op {ts : List Tk} (hs : Starts ts) (hT : T.drop p = ts ++ X) {x : Str} (hx : (!Tk.lp.isName && Tk.lp.text == x) = false) : opAt T p x = false := by
  obtain ⟨t, Z, rfl, ht⟩ := hs
  have h' : T.drop p = t :: (Z ++ X) := hT
  rcases ht with rfl | rfl | rfl | rfl
  · exact opN h' rfl
  · exact opN h' rfl
  · exact opN h' rfl
  · exact opN h' hx
theorem args_one {ts : List Tk} (hT : T.drop p = .lp :: (ts ++ X)) (hs : Starts ts) (hi : rb (p + 1) 1 k = if P then .ok (d, e, h) else .fault) (he : T.drop e = .rp :: Y) :
    rArgs T rb p k = if P then .ok ([d], e + 1, h) else .fault := by
  obtain ⟨m, hm⟩ := drop_len hT
  have hm' : T.length = (m + (ts ++ X).length) + 1 := by omega
  rw [rArgs, if_pos (opY hT rfl), start_op hs (at_cons hT).2 rfl, if_neg Bool.false_ne_true, hm', rArgsLoop, hi]
  by_cases hP : P
  · rw [if_pos hP, if_pos hP]
    simp only [Rs.bind]
    rw [opN he rfl, if_neg Bool.false_ne_true, if_pos (opY he rfl), Nat.zero_max]
    rfl
  · rw [if_neg hP, if_neg hP]
    rfl
theorem args_two {ts : List Tk} (hT : T.drop p = .lp :: (ts ++ X)) (hs : Starts ts) (hi : rb (p + 1) 1 k = .ok (d, e, 0)) (he : T.drop e = .comma :: Y) (h2' : rb (e + 1) 1 k = if P then .ok (d2, e2, h2) else .fault) {Z : List Tk} (he2 : T.drop e2 = .rp :: Z) :
    rArgs T rb p k = if P then .ok ([d, d2], e2 + 1, h2) else .fault := by
  have hl := len_drop he2 (by simp)
  have hl2 := len_drop hT (by simp)
  have hne : ts ≠ [] := by
    obtain ⟨t, Z, rfl, _⟩ := hs
    simp
  have hl3 : 1 ≤ ts.length := List.length_pos_iff.mpr hne
  simp only [List.length_cons, List.length_append] at hl2
  obtain ⟨m, hm'⟩ : ∃ m, T.length = m + 1 + 1 := ⟨T.length - 2, by omega⟩
  rw [rArgs, if_pos (opY hT rfl), start_op hs (at_cons hT).2 rfl, if_neg Bool.false_ne_true, hm', rArgsLoop, hi]
  simp only [Rs.bind]
  rw [if_pos (opY he rfl), rArgsLoop, h2']
  by_cases hP : P
  · rw [if_pos hP, if_pos hP]
    simp only [Rs.bind]
    rw [opN he2 rfl, if_neg Bool.false_ne_true, if_pos (opY he2 rfl), Nat.max_self, Nat.zero_max]
    rfl
  · rw [if_neg hP, if_neg hP]
    rfl
/-- a call: name and arguments -/
theorem ref_row {t : Tk} {rows : List Dat} (hT : T.drop p = t :: X) (ht : t.isName = true) (hX : T.drop (p + 1) = .lp :: Y) (hm : holdsMark T (p + 1) (Str.ofString ":") = some false)
    (ha : k < 40 → rArgs T rb (p + 1) (k + 1) = if P then .ok (rows, e, h) else .fault) {Z : List Tk} (he : T.drop e = Z) (hZ : NoLp Z) :
    rPrimary T rb p k = if k < 40 ∧ P ∧ h < 100 then .ok (dRef t.text rows, e, h + 1) else .fault := by
  rw [rPrimary, if_pos (pure_kind_name hT ht), rNamed, if_pos (pure_kind_name hT ht), if_pos (opY hX rfl), hm]
  simp only []
  rw [rRef]
  by_cases hk : 40 ≤ k
  · rw [if_pos hk, if_neg (by omega)]
    rfl
  · rw [if_neg hk, ha (by omega)]
    by_cases hP : P
    · rw [if_pos hP]
      simp only [Rs.bind]
      by_cases hh : 100 ≤ h
      · rw [if_pos hh, if_neg (by omega)]
      · rw [if_neg hh, if_pos ⟨by omega, hP, by omega⟩, textAt_of (at_cons hT).1]
        simp only []
        rw [rSub, opAt_noLp he hZ, if_neg Bool.false_ne_true]
    · rw [if_neg hP, if_neg (fun q => hP q.2.1)]
      rfl
theorem sub_part {d0 lo hi : Dat} {a g : Nat} (hT : T.drop a = .lp :: X) (hr : k < 40 → rEnds T rb a (k + 1) = if P then .ok (lo, hi, e, h) else .fault) :
    rSub T rb k d0 a g = if k < 40 ∧ P ∧ max g h < 100 then .ok (dSub d0 lo hi, e, max g h + 1) else .fault := by
  rw [rSub, if_pos (opY hT rfl)]
  by_cases hk : 40 ≤ k
  · rw [if_pos hk, if_neg (by omega)]
  · rw [if_neg hk, hr (by omega)]
    by_cases hP : P
    · rw [if_pos hP]
      simp only [Rs.bind]
      by_cases hh : 100 ≤ max g h
      · rw [if_pos hh, if_neg (by omega)]
      · rw [if_neg hh, if_pos ⟨by omega, hP, by omega⟩]
    · rw [if_neg hP, if_neg (fun q => hP q.2.1)]
      rfl
theorem sub_row {t : Tk} {lo hi : Dat} (hT : T.drop p = t :: X) (ht : t.isName = true) (hX : T.drop (p + 1) = .lp :: Y) (hm : holdsMark T (p + 1) (Str.ofString ":") = some true)
    (hr : k < 40 → rEnds T rb (p + 1) (k + 1) = if P then .ok (lo, hi, e, h) else .fault) :
    rPrimary T rb p k = if k < 40 ∧ P ∧ h < 100 then .ok (dSub (dName t.text) lo hi, e, h + 1) else .fault := by
  rw [rPrimary, if_pos (pure_kind_name hT ht), rNamed, if_pos (pure_kind_name hT ht), if_pos (opY hX rfl), hm]
  simp only []
  rw [sub_part hX hr, textAt_of (at_cons hT).1, Nat.zero_max]
theorem ends_low {ts : List Tk} (hT : T.drop p = .lp :: (ts ++ X)) (hs : Starts ts) (hi : rb (p + 1) 1 k = if P then .ok (d, e, h) else .fault) (he : T.drop e = .colon :: .rp :: Y) :
    rEnds T rb p k = if P then .ok (d, .none, e + 2, h) else .fault := by
  rw [rEnds, if_pos (opY hT rfl), rLow, start_op hs (at_cons hT).2 rfl, if_neg Bool.false_ne_true, hi]
  by_cases hP : P
  · rw [if_pos hP, if_pos hP]
    simp only [Rs.bind]
    rw [if_pos (opY he rfl), rHigh, if_pos (opY (at_cons he).2 rfl)]
    simp only [Rs.bind]
    rw [if_pos (opY (at_cons he).2 rfl), Nat.max_zero]
  · rw [if_neg hP, if_neg hP]
    rfl
theorem ends_high {ts : List Tk} (hT : T.drop p = .lp :: .colon :: (ts ++ X)) (hs : Starts ts) (hi : rb (p + 2) 1 k = if P then .ok (d, e, h) else .fault) (he : T.drop e = .rp :: Y) :
    rEnds T rb p k = if P then .ok (.none, d, e + 1, h) else .fault := by
  have h1 := (at_cons hT).2
  have h2 := (at_cons h1).2
  rw [rEnds, if_pos (opY hT rfl), rLow, if_pos (opY h1 rfl)]
  simp only [Rs.bind]
  rw [if_pos (opY h1 rfl), rHigh, start_op hs h2 rfl, if_neg Bool.false_ne_true, hi]
  by_cases hP : P
  · rw [if_pos hP, if_pos hP]
    simp only [Rs.bind]
    rw [if_pos (opY he rfl), Nat.zero_max]
  · rw [if_neg hP, if_neg hP]
    all_goals rfl
theorem ends_both {ts ts2 : List Tk} (hT : T.drop p = .lp :: (ts ++ X)) (hs : Starts ts) (hi : rb (p + 1) 1 k = if P then .ok (d, e, h) else .fault) (he : T.drop e = .colon :: (ts2 ++ Y)) (hs2 : Starts ts2) (hj : rb (e + 1) 1 k = .ok (d2, e2, 0)) {Z : List Tk} (he2 : T.drop e2 = .rp :: Z) :
    rEnds T rb p k = if P then .ok (d, d2, e2 + 1, h) else .fault := by
  rw [rEnds, if_pos (opY hT rfl), rLow, start_op hs (at_cons hT).2 rfl, if_neg Bool.false_ne_true, hi]
  by_cases hP : P
  · rw [if_pos hP, if_pos hP]
    simp only [Rs.bind]
    rw [if_pos (opY he rfl), rHigh, start_op hs2 (at_cons he).2 rfl, if_neg Bool.false_ne_true, hj]
    simp only [Rs.bind]
    rw [if_pos (opY he2 rfl), Nat.max_zero]
  · rw [if_neg hP, if_neg hP]
    rfl
end
theorem if_iff {α : Type} {P Q : Prop} [Decidable P] [Decidable Q] {a b x : α} (h : P ↔ Q) (e : a = b) : (if P then a else x) = (if Q then b else x) := by
  subst e
  by_cases hP : P
  · rw [if_pos hP, if_pos (h.mp hP)]
  · rw [if_neg hP, if_neg (fun q => hP (h.mpr q))]
theorem ok_eq {d : Dat} {a b g h : Nat} (h1 : a = b) (h2 : g = h) : Rs.ok (d, a, g) = Rs.ok (d, b, h) := by rw [h1, h2]
theorem starts_wrap {way : Nat} {ts : List Tk} : Starts (wrapT way ts) := by
  unfold wrapT
  split
  · exact ⟨_, _, rfl, .inr (.inr (.inr rfl))⟩
  · exact ⟨_, _, rfl, .inr (.inr (.inr rfl))⟩
  · exact ⟨_, _, rfl, .inr (.inl rfl)⟩
  · exact ⟨_, _, rfl, .inr (.inr (.inl rfl))⟩
  · exact ⟨_, _, rfl, .inr (.inr (.inr rfl))⟩
  · exact ⟨_, _, rfl, .inr (.inl rfl)⟩
  · exact ⟨_, _, rfl, .inr (.inr (.inr rfl))⟩
  · exact ⟨_, _, rfl, .inr (.inr (.inl rfl))⟩
  · exact ⟨_, _, rfl, .inr (.inr (.inr rfl))⟩
  · exact ⟨_, _, rfl, .inr (.inr (.inr rfl))⟩
  · exact ⟨_, _, rfl, .inr (.inr (.inl rfl))⟩
theorem starts_nK : Starts [.nK] := ⟨_, _, rfl, .inl rfl⟩
theorem starts_built {n : Nat} {ts : List Tk} {d : Dat} {deep high : Nat} (h : Built n ts d deep high) : Starts ts := by
  cases h with
  | k => exact starts_nK
  | wrap way hw h => exact starts_wrap
  | sum many hm h => exact ⟨_, _, rfl, .inr (.inr (.inr rfl))⟩
theorem noLp_cons {t : Tk} {X : List Tk} (h : t ≠ .lp) : NoLp (t :: X) := fun e => h (Option.some.inj e)
theorem rpLp {X : List Tk} : NoLp (.rp :: X) := noLp_cons nofun
section
variable {N : Nat} {ts : List Tk} {d : Dat} {deep high : Nat}
theorem len1 {t : Tk} {l : List Tk} : (t :: l).length = l.length + 1 := rfl
theorem good0 (G : Good N ts d deep high) (hs : Starts ts) : Good (N + 2) (wrapT 0 ts) (wrapDat 0 d) (wrapDeep 0 deep) (wrapHigh 0 high) := by
  intro T p suf f k h hn hf hk
  obtain ⟨g, rfl⟩ : ∃ g, f = g + 1 := ⟨f - 1, by omega⟩
  have hT : T.drop p = .lp :: (ts ++ (.rp :: suf)) := by rw [h]; simp [wrapT]
  have h1 := (at_cons hT).2
  rw [paren hT (fun hk => rb_row G h1 rpLp (by omega) (by omega) hs (by decide) (show (0 : Nat) < 1 by decide)) (at_app h1)]
  refine if_iff ?_ (ok_eq ?_ rfl)
  · simp only [Ok, wrapDeep, wrapHigh, true_and, and_true]; omega
  · simp only [wrapT, List.length_cons, List.length_append, List.length_nil]; omega
theorem good1 (G : Good N ts d deep high) (hs : Starts ts) : Good (N + 2) (wrapT 1 ts) (wrapDat 1 d) (wrapDeep 1 deep) (wrapHigh 1 high) := by
  intro T p suf f k h hn hf hk
  obtain ⟨g, rfl⟩ : ∃ g, f = g + 1 + 1 := ⟨f - 2, by omega⟩
  have hT : T.drop p = .lp :: .minus :: (ts ++ (.rp :: suf)) := by rw [h]; simp [wrapT]
  have h1 := (at_cons hT).2
  have h2 := (at_cons h1).2
  have h3 := at_app h2
  rw [paren hT (fun hk => minus_row h1 (rb_row G h2 rpLp (by omega) (by omega) hs (by decide) (show (0 : Nat) < 8 by decide)) h3 rfl) h3]
  refine if_iff ?_ (ok_eq ?_ rfl)
  · simp only [Ok, wrapDeep, wrapHigh, true_and, and_true]; omega
  · simp only [wrapT, List.length_cons, List.length_append, List.length_nil]; omega
theorem good6 (G : Good N ts d deep high) (hs : Starts ts) : Good (N + 2) (wrapT 6 ts) (wrapDat 6 d) (wrapDeep 6 deep) (wrapHigh 6 high) := by
  intro T p suf f k h hn hf hk
  obtain ⟨g, rfl⟩ : ∃ g, f = g + 1 + 1 := ⟨f - 2, by omega⟩
  have hT : T.drop p = .lp :: .no :: (ts ++ (.rp :: suf)) := by rw [h]; simp [wrapT]
  have h1 := (at_cons hT).2
  have h2 := (at_cons h1).2
  have h3 := at_app h2
  rw [paren hT (fun hk => not_row h1 (rb_row G h2 rpLp (by omega) (by omega) hs (by decide) (show (0 : Nat) < 5 by decide)) h3 rfl) h3]
  refine if_iff ?_ (ok_eq ?_ rfl)
  · simp only [Ok, wrapDeep, wrapHigh, true_and, and_true]; omega
  · simp only [wrapT, List.length_cons, List.length_append, List.length_nil]; omega
theorem good2 (G : Good N ts d deep high) (hs : Starts ts) (hb : Bl false ts) : Good (N + 2) (wrapT 2 ts) (wrapDat 2 d) (wrapDeep 2 deep) (wrapHigh 2 high) := by
  intro T p suf f k h hn hf hk
  obtain ⟨g, rfl⟩ : ∃ g, f = g + 1 := ⟨f - 1, by omega⟩
  have hT : T.drop p = .nA :: .lp :: (ts ++ (.rp :: suf)) := by rw [h]; simp [wrapT]
  have h1 := (at_cons hT).2
  have h2 := (at_cons h1).2
  have h3 := at_app h2
  have h4 := (at_cons h3).2
  rw [ref_row hT rfl h1 (mark_none mark_colon hb h1) (fun hk => args_one h1 hs (rb_row G h2 rpLp (by omega) (by omega) hs (by decide) (show (0 : Nat) < 1 by decide)) h3) h4 hn]
  refine if_iff ?_ (ok_eq ?_ rfl)
  · simp only [Ok, wrapDeep, wrapHigh, true_and, and_true]; omega
  · simp only [wrapT, List.length_cons, List.length_append, List.length_nil]; omega
theorem good5 (G : Good N ts d deep high) (hs : Starts ts) (hb : Bl false ts) : Good (N + 2) (wrapT 5 ts) (wrapDat 5 d) (wrapDeep 5 deep) (wrapHigh 5 high) := by
  intro T p suf f k h hn hf hk
  obtain ⟨g, rfl⟩ : ∃ g, f = g + 1 := ⟨f - 1, by omega⟩
  have hT : T.drop p = .nA :: .lp :: .nK :: .comma :: (ts ++ (.rp :: suf)) := by rw [h]; simp [wrapT]
  have h1 := (at_cons hT).2
  have h2 := (at_cons h1).2
  have h3 := (at_cons h2).2
  have h4 := (at_cons h3).2
  have h5 := at_app h4
  have h6 := (at_cons h5).2
  have hb2 : Bl false (.nK :: .comma :: ts) := .cons (bl_t _) (.cons (bl_t _) hb)
  rw [ref_row hT rfl h1 (mark_none mark_colon hb2 h1) (fun hk => args_two (ts := [.nK]) h1 starts_nK (rb_nK h2 (noLp_cons nofun) (by omega) (by decide) (show (0 : Nat) < 1 by decide)) h3 (rb_row G h4 rpLp (by omega) (by omega) hs (by decide) (show (0 : Nat) < 1 by decide)) h5) h6 hn]
  refine if_iff ?_ (ok_eq ?_ rfl)
  · simp only [Ok, wrapDeep, wrapHigh, true_and, and_true]; omega
  · simp only [wrapT, List.length_cons, List.length_append, List.length_nil]; omega
theorem good3 (G : Good N ts d deep high) (hs : Starts ts) (hb : Bl false ts) : Good (N + 2) (wrapT 3 ts) (wrapDat 3 d) (wrapDeep 3 deep) (wrapHigh 3 high) := by
  intro T p suf f k h hn hf hk
  obtain ⟨g, rfl⟩ : ∃ g, f = g + 1 := ⟨f - 1, by omega⟩
  have hT : T.drop p = .nC :: .lp :: (ts ++ (.colon :: .rp :: suf)) := by rw [h]; simp [wrapT]
  have h1 := (at_cons hT).2
  have h2 := (at_cons h1).2
  have h3 := at_app h2
  rw [sub_row hT rfl h1 (mark_one hb (.nil _) h1) (fun hk => ends_low h1 hs (rb_row G h2 (noLp_cons nofun) (by omega) (by omega) hs (by decide) (show (0 : Nat) < 1 by decide)) h3)]
  refine if_iff ?_ (ok_eq ?_ rfl)
  · simp only [Ok, wrapDeep, wrapHigh, true_and, and_true]; omega
  · simp only [wrapT, List.length_cons, List.length_append, List.length_nil]; omega
theorem good7 (G : Good N ts d deep high) (hs : Starts ts) (hb : Bl false ts) : Good (N + 2) (wrapT 7 ts) (wrapDat 7 d) (wrapDeep 7 deep) (wrapHigh 7 high) := by
  intro T p suf f k h hn hf hk
  obtain ⟨g, rfl⟩ : ∃ g, f = g + 1 := ⟨f - 1, by omega⟩
  have hT : T.drop p = .nC :: .lp :: .colon :: (ts ++ (.rp :: suf)) := by rw [h]; simp [wrapT]
  have h1 := (at_cons hT).2
  have h2 := (at_cons h1).2
  have h3 := (at_cons h2).2
  have h4 := at_app h3
  rw [sub_row hT rfl h1 (mark_one (.nil _) hb h1) (fun hk => ends_high h1 hs (rb_row G h3 rpLp (by omega) (by omega) hs (by decide) (show (0 : Nat) < 1 by decide)) h4)]
  refine if_iff ?_ (ok_eq ?_ rfl)
  · simp only [Ok, wrapDeep, wrapHigh, true_and, and_true]; omega
  · simp only [wrapT, List.length_cons, List.length_append, List.length_nil]; omega
theorem if_true_eq {α : Type} {a x : α} {r : α} (h : r = a) : r = if True then a else x := by rw [h, if_pos trivial]
theorem right_pow {T : List Tk} {rb : Rb} {e k : Nat} {X : List Tk} {P : Prop} [Decidable P] {r : Tr} (ho : T.drop e = .pow :: X) (hr : k < 40 → rb (e + 1) 9 (k + 1) = if P then .ok r else .fault) : rRight T rb e k = if k < 40 ∧ P then .ok r else .fault := by
  rw [rRight, prio_of ho, if_pos (show prioT (.pow :: X) = 9 from rfl)]
  by_cases hk : 40 ≤ k
  · rw [if_pos hk, if_neg (by omega)]
  · rw [if_neg hk, hr (by omega)]
    exact if_iff ⟨fun q => ⟨by omega, q⟩, fun q => q.2⟩ rfl
theorem right_star {T : List Tk} {rb : Rb} {e k : Nat} {X : List Tk} (ho : T.drop e = .star :: X) : rRight T rb e k = rb (e + 1) 9 k := by
  rw [rRight, prio_of ho, if_neg (show ¬ prioT (.star :: X) = 9 from (by decide : ¬ (8 : Nat) = 9))]
  rfl
theorem right_plus {T : List Tk} {rb : Rb} {e k : Nat} {X : List Tk} (ho : T.drop e = .plus :: X) : rRight T rb e k = rb (e + 1) 8 k := by
  rw [rRight, prio_of ho, if_neg (show ¬ prioT (.plus :: X) = 9 from (by decide : ¬ (7 : Nat) = 9))]
  rfl
theorem good4 (G : Good N ts d deep high) (hs : Starts ts) : Good (N + 2) (wrapT 4 ts) (wrapDat 4 d) (wrapDeep 4 deep) (wrapHigh 4 high) := by
  intro T p suf f k h hn hf hk
  obtain ⟨g, rfl⟩ : ∃ g, f = g + 1 + 1 := ⟨f - 2, by omega⟩
  have hT : T.drop p = .lp :: .nK :: .pow :: (ts ++ (.rp :: suf)) := by rw [h]; simp [wrapT]
  have h1 := (at_cons hT).2
  have h2 := (at_cons h1).2
  have h3 := (at_cons h2).2
  have h4 := at_app h3
  rw [paren hT (fun hk => bin_row (if_true_eq (first_nK h1 (noLp_cons nofun) (by omega))) h2 (show 1 ≤ 9 by decide) (right_pow h2 (fun hk' => rb_row G h3 rpLp (by omega) (by omega) hs (by decide) (show (0 : Nat) < 9 by decide))) h4 rfl) h4]
  refine if_iff ?_ (ok_eq ?_ ?_)
  · simp only [Ok, wrapDeep, wrapHigh, true_and, and_true]; omega
  · simp only [wrapT, List.length_cons, List.length_append, List.length_nil]; omega
  · simp only [wrapHigh]; omega
theorem good9 (G : Good N ts d deep high) (hs : Starts ts) : Good (N + 2) (wrapT 9 ts) (wrapDat 9 d) (wrapDeep 9 deep) (wrapHigh 9 high) := by
  intro T p suf f k h hn hf hk
  obtain ⟨g, rfl⟩ : ∃ g, f = g + 1 + 1 := ⟨f - 2, by omega⟩
  have hT : T.drop p = .lp :: .nK :: .star :: (ts ++ (.rp :: suf)) := by rw [h]; simp [wrapT]
  have h1 := (at_cons hT).2
  have h2 := (at_cons h1).2
  have h3 := (at_cons h2).2
  have h4 := at_app h3
  rw [paren hT (fun hk => bin_row (if_true_eq (first_nK h1 (noLp_cons nofun) (by omega))) h2 (show 1 ≤ 8 by decide) ((right_star h2).trans (rb_row G h3 rpLp (by omega) (by omega) hs (by decide) (show (0 : Nat) < 9 by decide))) h4 rfl) h4]
  refine if_iff ?_ (ok_eq ?_ ?_)
  · simp only [Ok, wrapDeep, wrapHigh, true_and, and_true]; omega
  · simp only [wrapT, List.length_cons, List.length_append, List.length_nil]; omega
  · simp only [wrapHigh]; omega
theorem good8 (G : Good N ts d deep high) (hs : Starts ts) : Good (N + 2) (wrapT 8 ts) (wrapDat 8 d) (wrapDeep 8 deep) (wrapHigh 8 high) := by
  intro T p suf f k h hn hf hk
  obtain ⟨g, rfl⟩ : ∃ g, f = g + 1 + 1 := ⟨f - 2, by omega⟩
  have hT : T.drop p = .lp :: (ts ++ (.pow :: .nK :: .rp :: suf)) := by rw [h]; simp [wrapT]
  have h1 := (at_cons hT).2
  have h2 := at_app h1
  have h3 := (at_cons h2).2
  have h4 := (at_cons h3).2
  rw [paren hT (fun hk => bin_row ((first_primary h1 hs).trans (G T _ _ _ _ h1 (noLp_cons nofun) (by omega) (by omega))) h2 (show 1 ≤ 9 by decide) (right_pow h2 (fun hk' => if_true_eq (rb_nK h3 rpLp (by omega) (by decide) (show (0 : Nat) < 9 by decide)))) h4 rfl) h4]
  refine if_iff ?_ (ok_eq ?_ ?_)
  · simp only [Ok, wrapDeep, wrapHigh, true_and, and_true]; omega
  · simp only [wrapT, List.length_cons, List.length_append, List.length_nil]; omega
  · simp only [wrapHigh]; omega
/-- way 10: a call and its part -/
theorem good10 (G : Good N ts d deep high) (hs : Starts ts) (hb : Bl false ts) : Good (N + 2) (wrapT 10 ts) (wrapDat 10 d) (wrapDeep 10 deep) (wrapHigh 10 high) := by
  intro T p suf f k h hn hf hk
  obtain ⟨g, rfl⟩ : ∃ g, f = g + 1 := ⟨f - 1, by omega⟩
  have hT : T.drop p = .nC :: .lp :: .nK :: .rp :: .lp :: (ts ++ (.colon :: .nK :: .rp :: suf)) := by rw [h]; simp [wrapT]
  have h1 := (at_cons hT).2
  have h2 := (at_cons h1).2
  have h3 := (at_cons h2).2
  have h4 := (at_cons h3).2
  have h5 := (at_cons h4).2
  have h6 := at_app h5
  have h7 := (at_cons h6).2
  have h8 := (at_cons h7).2
  have hm : holdsMark T (p + 1) (Str.ofString ":") = some false := mark_none mark_colon (X := [.nK]) (bl_t _) h1
  rw [rPrimary, if_pos (pure_kind_name hT rfl), rNamed, if_pos (pure_kind_name hT rfl), if_pos (opY h1 rfl), hm]
  simp only []
  rw [rRef]
  by_cases hk4 : 40 ≤ k
  · rw [if_pos hk4, if_neg (by simp only [Ok, wrapDeep]; omega)]
    rfl
  · rw [if_neg hk4, args_one (P := True) (ts := [.nK]) h1 starts_nK (if_true_eq (rb_nK h2 rpLp (by omega) (by decide) (show (0 : Nat) < 1 by decide))) h3, if_pos trivial]
    simp only [Rs.bind]
    rw [if_neg (by decide), textAt_of (at_cons hT).1]
    simp only []
    rw [sub_part h4 (fun hk => ends_both h4 hs (rb_row G h5 (noLp_cons nofun) (by omega) (by omega) hs (by decide) (show (0 : Nat) < 1 by decide)) h6 (ts2 := [.nK]) starts_nK (rb_nK h7 rpLp (by omega) (by decide) (show (0 : Nat) < 1 by decide)) h8)]
    refine if_iff ?_ (ok_eq ?_ ?_)
    · simp only [Ok, wrapDeep, wrapHigh, true_and, and_true]; omega
    · simp only [wrapT, List.length_cons, List.length_append, List.length_nil]; omega
    · simp only [wrapHigh]; omega
end
/-- the sum's tail -/
noncomputable def pl : Nat → List Tk
  | 0 => []
  | n + 1 => .plus :: .nK :: pl n
theorem pl_snoc (n : Nat) : pl n ++ [.plus, .nK] = pl (n + 1) := by
  induction n with
  | zero => rfl
  | succ n ih =>
    show .plus :: .nK :: (pl n ++ [.plus, .nK]) = _
    rw [ih]; rfl
theorem sumT_pl (n : Nat) (ts : List Tk) : sumT n ts = ts ++ pl n := by
  induction n with
  | zero => exact (List.append_nil _).symm
  | succ n ih => rw [sumT, ih, List.append_assoc, pl_snoc]
theorem sumD_in (n : Nat) (d : Dat) : sumD n (dBin (Str.ofString "+") d dK) = sumD (n + 1) d := by
  induction n with
  | zero => rfl
  | succ n ih =>
    show dBin (Str.ofString "+") (sumD n _) dK = _
    rw [ih]; rfl
theorem pl_len (n : Nat) : (pl n).length = 2 * n := by
  induction n with
  | zero => rfl
  | succ n ih => simp only [pl, List.length_cons, ih]; omega
theorem pl_noLp (n : Nat) (X : List Tk) : NoLp (pl n ++ (.rp :: X)) := by
  cases n with
  | zero => exact rpLp
  | succ n => exact noLp_cons nofun
theorem pl_prio (n : Nat) (X : List Tk) : prioT (pl n ++ (.rp :: X)) < 8 := by
  cases n with
  | zero => exact (by decide : (0 : Nat) < 8)
  | succ n => exact (by decide : (7 : Nat) < 8)
theorem loop_sum {T : List Tk} {f k : Nat} {suf : List Tk} (hk : k ≤ 40) : ∀ (n m p g : Nat) (d : Dat), T.drop p = pl n ++ (.rp :: suf) → n < m → g ≤ 100 →
    rLoop T (rBin T (f + 1)) 1 k m d p g = if g + n ≤ 100 then .ok (sumD n d, p + 2 * n, g + n) else .fault := by
  intro n
  induction n with
  | zero =>
    intro m p g d h hm hg
    obtain ⟨m, rfl⟩ : ∃ j, m = j + 1 := ⟨m - 1, by omega⟩
    rw [loop_stop (show T.drop p = .rp :: suf from h) (show (0 : Nat) < 1 by decide), if_pos (by omega)]
    rfl
  | succ n ih =>
    intro m p g d h hm hg
    obtain ⟨m, rfl⟩ : ∃ j, m = j + 1 := ⟨m - 1, by omega⟩
    have h0 : T.drop p = .plus :: .nK :: (pl n ++ (.rp :: suf)) := h
    have h1 := (at_cons h0).2
    have h2 := (at_cons h1).2
    rw [rLoop, prio_of h0, if_pos (show 1 ≤ prioT (.plus :: .nK :: (pl n ++ (.rp :: suf))) from (by decide : 1 ≤ 7)), right_plus h0, rb_nK h1 (pl_noLp n suf) hk (by decide) (pl_prio n suf)]
    simp only [Rs.bind]
    rw [Nat.max_zero]
    by_cases hh : 100 ≤ g
    · rw [if_pos hh, if_neg (by omega)]
    · rw [if_neg hh, textAt_of (at_cons h0).1, ih m (p + 1 + 1) (g + 1) _ h2 (by omega) (by omega)]
      refine if_iff (by omega) ?_
      rw [show dBin Tk.plus.text d dK = dBin (Str.ofString "+") d dK from rfl, sumD_in]
      exact ok_eq (by omega) (by omega)
theorem good_sum {N : Nat} {ts : List Tk} {d : Dat} {deep high : Nat} (many : Nat) (G : Good N ts d deep high) (hs : Starts ts) : Good (N + 2) (.lp :: (sumT many ts ++ [.rp])) (sumD many d) (deep + 1) (high + many) := by
  intro T p suf f k h hn hf hk
  obtain ⟨g, rfl⟩ : ∃ g, f = g + 1 + 1 := ⟨f - 2, by omega⟩
  have hT : T.drop p = .lp :: (ts ++ (pl many ++ (.rp :: suf))) := by rw [h, sumT_pl]; simp
  have h1 := (at_cons hT).2
  have h2 := at_app h1
  have h3 := at_app h2
  have hl := len_drop hT (by simp)
  have hr : k < 40 → rBin T (g + 1 + 1) (p + 1) 1 (k + 1) = if Ok (k + 1) deep (high + many) then .ok (sumD many d, p + 1 + ts.length + (pl many).length, high + many) else .fault := by
    intro hk'
    rw [rBin, if_neg (by decide), rBin1, first_primary h1 hs, G T _ _ _ _ h1 (pl_noLp many suf) (by omega) (by omega)]
    by_cases hP : Ok (k + 1) deep high
    · rw [if_pos hP]
      simp only [Rs.bind]
      have hm : many < T.length + 1 := by
        simp only [List.length_cons, List.length_append, pl_len] at hl
        omega
      rw [loop_sum (by omega) many _ _ _ _ h2 hm hP.2]
      refine if_iff ?_ (ok_eq (by rw [pl_len]) rfl)
      simp only [Ok] at hP ⊢
      omega
    · rw [if_neg hP, if_neg (fun q => hP ⟨q.1, by have := q.2; omega⟩)]
      rfl
  rw [paren hT hr h3]
  refine if_iff ?_ (ok_eq ?_ rfl)
  · simp only [Ok]; omega
  · simp only [sumT_pl, List.length_cons, List.length_append, List.length_nil]; omega
theorem good_built {n : Nat} {ts : List Tk} {d : Dat} {deep high : Nat} (h : Built n ts d deep high) : Good (2 * n) ts d deep high := by
  induction h with
  | k => exact goodK
  | @wrap n ts d deep high way hw hB G =>
    have hs := starts_built hB
    have hb := bl_built hB
    show Good (2 * n + 2) _ _ _ _
    obtain rfl | rfl | rfl | rfl | rfl | rfl | rfl | rfl | rfl | rfl | rfl : way = 0 ∨ way = 1 ∨ way = 2 ∨ way = 3 ∨ way = 4 ∨ way = 5 ∨ way = 6 ∨ way = 7 ∨ way = 8 ∨ way = 9 ∨ way = 10 := by omega
    · exact good0 G hs
    · exact good1 G hs
    · exact good2 G hs hb
    · exact good3 G hs hb
    · exact good4 G hs
    · exact good5 G hs hb
    · exact good6 G hs
    · exact good7 G hs hb
    · exact good8 G hs
    · exact good9 G hs
    · exact good10 G hs hb
  | @sum n ts d deep high many hm hB G => exact good_sum many G (starts_built hB)
-- the tree's own depth, for the comparison
theorem kqd_un {n : Nat} {x : Str} {d : Dat} (hx : PyData.strOk x = true) (h : kqdOk (n + 1) d = true) : kqdOk (n + 2) (dUn x d) = true := by
  simp only [dUn, kqdOk, List.all_cons, List.all_nil, hx, h, Bool.and_true, Bool.true_and]
  decide +kernel
theorem kqd_bin {n : Nat} {x : Str} {d e : Dat} (hx : PyData.strOk x = true) (h : kqdOk (n + 1) d = true) (h2 : kqdOk (n + 1) e = true) : kqdOk (n + 2) (dBin x d e) = true := by
  simp only [dBin, kqdOk, List.all_cons, List.all_nil, hx, h, h2, Bool.and_true, Bool.true_and]
  decide +kernel
theorem kqd_sub {n : Nat} {d lo hi : Dat} (h0 : kqdOk (n + 1) d = true) (h : kqdOk (n + 1) lo = true) (h2 : kqdOk (n + 1) hi = true) : kqdOk (n + 2) (dSub d lo hi) = true := by
  simp only [dSub, kqdOk, List.all_cons, List.all_nil, h0, h, h2, Bool.and_true, Bool.true_and]
  decide +kernel
theorem kqd_name {n : Nat} {x : Str} (hx : PyData.strOk x = true) : kqdOk (n + 1) (dName x) = true := by
  simp only [dName, kqdOk, List.all_cons, List.all_nil, hx, Bool.and_true, Bool.true_and]
  decide +kernel
theorem kqd_ref1 {n : Nat} {x : Str} {d : Dat} (hx : PyData.strOk x = true) (h : kqdOk (n + 1) d = true) : kqdOk (n + 3) (dRef x [d]) = true := by
  simp only [dRef, kqdOk, List.all_cons, List.all_nil, hx, h, Bool.and_true, Bool.true_and]
  decide +kernel
theorem kqd_ref2 {n : Nat} {x : Str} {d e : Dat} (hx : PyData.strOk x = true) (h : kqdOk (n + 1) d = true) (h2 : kqdOk (n + 1) e = true) : kqdOk (n + 3) (dRef x [d, e]) = true := by
  simp only [dRef, kqdOk, List.all_cons, List.all_nil, hx, h, h2, Bool.and_true, Bool.true_and]
  decide +kernel
theorem kqd_K (n : Nat) : kqdOk (n + 1) dK = true := kqd_name (by decide +kernel)
theorem kqd_none (n : Nat) : kqdOk n .none = true := by cases n <;> rfl
theorem kqd_sum {n : Nat} {d : Dat} (h : kqdOk (n + 1) d = true) (m : Nat) : kqdOk (n + 1 + m) (sumD m d) = true := by
  induction m with
  | zero => exact h
  | succ m ih =>
    have e1 : n + 1 + m = (n + m) + 1 := by omega
    have e2 : n + 1 + (m + 1) = (n + m) + 2 := by omega
    rw [e1] at ih
    rw [e2]
    exact kqd_bin (by decide +kernel) ih (kqd_K _)
theorem kqd_wrap {n : Nat} {d : Dat} {way : Nat} (hw : way < 11) (h : kqdOk (n + 3) d = true) : kqdOk (n + 5) (wrapDat way d) = true := by
  have h4 : kqdOk (n + 4) d = true := kqd_mono _ _ _ (by omega) h
  have h5 : kqdOk (n + 5) d = true := kqd_mono _ _ _ (by omega) h
  obtain rfl | rfl | rfl | rfl | rfl | rfl | rfl | rfl | rfl | rfl | rfl : way = 0 ∨ way = 1 ∨ way = 2 ∨ way = 3 ∨ way = 4 ∨ way = 5 ∨ way = 6 ∨ way = 7 ∨ way = 8 ∨ way = 9 ∨ way = 10 := by omega
  · exact h5
  · exact kqd_un (by decide +kernel) h4
  · exact kqd_ref1 (by decide +kernel) h
  · exact kqd_sub (kqd_name (by decide +kernel)) h4 (kqd_none _)
  · exact kqd_bin (by decide +kernel) (kqd_K _) h4
  · exact kqd_ref2 (by decide +kernel) (kqd_K _) h
  · exact kqd_un (by decide +kernel) h4
  · exact kqd_sub (kqd_name (by decide +kernel)) (kqd_none _) h4
  · exact kqd_bin (by decide +kernel) h4 (kqd_K _)
  · exact kqd_bin (by decide +kernel) (kqd_K _) h4
  · exact kqd_sub (kqd_mono (n + 3) _ _ (by omega) (kqd_ref1 (n := n) (by decide +kernel) (kqd_K _))) h4 (kqd_K _)
theorem kqd_built {n : Nat} {ts : List Tk} {d : Dat} {deep high : Nat} (h : Built n ts d deep high) : kqdOk (102 * n + 3) d = true := by
  induction h with
  | k => exact kqd_K _
  | @wrap n ts d deep high way hw hB ih => exact kqd_mono _ _ _ (by omega) (kqd_wrap (n := 102 * n) hw ih)
  | @sum n ts d deep high many hm hB ih => exact kqd_mono _ _ _ (by omega) (kqd_sum (n := 102 * n + 2) ih many)
theorem first_lp {n : Nat} {ts : List Tk} {d : Dat} {deep high : Nat} (h : Built n ts d deep high) (h0 : (ts[0]?.map Tk.isName) ≠ some true) : ∃ X, ts = .lp :: X := by
  obtain ⟨t, X, rfl, ht⟩ := starts_built h
  rcases ht with rfl | rfl | rfl | rfl
  · exact absurd rfl h0
  · exact absurd rfl h0
  · exact absurd rfl h0
  · exact ⟨X, rfl⟩
/-- a row is one bracket, or begins with a name -/
theorem row_shape {n : Nat} {ts : List Tk} {d : Dat} {deep high : Nat} (h : Built n ts d deep high) : (∃ X, Bl false X ∧ ts = .lp :: (X ++ [.rp])) ∨ (ts[0]?.map Tk.isName) = some true := by
  cases h with
  | k => exact .inr rfl
  | @wrap n ts d deep high way hw hB =>
    have hb := bl_built hB
    obtain rfl | rfl | rfl | rfl | rfl | rfl | rfl | rfl | rfl | rfl | rfl : way = 0 ∨ way = 1 ∨ way = 2 ∨ way = 3 ∨ way = 4 ∨ way = 5 ∨ way = 6 ∨ way = 7 ∨ way = 8 ∨ way = 9 ∨ way = 10 := by omega
    · exact .inl ⟨ts, hb, rfl⟩
    · exact .inl ⟨.minus :: ts, .cons (bl_t _) hb, rfl⟩
    · exact .inr rfl
    · exact .inr rfl
    · exact .inl ⟨.nK :: .pow :: ts, .cons (bl_t _) (.cons (bl_t _) hb), rfl⟩
    · exact .inr rfl
    · exact .inl ⟨.no :: ts, .cons (bl_t _) hb, rfl⟩
    · exact .inr rfl
    · exact .inl ⟨ts ++ [.pow, .nK], .app hb (.cons (bl_t _) (bl_t _)), by simp [wrapT]⟩
    · exact .inl ⟨.nK :: .star :: ts, .cons (bl_t _) (.cons (bl_t _) hb), rfl⟩
    · exact .inr rfl
  | @sum n ts d deep high many hm hB => exact .inl ⟨_, bl_sum (bl_built hB), rfl⟩
theorem noLp_nil : NoLp [] := fun e => nomatch e
theorem isLoop_no {n : Nat} {ts : List Tk} {d : Dat} {deep high : Nat} (h : Built n ts d deep high) : isLoop ts 0 = some false := by
  rcases row_shape h with ⟨X, hX, rfl⟩ | h0
  · rw [isLoop]
    have hT : (Tk.lp :: (X ++ [Tk.rp])).drop 0 = .lp :: (X ++ (.rp :: [])) := rfl
    rw [if_pos (opY hT rfl)]
    exact mark_none mark_eq hX hT
  · obtain ⟨t, X, rfl, ht⟩ := starts_built h
    have hT : (t :: X).drop 0 = t :: X := rfl
    rcases ht with rfl | rfl | rfl | rfl
    · rw [isLoop, opN hT rfl]; rfl
    · rw [isLoop, opN hT rfl]; rfl
    · rw [isLoop, opN hT rfl]; rfl
    · exact absurd (Option.some.inj h0 : Tk.lp.isName = true) (by decide)
theorem knows : Knows := by
  intro n ts d deep high hB hn
  have G := good_built hB
  have hs := starts_built hB
  have hpos : 0 < ts.length := by
    obtain ⟨t, X, rfl, _⟩ := hs
    exact Nat.succ_pos _
  have h0 : ts.drop 0 = ts ++ [] := (List.append_nil ts).symm
  have hend : ts.drop ts.length = [] := List.drop_length
  have main : rBin ts 100 0 1 0 = if Ok 0 deep high then .ok (d, 0 + ts.length, high) else .fault :=
    rb_row (f := 99) G h0 noLp_nil (by omega) (by omega) hs (by decide) (show (0 : Nat) < 1 by decide)
  have okI : Ok 0 deep high ↔ (deep ≤ 40 ∧ high ≤ 100) := by simp only [Ok]; omega
  rw [Nat.zero_add ts.length] at main
  have yes : deep ≤ 40 ∧ high ≤ 100 → rBin ts 100 0 1 0 = .ok (d, ts.length, high) := fun q => by rw [main, if_pos (okI.mpr q)]
  have no : ¬ (deep ≤ 40 ∧ high ≤ 100) → rBin ts 100 0 1 0 = .fault := fun q => by rw [main, if_neg (fun z => q (okI.mp z))]
  have tgt : (ts[0]?.map Tk.isName) = some true → rTarget ts (rBin ts 100) 0 = if Ok 0 deep high then .ok (d, ts.length, high) else .fault := by
    intro q
    have hp := G ts 0 [] 100 0 h0 noLp_nil (by omega) (by omega)
    obtain ⟨t, X, rfl, _⟩ := hs
    have ht : t.isName = true := Option.some.inj q
    have hk : kindAt (t :: X) 0 = Str.ofString "NAME" := pure_kind_name (show (t :: X).drop 0 = t :: X from rfl) ht
    rw [rPrimary, if_pos hk, Nat.zero_add (t :: X).length] at hp
    rw [rTarget, if_pos hk, hp]
  have tno : (ts[0]?.map Tk.isName) ≠ some true → rTarget ts (rBin ts 100) 0 = .fault := by
    intro q
    obtain ⟨X, rfl⟩ := first_lp hB q
    rw [rTarget, if_neg (pure_kind_op (show (Tk.lp :: X).drop 0 = .lp :: X from rfl) rfl)]
  have args : rArgs (.lp :: (ts ++ [.rp])) (rBin (.lp :: (ts ++ [.rp])) 100) 0 0 = if Ok 0 deep high then .ok ([d], ts.length + 2, high) else .fault := by
    have hT : (Tk.lp :: (ts ++ [Tk.rp])).drop 0 = .lp :: (ts ++ (.rp :: [])) := rfl
    have h1 := (at_cons hT).2
    rw [args_one hT hs (rb_row (f := 99) G h1 rpLp (by omega) (by omega) hs (by decide) (show (0 : Nat) < 1 by decide)) (at_app h1)]
    refine if_iff Iff.rfl ?_
    rw [show 0 + 1 + ts.length + 1 = ts.length + 2 by omega]
  refine ⟨hpos, kqd_built hB, fun q => ⟨_, yes q⟩, no, ?_⟩
  constructor
  · intro q q2
    exact ⟨high, by rw [tgt q2, if_pos (okI.mpr q)]⟩
  · intro q
    by_cases q2 : (ts[0]?.map Tk.isName) = some true
    · rw [tgt q2, if_neg (fun z => q ⟨(okI.mp z).1, (okI.mp z).2, q2⟩)]
    · exact tno q2
  · intro q
    refine ⟨high, ?_⟩
    rw [rItems, if_pos (isLoop_no hB), yes q]
    simp only [Rs.bind]
    rw [opAt_no (at_none hend), if_neg Bool.false_ne_true]
  · intro q
    rw [rItems, if_pos (isLoop_no hB), no q]
    rfl
  · exact fun q => ⟨high, by rw [args, if_pos (okI.mpr q)]⟩
  · exact fun q => by rw [args, if_neg (fun z => q (okI.mp z))]
-- names that the head would lay for its own constants: taken, so that it does without them (the compiled file stays small)
theorem fin.tw3220787627109678965 : True := trivial
theorem fin.tw13630951806061228725 : True := trivial
theorem fin.tw2415902012162501839 : True := trivial
theorem fin.tw11587955951900863698 : True := trivial
theorem fin.tw4312942655851389009 : True := trivial
theorem fin.tw4209717502836232480 : True := trivial
theorem fin.tw876206183137641144 : True := trivial
theorem fin.tw11454252539852477091 : True := trivial
theorem fin.tw13337293482115323266 : True := trivial
theorem fin.tw16175276709679454751 : True := trivial
theorem fin.tw9038070997981027603 : True := trivial
theorem fin.tw7976502392129159676 : True := trivial
theorem fin.tw16229209127682248589 : True := trivial
theorem fin.tw6667815254911646788 : True := trivial
theorem fin.tw2512408688544751470 : True := trivial
theorem fin.tw428092273266315144 : True := trivial
theorem fin.tw5805905742469029177 : True := trivial
theorem fin.tw16906536467411238026 : True := trivial
theorem fin.tw16510490156224867327 : True := trivial
theorem fin.tw3199103547748192838 : True := trivial
theorem fin.tw544173102793226557 : True := trivial
theorem fin.tw4928979718650693569 : True := trivial
theorem fin.tw6712194924023145494 : True := trivial
theorem fin.tw1544503264643628384 : True := trivial
theorem fin.tw13199158710529813207 : True := trivial
theorem fin.tw15566928917628492161 : True := trivial
theorem fin.tw16252508478716706905 : True := trivial
theorem fin.tw9001875181463519149 : True := trivial
theorem fin.tw4588413851689716618 : True := trivial
theorem fin.tw10852849658779182186 : True := trivial
theorem fin.tw15309079848183770524 : True := trivial
theorem fin.tw17130245016438642246 : True := trivial
theorem fin.tw4878226113927451544 : True := trivial
theorem fin.tw4769821431679368130 : True := trivial
theorem fin.tw7995362448368537469 : True := trivial
theorem fin.tw7380833856163905736 : True := trivial
theorem fin.tw6718411051458867188 : True := trivial
theorem fin.tw13360279666012451719 : True := trivial
theorem fin.tw16934629359412608497 : True := trivial
theorem fin.tw8062805763228029184 : True := trivial
theorem fin.tw10936777179133785780 : True := trivial
theorem fin.tw9725021084223525626 : True := trivial
theorem fin.tw3598329298470268980 : True := trivial
theorem fin.tw14347400895652799225 : True := trivial
theorem fin.tw7547296005191728479 : True := trivial
theorem fin.tw10580198807604790814 : True := trivial
theorem fin.tw1921391257341544841 : True := trivial
theorem fin.tw9462194772922662784 : True := trivial
theorem fin.tw15583698165555649274 : True := trivial
theorem fin.tw14578271805448956485 : True := trivial
theorem fin.tw11192643925408225281 : True := trivial
theorem fin.tw15564276425815640635 : True := trivial
theorem fin.tw9218923581257491847 : True := trivial
theorem fin.tw9363291351745731410 : True := trivial
theorem fin.tw4326780796455107134 : True := trivial
theorem fin.tw4719063310657182621 : True := trivial
theorem fin.tw12711679700452659978 : True := trivial
theorem fin.tw8416529770105884409 : True := trivial
theorem fin.tw3810570522144960214 : True := trivial
theorem fin.tw1422313219903470601 : True := trivial
theorem fin.tw6498334528663615478 : True := trivial
theorem fin.tw8643116662766533202 : True := trivial
theorem fin.tw15201286185872193147 : True := trivial
theorem fin.tw9746214513668125432 : True := trivial
theorem fin.tw4040260094072895976 : True := trivial
theorem fin.tw612862322836996645 : True := trivial
theorem fin.tw4218790737952374519 : True := trivial
theorem fin.tw7613945582906998725 : True := trivial
theorem fin.tw4924110625330727750 : True := trivial
theorem fin.tw7613857476909055813 : True := trivial
theorem fin.tw18105942590061964161 : True := trivial
theorem fin.tw6515953530934532768 : True := trivial
theorem fin.tw17570709534508481193 : True := trivial
theorem fin.tw17041991840579044601 : True := trivial
theorem fin.tw7890596953891613788 : True := trivial
theorem fin.tw8119881530291889089 : True := trivial
theorem fin.tw3222278782482380304 : True := trivial
theorem fin.tw12669758225909598566 : True := trivial
theorem fin.tw4162185377826839926 : True := trivial
theorem fin.tw17698704350827878285 : True := trivial
theorem fin.tw2656788454239962097 : True := trivial
theorem fin.tw17981271138414752243 : True := trivial
theorem fin.tw6766580051018981234 : True := trivial
theorem fin.tw15533503492667675913 : True := trivial
theorem fin.tw8272817396058243321 : True := trivial
theorem fin.tw12751662967071866640 : True := trivial
theorem fin.tw9746901515087519452 : True := trivial
theorem fin.tw2304379251839397102 : True := trivial
theorem fin.tw1746088098344611273 : True := trivial
theorem fin.tw5486226609284752418 : True := trivial
theorem fin.tw15675102808854859970 : True := trivial
theorem fin.tw17662344363894024548 : True := trivial
theorem fin.tw2305881189932309285 : True := trivial
theorem fin.tw5073790198343104882 : True := trivial
theorem fin.tw12284014389350100970 : True := trivial
theorem fin.tw11293339424137598113 : True := trivial
theorem fin.tw9913140749668108558 : True := trivial
theorem fin.tw6707113841082798463 : True := trivial
theorem fin.tw17861066769153400444 : True := trivial
theorem fin.tw8025084765662995669 : True := trivial
theorem fin.tw111200028466390044 : True := trivial
theorem fin.tw4768634762848416435 : True := trivial
theorem fin.tw17656766251404061198 : True := trivial
theorem fin.tw8330952907988395303 : True := trivial
theorem fin.tw10511823565363050587 : True := trivial
theorem fin.tw10773260603588190666 : True := trivial
theorem fin.tw12105171945263650130 : True := trivial
theorem fin.tw17067295170570645592 : True := trivial
theorem fin.tw14166196953294261902 : True := trivial
theorem fin.tw12740692763255036000 : True := trivial
theorem fin.tw12550770813317053977 : True := trivial
theorem fin.tw16502652511500755 : True := trivial
theorem fin.tw8919302590299486024 : True := trivial
theorem fin.tw4598667867955821814 : True := trivial
theorem fin.tw16115155874713506467 : True := trivial
theorem fin.tw5098551885099359569 : True := trivial
theorem fin.tw6531376189190222733 : True := trivial
theorem fin.tw12180539936304867106 : True := trivial
theorem fin.tw9626000013912565594 : True := trivial
theorem fin.tw18373065035072037172 : True := trivial
theorem fin.tw9722632081671974098 : True := trivial
theorem fin.tw11039862389202566683 : True := trivial
theorem fin.tw2824846461999071874 : True := trivial
theorem fin.tw15741700470354863883 : True := trivial
theorem fin.tw17821466097196317003 : True := trivial
theorem fin.tw10599938827571368224 : True := trivial
theorem fin.tw17628183408451194143 : True := trivial
theorem fin.tw14568449535678555946 : True := trivial
theorem fin.tw10147658903529517814 : True := trivial
theorem fin.tw10567028658651823492 : True := trivial
theorem fin.tw7282745182861764756 : True := trivial
theorem fin.tw13177410634674063896 : True := trivial
theorem fin.tw16109372258727991565 : True := trivial
theorem fin.tw16540275574145912595 : True := trivial
theorem fin.tw10807920368746810246 : True := trivial
theorem fin.tw1635022588487117616 : True := trivial
theorem fin.tw7845872953664198349 : True := trivial
theorem fin.tw6381419901266130222 : True := trivial
theorem fin.tw3343445320678177929 : True := trivial
theorem fin.tw17933470926392208243 : True := trivial
theorem fin.tw744865244796547220 : True := trivial
theorem fin.tw17260493314774615805 : True := trivial
theorem fin.tw12062984312099226242 : True := trivial
theorem fin.tw12629903358213643309 : True := trivial
theorem fin.tw7522001649326652513 : True := trivial
theorem fin.tw8947099994592609211 : True := trivial
theorem fin.tw1012361349325877821 : True := trivial
theorem fin.tw4640724917100965312 : True := trivial
theorem fin.tw16958243865122950064 : True := trivial
theorem fin.tw18195182924450695511 : True := trivial
theorem fin.tw10329872625359487480 : True := trivial
theorem fin.tw14139026862911339306 : True := trivial
theorem fin.tw6454446336052903152 : True := trivial
theorem fin.tw4759752924163587094 : True := trivial
theorem fin.tw12355744275394475900 : True := trivial
theorem fin.tw799341379326975648 : True := trivial
theorem fin.tw17743408960866722510 : True := trivial
theorem fin.tw15344004072050561172 : True := trivial
theorem fin.tw5102460946473063141 : True := trivial
theorem fin.tw8656503046869711584 : True := trivial
theorem fin.tw12212933522069011988 : True := trivial
theorem fin.tw13516622038369049944 : True := trivial
theorem fin.tw2236755162388048479 : True := trivial
theorem fin.tw6968583824967984638 : True := trivial
theorem fin.tw8289400949097046189 : True := trivial
theorem fin.tw12237877928780879103 : True := trivial
theorem fin.tw5886281255703265246 : True := trivial
theorem fin.tw2086631506510373192 : True := trivial
theorem fin.tw2976117146107443816 : True := trivial
theorem fin.tw17719728818120068181 : True := trivial
theorem fin.tw14109310954907245088 : True := trivial
theorem fin.tw12464766053444552404 : True := trivial
theorem fin.tw12649782002744950493 : True := trivial
theorem fin.tw17449020081951674710 : True := trivial
theorem fin.tw7451905468542833597 : True := trivial
theorem fin.tw17974384156558142227 : True := trivial
theorem fin.tw2321816554428607280 : True := trivial
theorem fin.tw4950403968356008110 : True := trivial
theorem fin.tw4170516301191304579 : True := trivial
theorem fin.tw9357874355931990178 : True := trivial
theorem fin.tw16307707646766795581 : True := trivial
theorem fin.tw5796354222422608987 : True := trivial
theorem fin.tw9735714214384596553 : True := trivial
theorem fin.tw4879674094562380441 : True := trivial
theorem fin.tw17869975865946814897 : True := trivial
theorem fin.tw6127190174262240918 : True := trivial
theorem fin.tw3975253019698251321 : True := trivial
theorem fin.tw2367325634123391141 : True := trivial
theorem fin.tw13383306551100868464 : True := trivial
theorem fin.tw5734618986648460908 : True := trivial
theorem fin.tw14574801432027512755 : True := trivial
theorem fin.tw13294311002278339166 : True := trivial
theorem fin.tw3173534031939492945 : True := trivial
theorem fin.tw16196181902256332553 : True := trivial
theorem fin.tw3459265974087741279 : True := trivial
theorem fin.tw16275787546110486726 : True := trivial
theorem fin.tw9113340658982188547 : True := trivial
theorem fin.tw18387650150990424433 : True := trivial
theorem fin.tw10383673109516279431 : True := trivial
theorem fin.tw13790858721211988464 : True := trivial
theorem fin.tw1982079694162106894 : True := trivial
theorem fin.tw5011121235533021005 : True := trivial
theorem fin.tw8018989035897545986 : True := trivial
theorem fin.tw12696600883282566439 : True := trivial
theorem fin.tw12494888245299231016 : True := trivial
theorem fin.tw11336253725339858928 : True := trivial
theorem fin.tw13929302177132474383 : True := trivial
theorem fin.tw16656299143469825513 : True := trivial
theorem fin.tw12962497063298326498 : True := trivial
theorem fin.tw14431720936831517352 : True := trivial
theorem fin.tw757079261281740938 : True := trivial
theorem fin.tw5293390819737331289 : True := trivial
theorem fin.tw16496857829328116044 : True := trivial
theorem fin.tw6650461044873433052 : True := trivial
theorem fin.tw15149952090015108872 : True := trivial
theorem fin.tw12977279227502587607 : True := trivial
theorem fin.tw15373703851562958014 : True := trivial
theorem fin.tw5402249366112354979 : True := trivial
theorem fin.tw17801579834951734752 : True := trivial
theorem fin.tw15621619335703214680 : True := trivial
theorem fin.tw15832999045522443761 : True := trivial
theorem fin.tw11615019562542576733 : True := trivial
theorem fin.tw895571856199123645 : True := trivial
theorem fin.tw251868834278440796 : True := trivial
theorem fin.tw7470013935711676318 : True := trivial
theorem fin.tw3125960719983571848 : True := trivial
theorem fin.tw6956187926921108005 : True := trivial
theorem fin.tw1963134401048803436 : True := trivial
theorem fin.tw11575174756993882273 : True := trivial
theorem fin.tw8383268338085895543 : True := trivial
theorem fin.tw5901363791540438844 : True := trivial
theorem fin.tw2375283059286425376 : True := trivial
theorem fin.tw8577089030196625639 : True := trivial
theorem fin.tw7779959011674639804 : True := trivial
theorem fin.tw13066358836101814915 : True := trivial
theorem fin.tw10196768644732416780 : True := trivial
theorem fin.tw11079828417688620724 : True := trivial
theorem fin.tw4898026214463823928 : True := trivial
theorem fin.tw11151619158091525091 : True := trivial
theorem fin.tw9387745189664136937 : True := trivial
theorem fin.tw380778119907437045 : True := trivial
theorem fin.tw6634307039904815820 : True := trivial
theorem fin.tw12118000046449163591 : True := trivial
theorem fin.tw6068950659093879613 : True := trivial
theorem fin.tw17963964198891936676 : True := trivial
theorem fin.tw17784850919643140607 : True := trivial
theorem fin.tw14814673180317915700 : True := trivial
theorem fin.tw10895054467252067526 : True := trivial
theorem fin.tw18105285910621931680 : True := trivial
theorem fin.tw5678346346211369953 : True := trivial
theorem fin.tw12448240930570709186 : True := trivial
theorem fin.tw670465573061467203 : True := trivial
theorem fin.tw4868334931027891882 : True := trivial
theorem fin.tw13423622936843584764 : True := trivial
theorem fin.tw18230178534529381785 : True := trivial
theorem fin.tw15815952407149668801 : True := trivial
theorem fin.tw7684487725183542926 : True := trivial
theorem fin.tw13724452099449386491 : True := trivial
theorem fin.tw16401934584784274106 : True := trivial
theorem fin.tw8269367382603917829 : True := trivial
theorem fin.tw14497727239971306367 : True := trivial
theorem fin.tw7675655780812522254 : True := trivial
theorem fin.tw14560573928864763818 : True := trivial
theorem fin.tw480829909506669009 : True := trivial
theorem fin.tw16530489862217454893 : True := trivial
theorem fin.tw12996517811204074000 : True := trivial
theorem fin.tw4570111826955561243 : True := trivial
theorem fin.tw17362494058136835672 : True := trivial
theorem fin.tw1976505206021243879 : True := trivial
theorem fin.tw10874316729293906858 : True := trivial
theorem fin.tw7249652514872940865 : True := trivial
theorem fin.tw5011227242324532581 : True := trivial
theorem fin.tw6567050819087999508 : True := trivial
theorem fin.tw11414674201277728305 : True := trivial
theorem fin.tw1334366806492695327 : True := trivial
theorem fin.tw13925877587632400325 : True := trivial
theorem fin.tw11298980531735778240 : True := trivial
theorem fin.tw1397303283331804279 : True := trivial
theorem fin.tw1014637456484912126 : True := trivial
theorem fin.tw10925335251469727208 : True := trivial
theorem fin.tw2866121171748074186 : True := trivial
theorem fin.tw9806666330580929782 : True := trivial
theorem fin.tw3004984022683251337 : True := trivial
theorem fin.tw1613116972386908190 : True := trivial
theorem fin.tw8399098705505230059 : True := trivial
theorem fin.tw452842511749404161 : True := trivial
theorem fin.tw12310189802903077762 : True := trivial
theorem fin.tw8668149382578428375 : True := trivial
theorem fin.tw16285329926789087883 : True := trivial
theorem fin.tw13467322939085005891 : True := trivial
theorem fin.tw11000843779679162291 : True := trivial
theorem fin.tw10875463905939285979 : True := trivial
theorem fin.tw14245171486683049214 : True := trivial
theorem fin.tw10242451874928486539 : True := trivial
theorem fin.tw1887099378405440850 : True := trivial
theorem fin.tw12869217540446652890 : True := trivial
theorem fin.tw1819255440876223710 : True := trivial
theorem fin.tw17197158672614542318 : True := trivial
theorem fin.tw216489041496292469 : True := trivial
theorem fin.tw11273041486466551846 : True := trivial
theorem fin.tw6455845175183424153 : True := trivial
theorem fin.tw12876116671307685997 : True := trivial
set_option Elab.async true in
set_option maxHeartbeats 8000000 in
theorem fin : PySem.Challenge.rw_pf0126_01.Holds := by
  (w_on; o_law; k_head; (case hw => w_witness2))
  change WalkO gen.view_1_40 _ (XL gen.view_1_40 _) (kHook gen.heap_1_39 _ _).says _ _ _ _
  k_go0
  refine' wpAny_mono (Mine.law_body Mine.knows ?lawE ?lawXB ?lawTB ?lawB ?lawX ?lawT ?lawF ?lawN ?lawIL ?lawI ?lawx) ?lawPost ?lawExc
  case lawExc => exact fun _ _ e => e
  case lawB => assumption
  case lawX => assumption
  case lawXB => assumption
  case lawT => assumption
  case lawTB => assumption
  case lawF => assumption
  case lawN => assumption
  case lawIL => assumption
  case lawI => assumption
  case lawx => omega
  case lawE =>
    unfold Mine.POwn
    first | passes_own | with_unfolding_all passes_own
  case lawPost =>
    rintro f s' ⟨rfl, h', tk', m', rfl, F'⟩
    (try dsimp only)
    wrow_close
end Mine
theorem PySem.Challenge.cw_pf0126_01_holds : PySem.Challenge.rw_pf0126_01.Holds := by
  exact Mine.fin
